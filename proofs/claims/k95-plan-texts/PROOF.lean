import PyProof.Rows.All
import Wide.All
import OpenK.AllK
import Wide.FinOn
import KE.KSuper
import KE.KCallOwn
import HandS.ForMost
import HandS.ClsMeth
import HandS.OwnEq
import HandS.FStr
import HandS.IsInst
import HandS.Star
import HandS.SlotsOwn
import HandS.Defaults
import HandS.RaiseMore
import PyProof.NeKinds
import HandS.Walk
import KE.KFromBytes
import HandS.Exc
import HandS.ExcInit
import HandS.ExcSuper
import HandS.ExcIs
import KE.KExcIs
import HandS.ExcField
import HandS.ExcValue
import HandS.Lambda
import HandS.EndTab
import HandS.EndOwn
import HandS.Words
import HandS.WordsExc
import HandS.Dict
import HandS.Text
import PyProof.ReprLen
import KE.KRevSl
import KE.GoesRaise
import HandS.Codes
import PySem.Challenge.RW_loopstow_k95_plan_texts_refused
import KE.RegKSuper
import KE.RegKIsAll
section
set_option Elab.async false
set_option linter.all false
set_option maxRecDepth 100000
set_option maxHeartbeats 4000000
/-! Own rules over the hand layer. -/
namespace Ls
open PySem PySem.Spec PyProof.Rows L2

/-! ### what a for walks: one of two kinds -/
theorem PI.or {X : Cx} {tg iter : Expr} {w1 w2 : TI} (h1 : PI X tg iter w1) (h2 : PI X tg iter w2) : PI X tg iter (fun σ H R => w1 σ H R ∨ w2 σ H R) :=
  ⟨fun pins s σ H R I h => h.elim (fun h => h1.run pins s σ H R I h) (fun h => h2.run pins s σ H R I h)⟩
/-- a list or a tuple -/
theorem pi_seq {X : Cx} {tg l : Expr} {tl : TE} (hl : PE X l tl) : PI X tg l (fun σ H R => iList X.K tl σ H R ∨ iTup X.K tl σ H R) := PI.or (pi_list hl) (pi_tup hl)

/-! ### f(k = v, ..), no positional argument -/
section
variable {X : Cx} {CX : CXT} {k : Nat} {f : Addr} {fd : FuncData} {ps ks : List Str} {sp : Sp} {E : XK} {x : Str} {p pos : Pos} {kws : List Keyword} {tk : TA} {g : List Value → List Value → List Value} {gV : List V → List V → List V}
theorem pe_callK0 (F : FnOk X.prog X.w X.K X.mg X.base CX k f fd ps sp) (hr : Room k X.A) (hg : Gl X x) (hm : X.mg x = some (.ref f)) (hk : PySem.W.keepIn X.K (.ref f) = true) (hb : KBn X.K fd ps 0 ks g gV) (hx : Passes CX X E)
    (hkw : PK X kws tk) (hall : (backToKw pos (keywordEach kws X.env)).all (·.1.isSome) = true := by rfl) (hks : (backToKw pos (keywordEach kws X.env)).filterMap (·.1) = ks := by rfl)
    (hdb : (x == ("__debug__" : Str)) = false := by decide)
    (hpl : ((backTo pos (starEach [] X.env)).any (·.1) || (backToKw pos (keywordEach kws X.env)).any (·.1.isNone)) = false := by rfl) :
    PE X (.Call (.Name x p) [] kws pos) (tCallN 0 ks.length sp gV E tNil tk) := by
  refine ⟨fun pins s σ H Q I h => ?_⟩
  refine wpAny_Call_Name_kw (ld_glob I hg hm ?_ hdb)
  refine PySem.W.callWith_KW0 (h₀ := X.base) I.ok.mod.kin hk hall ?_ hpl
  refine thn (hkw.run pos pins s σ H _ I h) fun ws s2 ⟨zs, H2, I2, rz, l1, l2, q2⟩ => ⟨I2.kIn, ?_⟩
  rw [hks]
  exact run_fnN (us := []) (vs := []) F hr hb hx I2 .nil rz l1 l2 q2
/-- one parameter, given by its name -/
theorem kbn_one {K : PySem.W.Frag} {x qual : Str} {st : Stmt} {f : Addr} {fd : FuncData} {a : Str} (F : Fun K x qual st f fd)
    (h : ∀ (kV doc pm : Value) (an : Option Addr) (cdv ct u : Value), bindArgs (PySem.W.fnOf x qual (defArgs st) (defBody st) (defScope st) .none kV doc pm an cdv ct) ⟨[], [(a, u)]⟩ = pure [(a, u)]) :
    KBn K fd [a] 0 [a] (fun _ ws => ws) (fun _ zs => zs) := by
  obtain ⟨oc, od, kV, doc, pm, an, cdv, ct, osl, rfl, lk, hcd⟩ := F.ex
  refine ⟨fun s us ws _ l1 l2 => ?_, fun _ r => r⟩
  match us, ws, l1, l2 with
  | [], [u], _, _ => exact .of_eq (h kV doc pm an cdv ct u)
end

/-! ### str(x), x an instance whose class has the text's own __str__ -/
def rStrOwn (K : PySem.W.Frag) (g : Addr) (sp : Sp) (E : XK) : List V → Hp → VK → Prop := fun xs H Q => ∃ a C dx fs, xs = [V.ref a] ∧ H a = some (.ins C dx fs) ∧ PySem.W.findIn K (.ref C) "__str__" = some (some (.ref g)) ∧ sp [.ref a] H (fun z H' => ∃ y, z = .str y ∧ Q z H') E
section
variable {X : Cx} {CX : CXT} {g : Addr} {n : Nat} {sp : Sp} {E : XK}
theorem call_strOwn (hf : PySem.W.isFn X.K (.ref g) = true) (F : FnR X.prog X.w X.K X.mg X.base CX n g sp) (hr : Room (n + 2) X.A) (hx : Passes CX X E) : CallR X (.type "str") (rStrOwn X.K g sp E) := by
  intro pins s σ H xs us Q I r h
  obtain ⟨a, C, dx, fs, rfl, ha, hs, q⟩ := h
  obtain ⟨u, rfl, ru⟩ := r.one
  cases (show u = Value.ref a from ru)
  obtain ⟨mA, O, _⟩ := ins_get I.hok ha
  obtain ⟨od, J, _⟩ := O.look
  have hr2 : Room n X.A.in1.in1 := (show Room (n + 1) X.A.in1 from Room.in1 hr).in1
  refine PySem.W.kso_call hr2.units0 I.kIn J hs hf (wpAny_mono (wpAny_call (SlX.run_at (us := [.ref a]) (ws := [.ref a]) F hr2 I.env0.in1.in1 hx I (.cons rfl .nil) q)) (fun w s' z => ?_) fun _ _ x => x)
  obtain ⟨z', H', I', rz, y, ey, qz⟩ := z
  subst ey
  obtain ⟨t, e⟩ := (show ∃ t, w = Value.str y t from rz)
  cases e
  exact ⟨.str y, H', I', ⟨t, rfl⟩, qz⟩
/-- .. the written part by its own name (for a block) -/
theorem call_strOwnK {P : Program} {w : World} {K : PySem.W.Frag} {mg : Str → Option Value} {base : Heap} (hf : PySem.W.isFn K (.ref g) = true) (F : FnR P w K mg base CX n g sp) {A : Around} (hr : Room (n + 2) A) (hP : X.prog = P) (hw : X.w = w) (hK : X.K = K) (hmg : X.mg = mg) (hb : X.base = base) (hA : X.A = A) (hx : Passes CX X E) :
    CallR X (.type "str") (rStrOwn K g sp E) := by
  subst hP hw hK hmg hb hA
  exact call_strOwn hf F hr hx
end
end Ls
end
section
set_option Elab.async false
set_option linter.all false
set_option maxRecDepth 100000
set_option maxHeartbeats 4000000
namespace Ls
open PySem PySem.Spec PyProof.Rows L2

/-! ### a def that closes over __class__, its first statement super().__init__(..) -/
structure ScS (N ps : List Str) (sc : Scope) : Prop where
  kind : sc.kind = .function
  co : sc.isCoroutine = false
  gen : sc.isGenerator = false
  nd : N.Nodup
  pre : N.take ps.length = ps
  par : ∀ x ∈ ps, sc.names.lookup x = some .local
  nocell : ∀ y ∈ sc.names, y.2 ≠ .cell
  free : ∀ y ∈ sc.names, y.2 = .free → y.1 = "__class__"

def cxS (CX : CXT) (P : Program) (w : World) (K : PySem.W.Frag) (mg : Str → Option Value) (base : Heap) (N : List Str) (qual : Str) (scope : Scope) (f : Addr) (cd : Value) (cc : Addr) (A : Around) (outer : List Env) (s : Shared) (H : Hp) (E : XK) : Cx where
  prog := P
  w := w
  K := K
  mg := mg
  base := base
  A := A.deeper (PySem.W.ksEnv qual scope s.heap.objs.size f cd cc)
  N := N
  s_0 := s
  H_0 := H
  env := PySem.W.ksEnv qual scope s.heap.objs.size f cd cc
  outer := outer
  stack := PySem.W.ksEnv qual scope s.heap.objs.size f cd cc :: outer
  ex := []
  calm := true
  fn := fun x => !(x == ("__class__" : Str))
  pn := []
  xe := fun e s' => wpAny (model P w) (A.deeper (PySem.W.ksEnv qual scope s.heap.objs.size f cd cc)) (leaving (PySem.W.ksEnv qual scope s.heap.objs.size f cd cc) e) (fun _ s'' => CX outer H s E e s'') (fun e' s'' => CX outer H s E e' s'') s'

theorem rev_lookup {x : Str} {v : Value} : ∀ {ps : List Str} {us : List Value} {i : Nat}, ps.Nodup → ps[i]? = some x → us[i]? = some v → (ps.zip us).reverse.lookup x = some v
  | [], _, _, _, h, _ => by simp at h
  | _ :: _, [], _, _, _, h => by simp at h
  | p :: ps, u :: us, 0, nd, h1, h2 => by
    simp at h1 h2
    subst h1; subst h2
    rw [List.zip_cons_cons, List.reverse_cons, List.lookup_append]
    have : (ps.zip us).reverse.lookup p = none := by
      rw [List.lookup_eq_none_iff]
      rintro ⟨a, b⟩ hm
      have hm' := List.mem_reverse.mp hm
      have ha := (List.of_mem_zip hm').1
      have : p ≠ a := fun e => (List.nodup_cons.mp nd).1 (e ▸ ha)
      simpa using this
    rw [this]
    simp [List.lookup]
  | p :: ps, u :: us, i + 1, nd, h1, h2 => by
    rw [List.zip_cons_cons, List.reverse_cons, List.lookup_append, rev_lookup (i := i) (List.nodup_cons.mp nd).2 (by simpa using h1) (by simpa using h2)]
    rfl

section
variable {CX : CXT} {P : Program} {w : World} {K : PySem.W.Frag} {mg : Str → Option Value} {base : Heap} {N ps : List Str} {qual : Str} {scope : Scope} {f cc : Addr} {cd : Value} {A : Around} {outer : List Env} {s : Shared} {H : Hp} {E : XK} {us : List Value} {vs : List V}

theorem inv_startS {h1 : Heap} {tk : Nat} {ocell : Obj} {vc : Option Value} (S : ScS N ps scope) (hd : A.handled = none) (e0 : Env0 P w K mg base A outer s H) (hl : vs.length = ps.length) (r : Vals vs us)
    (hcell : K.lookup cc = some ocell) (hcd : ocell.data = .cell vc)
    (hns : h1.Ns s.heap.objs.size (fun x => (ps.zip us).reverse.lookup x)) (hk : ∀ b o, s.heap.get? b = some o → h1.get? b = some o) :
    Inv (cxS CX P w K mg base N qual scope f cd cc A outer s H E) [] (start N vs) H { s with heap := h1, toks := tk } := by
  have hpl : ps.length ≤ N.length := by have := congrArg List.length S.pre; rw [List.length_take] at this; omega
  have hccb : base.get? cc = some ocell := e0.mod.kin _ _ hcell
  have lkc : ∀ x c, List.lookup x [(("__class__" : Str), cc)] = some c → x = "__class__" ∧ c = cc := fun x c e => by
    by_cases hx : x = "__class__"
    · subst hx
      simp [List.lookup] at e
      exact ⟨rfl, e.symm⟩
    · have : (x == ("__class__" : Str)) = false := by simpa using hx
      simp [List.lookup, this] at e
  have noA : ∀ b : Addr, b ∉ (cxS CX P w K mg base N qual scope f cd cc A outer s H E).ex := fun b z => absurd (show b ∈ ([] : List Addr) from z) (by simp)
  refine ⟨⟨e0.mod, S.kind, rfl, rfl, Nat.le_refl _, fun y z c q1 q2 => ?_, fun y hy => ?_, fun y c hfn h => ?_, fun _ => hd, Around.frames_deeper e0.frames, .inr ⟨rfl, rfl⟩, fun b z => absurd z (noA b), e0.bs, e0.bsz, fun b _ _ => noA b, fun b z => absurd z (noA b), e0.funs, e0.frf⟩,
    rfl, e0.bare, Un.kept hk, ⟨_, hns, fun i y v q1 q2 q3 => ?_⟩, fun y c h => ?_, e0.hok.fresh (Nat.le_refl _), fun y c h => ?_, fun p hp => absurd (show p ∈ ([] : List (Addr × Obj)) from hp) (by simp), e0.hok.kept hk, ?_⟩
  · rw [(lkc y c q1).1, (lkc z c q2).1]
  · have hy : scope.names.lookup y = some .cell ∨ scope.names.lookup y = some .free := hy
    rcases hy with hy | hy
    · exact absurd rfl (S.nocell _ (PySem.mem_of_lookup hy))
    · have e := S.free _ (PySem.mem_of_lookup hy) rfl
      have e' : y = "__class__" := e
      subst e'
      exact ⟨cc, by show List.lookup _ [_] = _; simp [List.lookup]⟩
  · have e := (lkc y c h).1
    subst e
    exact absurd (show (!(("__class__" : Str) == ("__class__" : Str))) = true from hfn) (by simp)
  · have hi : i < vs.length := by
      unfold L2.start at q2
      by_cases hi : i < vs.length
      · exact hi
      · rw [List.getElem?_append_right (by simpa using hi)] at q2
        rw [List.getElem?_replicate] at q2
        split at q2 <;> cases q2
    have ha : vs[i]? = some v := by
      unfold L2.start at q2
      rw [List.getElem?_append_left (by simpa using hi), List.getElem?_map] at q2
      cases e : vs[i]? with
      | none => rw [e] at q2; cases q2
      | some a => rw [e] at q2; cases q2; rfl
    obtain ⟨u, hu, rv⟩ := r.get ha
    have hp : ps[i]? = some y := by
      rw [← S.pre, List.getElem?_take_of_lt (by omega)]; exact q1
    have ndP : ps.Nodup := by rw [← S.pre]; exact S.nd.sublist (List.take_sublist _ _)
    exact ⟨u, rv, .inl ⟨S.par y (List.mem_of_getElem? hp), rev_lookup ndP hp hu⟩⟩
  · obtain ⟨_, e⟩ := lkc y c h
    subst e
    exact ⟨vc, ocell, hk _ _ (e0.bs _ _ hccb).1, hcd⟩
  · obtain ⟨_, e⟩ := lkc y c h
    subst e
    exact (e0.bs _ _ hccb).2
  · unfold L2.start
    show _ = N.length
    rw [List.length_append, List.length_map, List.length_replicate]
    omega
end

/-- what the written part says for super().__init__ in a def of the class at D, of an instance of the class at C -/
structure SupT (P : Program) (K : PySem.W.Frag) (mg : Str → Option Value) (C D cc cda : Addr) (m : Str) (f2 : Addr) : Prop where
  cell : ∃ cl cld csl, K.lookup cc = some ⟨cl, cld, .cell (some (.ref D)), csl⟩
  code : ∃ ccl cdd vs ccs file tf, K.lookup cda = some ⟨ccl, cdd, .fields vs, ccs⟩ ∧ vs[2]? = some (.str file tf) ∧ ((P.main.file : Str) == file) = true
  clD : ∃ cdD, PySem.W.clsIn K D = some cdD
  sub : PySem.W.mroIn K C (.ref D) = some true
  sup : mg "super" = none
  top : (P.main.scope.names.lookup ("super" : Str)).isSome = false
  any : PySem.W.nsIn K cStatics "thirdparty.any" = some none
  fnd : PySem.W.ks_superIn K C D m = some (some (.ref f2))
  ty : PySem.W.typeIn K (.ref f2) = some (.type "function")
  fi : PySem.W.fnIn K f2 = true

section
variable {CX : CXT} {P : Program} {w : World} {K : PySem.W.Frag} {mg : Str → Option Value} {base : Heap} {k : Nat} {f cc cda : Addr} {name qual : Str} {params : Arguments} {scope : Scope} {dV kV doc pm ct oc : Value} {an od : Option Addr}
    {osl : Array (Option Value)} {N ps : List Str} {sp : Sp} {e : PySem.Expr} {es : List PySem.Expr} {rest : List Stmt} {m : Str} {p0 p1 apos pos epos : Pos} {pl : Sem Bool}
theorem fn_super (lk : K.lookup f = some ⟨oc, od, .func (PySem.W.ksFn name qual params (.Expr (.Call (.Attribute (.Call (.Name "super" p0) [] [] p1) m apos) (e :: es) [] pos) epos :: rest) scope dV kV doc pm an (.ref cda) ct cc), osl⟩)
    (hcd : PySem.W.codeIn K (.ref cda) qual = true) (S : ScS N ps scope)
    {ar : Arg} (hp0 : (params.posonlyargs ++ params.args).head? = some ar) (hps : ps.head? = some ar.arg) (hN0 : N.head? = some ar.arg) (har : scope.names.lookup ar.arg = some .local)
    (hks : scope.names.lookup ("super" : Str) = some .globalImplicit) (hkc : scope.names.lookup ("__class__" : Str) = some .free) (hmc : (m == ("__class__" : Str)) = false)
    (len : ∀ vs H Q E, sp vs H Q E → vs.length = ps.length)
    (hbody : ∀ (A : Around) (outer : List Env) (s : Shared) (H : Hp) (vs : List V) (Q : VK) (E : XK), Room k (A.deeper (PySem.W.ksEnv qual scope s.heap.objs.size f (.ref cda) cc)) → sp vs H Q E →
      ∃ (x C D dx f2 : Addr) (fs : List (Str × V)) (vs' : List V) (ta : TA) (u : TS) (spM : Sp) (CX' : CXT) (E' : XK), vs = .ref x :: vs' ∧ H x = some (.ins C dx fs) ∧ SupT P K mg C D cc cda m f2 ∧
        PA (cxS CX P w K mg base N qual scope f (.ref cda) cc A outer s H E) (e :: es) ta ∧ FnR P w K mg base CX' k f2 spM ∧ Passes CX' (cxS CX P w K mg base N qual scope f (.ref cda) cc A outer s H E) E' ∧
        PSs (cxS CX P w K mg base N qual scope f (.ref cda) cc A outer s H E) rest u ∧
        ta (start N vs) H (fun ws H1 => spM (.ref x :: ws) H1 (fun _ H2 => u { nx := fun _ H' => Q .non H', rt := Q } (start N vs) H2) E'))
    (hi : ∀ L, interactive (PySem.W.ksEnv qual scope L f (.ref cda) cc) = false) (hsw : ∀ L, swapsWith (.Call (.Attribute (.Call (.Name "super" p0) [] [] p1) m apos) (e :: es) [] pos) none epos.line (PySem.W.ksEnv qual scope L f (.ref cda) cc) = pure false)
    (he : ∀ L, eval (.Call (.Attribute (.Call (.Name "super" p0) [] [] p1) m apos) (e :: es) [] pos) (PySem.W.ksEnv qual scope L f (.ref cda) cc) = (do
      let ov ← attributeBase (.Call (.Name "super" p0) [] [] p1) m (PySem.W.ksEnv qual scope L f (.ref cda) cc) (eval (.Call (.Name "super" p0) [] [] p1) (PySem.W.ksEnv qual scope L f (.ref cda) cc))
      standAt apos.atName
      let (fn, first) ← holding [ov] (getMethod ov m pl)
      callWith pos fn first (backTo pos (starEach (e :: es) (PySem.W.ksEnv qual scope L f (.ref cda) cc))) []))
    (hst : ∀ L, starEach (e :: es) (PySem.W.ksEnv qual scope L f (.ref cda) cc) = (false, eval e (PySem.W.ksEnv qual scope L f (.ref cda) cc)) :: starEach es (PySem.W.ksEnv qual scope L f (.ref cda) cc))
    (hpl : ∀ L, (backTo pos (starEach es (PySem.W.ksEnv qual scope L f (.ref cda) cc))).any (·.1) = false) :
    FnOk P w K mg base CX (k + 1) f (PySem.W.ksFn name qual params (.Expr (.Call (.Attribute (.Call (.Name "super" p0) [] [] p1) m apos) (e :: es) [] pos) epos :: rest) scope dV kV doc pm an (.ref cda) ct cc) ps sp := by
  refine ⟨len, fun A outer s H args us vs Q E hr e0 hb r hsp => ?_⟩
  have hl := len _ _ _ _ hsp
  have KX : K.In s.heap := e0.mod.kin.keeps fun b o e => (e0.bs b o e).1
  have lim : s.heap.NoLimit := e0.mod.nolimit.keeps fun b o e => (e0.bs b o e).1
  obtain ⟨x, C, D, dx, f2, fs, vs', ta, u, spM, CX', E', rfl, hx, T, hta, FM, hpx, hrest, hq⟩ := hbody A outer s H vs Q E (hr.deeper _) hsp
  obtain ⟨cl, cld, csl, hcell⟩ := T.cell
  obtain ⟨ccl, cdd, cvs, ccs, file, tf, hcode, hvs, hfile⟩ := T.code
  obtain ⟨cdD, hD⟩ := T.clD
  refine PySem.ks_codeAny_call_defAt (binds := ps.zip us) hr.depth (KX _ _ lk) rfl lim (PySem.W.codeRec_of KX hcd) rfl hb S.nocell (fun y hy => S.par y.1 (List.of_mem_zip hy).1) (fun h1 hns hk => ?_) S.co S.gen S.kind
  have I : Inv (cxS CX P w K mg base N qual scope f (.ref cda) cc A outer s H E) [] (start N (.ref x :: vs')) H { s with heap := h1, toks := s.toks + (ps.zip us).length } :=
    inv_startS (vs := .ref x :: vs') S hr.hd e0 hl r hcell rfl hns hk
  have hX : K.In h1 := I.kIn
  obtain ⟨mA, O, _⟩ := ins_get I.hok hx
  obtain ⟨odx, J, _⟩ := O.look
  obtain ⟨oD, hD1, hD2⟩ : ∃ oD, h1.get? D = some oD ∧ oD.data = .cls cdD := by
    unfold PySem.W.clsIn at hD
    split at hD
    · rename_i c d cd' sl ho
      cases hD
      exact ⟨_, hX _ _ ho, rfl⟩
    · cases hD
  have hbase : ∀ b o, s.heap.get? b = some o → h1.get? b = some o := hk
  refine PySem.ks_wpAt_execs_cons (PySem.ks_wpAt_Expr_any (PySem.ks_wpAt_MethodCall (pl := pl) ?_ (he _)) (hi _) (hsw _))
  refine PySem.ks_wpAt_super_base (env := PySem.W.ksEnv qual scope s.heap.objs.size f (.ref cda) cc) hks hkc hmc rfl (hX _ _ lk) rfl hp0 rfl (hX _ _ hcode) rfl hvs hfile T.top ?_
  obtain ⟨mb, hb1, hb2⟩ := I.mod.blt
  refine PySem.W.ks_loadName_global S.kind hks (Calls.loadGlobal_builtin (env := PySem.W.ksEnv qual scope s.heap.objs.size f (.ref cda) cc) (I.mod.glob.keeps I.bk) T.sup (hb1.keeps I.bk) ((hb2 _ (by decide +kernel)).trans (show bootBuiltins "super" = some (.type "super") by first | rfl | kernel_rfl)) ⟨rfl, ?_⟩)
  refine wpAny_loadName_free S.kind hkc (by show List.lookup _ [_] = _; simp [List.lookup]) ⟨_, hX _ _ hcell, rfl⟩ ?_
  have hself : (ps.zip us).reverse.lookup ar.arg = some (.ref x) := by
    match ps, us, hps, r with
    | p :: ps', u' :: us', hp', .cons ru _ =>
      have hp'' : p = ar.arg := by simpa using hp'
      subst hp''
      cases (show u' = Value.ref x from ru)
      have ndP : (ar.arg :: ps').Nodup := by
        have := S.pre
        rw [← this]
        exact S.nd.sublist (List.take_sublist _ _)
      exact rev_lookup (i := 0) ndP rfl rfl
  refine wpAny_loadName_local S.kind har hns hself ?_
  refine PySem.ks_wpAny_isType_cls hD1 hD2 ⟨rfl, ?_⟩
  refine PySem.ks_wpAny_call_super hD1 hD2 J.at_ J.cls (fun c e => ?_) (PySem.W.looks_mroIn hX T.sub) (fun h' hso k' => ?_)
  · have := J.no
    unfold PySem.W.notCls at this
    rw [e] at this
    exact Bool.noConfusion this
  -- the super object is pinned
  have I1 : Inv (cxS CX P w K mg base N qual scope f (.ref cda) cc A outer s H E) [(h1.objs.size, PySem.W.ks_superObj D x C)] (start N (.ref x :: vs')) H { s with heap := h', toks := s.toks + (ps.zip us).length } :=
    ClX.pin_new (s := { s with heap := h1, toks := s.toks + (ps.zip us).length }) (t' := s.toks + (ps.zip us).length) I k' (Nat.le_refl _) hso (fun v z => nomatch z)
  have hX' : K.In h' := I1.kIn
  have fnd := T.fnd
  cases hc : PySem.W.clsIn K C with
  | none => unfold PySem.W.ks_superIn at fnd; rw [hc] at fnd; cases fnd
  | some cdC =>
    unfold PySem.W.ks_superIn at fnd
    rw [hc] at fnd
    obtain ⟨of, hof, hofc⟩ : ∃ of, h'.get? f2 = some of ∧ of.cls = .type "function" := by
      have ht' : (K.lookup f2).map (·.cls) = some (.type "function") := T.ty
      cases z : K.lookup f2 with
      | none => rw [z] at ht'; cases ht'
      | some of => rw [z] at ht'; exact ⟨of, hX' _ _ z, Option.some.inj ht'⟩
    refine PySem.ks_wpAny_getMethod_super (h := h') hso (PySem.W.looks_opaque hX' T.any) (l₀ := cdC.mro) ?_ rfl hX' fnd hof hofc (PySem.W.ks_ne hX J hc) hmc ?_
    · exact fun A Q E s k q => wpAny_bind ((PySem.W.looks_clsIn hX' hc) A _ E s k (wpAny_pure q))
    · have I2 := ClX.pin_new (s := { s with heap := h', toks := s.toks + (ps.zip us).length }) (o := PySem.W.methodObj (.ref f2) (.ref x)) (t' := s.toks + (ps.zip us).length + 1) I1 (fun _ _ z => Heap.get?_push_of_some _ z) (Nat.le_refl _) (Heap.get?_push_size h' rfl) (fun v z => nomatch z)
      refine ClX.callwith_cm (X := cxS CX P w K mg base N qual scope f (.ref cda) cc A outer s H E) I2 (ClX.base_none I1 (Nat.le_refl _)) T.fi (thn (hta.run pos _ _ _ H _ I2 hq) fun us2 s3 ⟨ws, H2, I3, rv, q2⟩ => ⟨⟨ClX.pin_at I3, I3.kIn⟩, ?_⟩) (hst _) (hpl _)
      refine thn (ClX.run_cm FM (hr.deeper _) hpx I3 rv q2) fun v s4 h4 => ?_
      obtain ⟨v4, H4, I4, _, q4⟩ := ClX.unpinE h4
      refine wpAt_of_wpAny (wpAny_mono (hrest.run [] s4 _ H4 _ I4 q4) (fun fl s' hs => ?_) fun e s' hs => hs)
      have fin : ∀ {σ' : L2.St} {H' : Hp} {v : V} {u : Value}, Inv (cxS CX P w K mg base N qual scope f (.ref cda) cc A outer s H E) [] σ' H' s' → RelV v u → Q v H' → CE outer P w H s Q u s' :=
        fun {σ' H' v u} J rv q => ⟨v, H', J.os, J.bare, J.base, J.hok, rv, q⟩
      cases fl with
      | ret u =>
        obtain ⟨v, σ', H', J, rv, q⟩ := hs
        exact fin J rv q
      | next =>
        obtain ⟨σ', H', J, q⟩ := hs
        exact fin (v := V.non) (u := Value.none) J rfl q
      | brk =>
        obtain ⟨_, _, _, q⟩ := hs
        exact False.elim q
      | cont =>
        obtain ⟨_, _, _, q⟩ := hs
        exact False.elim q
end
end Ls
end
section
set_option Elab.async false
set_option linter.all false
set_option maxRecDepth 100000
set_option maxHeartbeats 4000000
namespace LsN
open PySem PySem.SeqAt
open AutoSeq1 (wpAny_loadPart')
open MeetsSeq MeetsSeq2 MeetsSeq3 SeqRoads2
section
variable {prog : Program} {w : World} {A : Around} {R : Result → Shared → Prop}
theorem ne_loopG (l b : Addr) (N : Nat) (I : Nat → Shared → Prop) (hl : GQ.ListI prog w A (fun e s' => R (.error e) s') l b N I)
    (fin : ∀ s, I N s → R (.ok (.ret (.bool false))) s) (k : Nat) :
    ∀ i : Nat, N - i = k → i ≤ N → ∀ s, I i s →
      wpAny (model prog w) A.in1 (Builtin.«list.__eq__.loop» ⟨[.ref l, .ref b, rawInt i, rawInt 3], []⟩) (GQ.FinOf prog w A R) (fun e s' => R (.error e) s') s := by
  induction k with
  | zero =>
    intro i hk hi s h
    obtain ⟨items, items2, n, n2, hl1, hb1, hs1, hs2, _⟩ := hl _ _ h
    have hi' : i = N := by omega
    have hR : R (.ok (.ret (.bool false))) s := fin s (hi' ▸ h)
    obtain ⟨hp, g, d, tk, os⟩ := s
    wp_walk using wpAny_loadPart' hl1, wpAny_loadPart' hb1
    have hi1 : items[((i : Nat) : Int).toNat]? = none := by simp; omega
    have hi2 : items2[((i : Nat) : Int).toNat]? = none := by simp; omega
    rw [hi1, hi2]
    wp_walk using wpAny_loadPart' hl1, wpAny_loadPart' hb1
    show R (.ok (.ret (.bool (items.size != items2.size)))) _
    rw [hs1, hs2]
    simpa using hR
  | succ k ih =>
    intro i hk hi s h
    obtain ⟨items, items2, n, n2, hl1, hb1, hs1, hs2, turn⟩ := hl _ _ h
    have hlt : i < items.size := by omega
    have hlt2 : i < items2.size := by omega
    have ht := turn hlt hlt2
    obtain ⟨hp, g, d, tk, os⟩ := s
    wp_walk using wpAny_loadPart' hl1, wpAny_loadPart' hb1
    have hi1 : items[((i : Nat) : Int).toNat]? = some items[i] := by simp [hlt]
    have hi2 : items2[((i : Nat) : Int).toNat]? = some items2[i] := by simp [hlt2]
    have hc : ((i : Int) + 1) = ((i + 1 : Nat) : Int) := by omega
    rw [hi1, hi2]
    refine wpAny_bind (wpAny_mono ht (fun r s2 h2 => ?_) fun _ _ x => x)
    obtain ⟨hr, h2⟩ := h2
    subst hr
    have hrec := ih (i + 1) (by omega) (by omega) s2 h2
    obtain ⟨hp2, g2, d2, tk2, os2⟩ := s2
    wp_walk
    rw [hc]
    exact ⟨plainId_quiet plain_eq_loop _, codeAny_builtin entry_eq_loop (by
      rw [Around.under_plainId plain_eq_loop _]
      exact hrec)⟩
theorem list_neG (l b : Addr) (N : Nat) (I : Nat → Shared → Prop) (hl : GQ.ListI prog w A (fun e s' => R (.error e) s') l b N I)
    (fin : ∀ s, I N s → R (.ok (.ret (.bool false))) s) {s : Shared} (h : I 0 s) :
    wpAny (model prog w) A.in1 (Builtin.«list.__ne__» ⟨[.ref l, .ref b], []⟩) (GQ.FinOf prog w A R) (fun e s' => R (.error e) s') s := by
  obtain ⟨items, items2, n, n2, hl1, hb1, hs1, hs2, _⟩ := hl _ _ h
  have hrec := ne_loopG (A := A) (R := R) l b N I hl fin _ 0 rfl (Nat.zero_le _) s h
  obtain ⟨hp, g, d, tk, os⟩ := s
  have f3 := AutoSeq1.sub_list_list
  have hne : ¬ (items.size != items2.size) = true := by simp [hs1, hs2]
  wp_walk using wpAny_loadPart' hl1, wpAny_loadPart' hb1
  exact ⟨plainId_quiet plain_eq_loop _, codeAny_builtin entry_eq_loop (by
    rw [Around.under_plainId plain_eq_loop _]
    exact hrec)⟩
end
section
variable {prog : Program} {w : World} {A : Around} {E : Value → Shared → Prop} {s : Shared}
theorem rc_listNe {l b : Addr} {N : Nat} {Q : Value → Shared → Prop} (hu : A.units < cLine) (I : Nat → Shared → Prop) (hl : GQ.ListI prog w A E l b N I)
    (fin : ∀ s, I N s → Q (.bool false) s) (h : I 0 s) : wpAny (model prog w) A (richCompare .NotEq (.ref l) (.ref b)) Q E s := by
  obtain ⟨items, items2, n, n2, hl1, hb1, _, _, _⟩ := hl _ _ h
  refine wpAny_richCompare_same_room (op := .NotEq) ⟨_, hl1, rfl⟩ ⟨_, hb1, rfl⟩ F.slot_list_ne (GQ.call_here F.slot_list_ne ⟨_, hl1, rfl⟩ F.entry_list_ne (F.args_list_ne_2 _ _) ?_) hu
  exact list_neG (R := wants (fun v s' => v ≠ .notImplemented ∧ Q v s') E) l b N I hl (fun s' q => ⟨(fun x => nomatch x), fin s' q⟩) h
end
end LsN
namespace Ls
open PySem PySem.Spec PyProof.Rows L2
section
variable {X : Cx} {n : Nat} {D : Eqv}
/-- x != y of two lists whose items are equal (by ==, which only makes objects): False -/
def rNeG (D : Eqv) : R2 := fun x y H Q => DList D x y H ∧ ∀ H', Ext H H' → Q (.bl false) H'
theorem op_neG (hD : Mon D) (h : EqG X n D) (hr : Room (n + 1) X.A) : OpR X (compareOp .NotEq) (rNeG D) := by
  intro pins s σ H x y v u Q I rx ry hq
  obtain ⟨⟨a, b, xs, ys, rfl, rfl, ha, hb, p⟩, q⟩ := hq
  cases (show v = Value.ref a from rx)
  cases (show u = Value.ref b from ry)
  show wpAny (model X.prog X.w) X.A (richCompare .NotEq (.ref a) (.ref b)) (EP X pins σ Q) X.xe s
  have sb : L2.Sub X (n + 1) X.A := ⟨hr, rfl⟩
  refine LsN.rc_listNe (N := xs.length) hr.units0 (fun _ s' => LoopI X pins σ H s') (fun i s' q => ?_) (fun s' q' => ?_) ⟨H, I, Ext.rfl'⟩
  · obtain ⟨H1, I1, e1⟩ := id q
    obtain ⟨z, its, k, r, e⟩ := I1.hok a _ (e1 _ _ ha)
    obtain ⟨z2, its2, k2, r2, e2⟩ := I1.hok b _ (e1 _ _ hb)
    refine ⟨its.toArray, its2.toArray, k, k2, e, e2, by rw [List.size_toArray, ← r.length], by rw [List.size_toArray, ← r2.length, ← p.1], fun h1 h2 => ?_⟩
    exact turnG hD h sb p r r2 i h1 h2 s' q
  · obtain ⟨H', I', e'⟩ := q'
    exact ⟨.bl false, H', I', rfl, q H' e'⟩
end
end Ls
end
section
set_option Elab.async false
set_option linter.all false
set_option maxRecDepth 100000
set_option maxHeartbeats 4000000
namespace Ls
open PySem PySem.Spec PyProof.Rows L2

/-! ### callees in one word -/
section
variable (P : Program) (w : World) (K : PySem.W.Frag) (mg : Str → Option Value) (base : Heap) (CX : CXT) (k : Nat)
/-- the def under the module's name x keeps sp -/
structure Cal (x : Str) (sp : Sp) : Prop where
  ex : ∃ f, mg x = some (.ref f) ∧ PySem.W.keepIn K (.ref f) = true ∧ FnR P w K mg base CX k f sp
/-- .. called with one keyword -/
structure CalK (x a : Str) (sp : Sp) : Prop where
  ex : ∃ f fd, mg x = some (.ref f) ∧ PySem.W.keepIn K (.ref f) = true ∧ KBn K fd [a] 0 [a] (fun _ ws => ws) (fun _ zs => zs) ∧ FnOk P w K mg base CX k f fd [a] sp
/-- the class at C under the module's name x; its __init__ keeps sp -/
structure Mkc (C : Addr) (x : Str) (sp : Sp) : Prop where
  ex : ∃ f, mg x = some (.ref C) ∧ Mk K C f ∧ FnR P w K mg base CX k f sp
/-- the classmethod m of the class at C keeps sp -/
structure Clm (C : Addr) (m : Str) (sp : Sp) : Prop where
  ex : ∃ mc p g, ClX.CRead K C mc ∧ ClX.CMet K C mc m p g ∧ FnR P w K mg base CX k g sp
end
def tCl (sp : Sp) (E : XK) (t : TA) : TE := fun σ H Q => t σ H fun vs H1 => sp vs H1 Q E
section
variable {X : Cx} {CX : CXT} {k : Nat} {C : Addr} {sp : Sp} {E : XK} {x m a : Str} {p pos apos : Pos} {e o : PySem.Expr} {es : List PySem.Expr} {kws : List Keyword} {ta : TE} {t tk : TA} {pl : Sem Bool}
theorem pe_cal (c : Cal X.prog X.w X.K X.mg X.base CX k x sp) (hr : Room k X.A) (hg : Gl X x) (hx : Passes CX X E) (ha : PA X (e :: es) t) (hd : (x == ("__debug__" : Str)) = false := by decide)
    (he : starEach (e :: es) X.env = (false, eval e X.env) :: starEach es X.env := by rfl) (hpl : (backTo pos (starEach es X.env)).any (·.1) = false := by rfl) :
    PE X (.Call (.Name x p) (e :: es) [] pos) (tCl sp E t) := by
  obtain ⟨f, hm, hk, F⟩ := c.ex
  refine ⟨fun pins s σ H Q I h => ?_⟩
  refine wpAny_Call_Name_kw (ld_glob I hg hm ?_ hd)
  refine PySem.W.callWith_K (h₀ := X.base) I.ok.mod.kin hk (thn (ha.run pos pins s σ H _ I h) fun us s1 ⟨vs, H1, I1, r, q⟩ => ⟨I1.kIn, ?_⟩) he hpl
  exact wpAny_call (run_fnR F hr hx I1 r q)
theorem pe_calk (c : CalK X.prog X.w X.K X.mg X.base CX k x a sp) (hr : Room k X.A) (hg : Gl X x) (hx : Passes CX X E)
    (hkw : PK X kws tk) (hall : (backToKw pos (keywordEach kws X.env)).all (·.1.isSome) = true := by rfl) (hks : (backToKw pos (keywordEach kws X.env)).filterMap (·.1) = [a] := by rfl)
    (hdb : (x == ("__debug__" : Str)) = false := by decide)
    (hpl : ((backTo pos (starEach [] X.env)).any (·.1) || (backToKw pos (keywordEach kws X.env)).any (·.1.isNone)) = false := by rfl) :
    PE X (.Call (.Name x p) [] kws pos) (tCallN 0 1 sp (fun _ zs => zs) E tNil tk) := by
  obtain ⟨f, fd, hm, hk, hb, F⟩ := c.ex
  exact pe_callK0 F hr hg hm hk hb hx hkw hall hks hdb hpl
theorem pe_mkc (c : Mkc X.prog X.w X.K X.mg X.base CX k C x sp) (hr : Room (k + 1) X.A) (hg : Gl X x) (hx : Passes CX X E) (ha : PA X (e :: es) t) (hdb : (x == ("__debug__" : Str)) = false := by decide)
    (he : starEach (e :: es) X.env = (false, eval e X.env) :: starEach es X.env := by rfl) (hpl : (backTo pos (starEach es X.env)).any (·.1) = false := by rfl) :
    PE X (.Call (.Name x p) (e :: es) [] pos) (StX.tMakeR C sp E t) := by
  obtain ⟨f, hm, M, F⟩ := c.ex
  exact StX.pe_makeR M F hr hg hm hx ha hdb he hpl
theorem pe_clm (c : Clm X.prog X.w X.K X.mg X.base CX k C m sp) (hr : Room k X.A) (ho : PE X o ta) (hx : Passes CX X E) (ha : PA X (e :: es) t)
    (hst : starEach (e :: es) X.env = (false, eval e X.env) :: starEach es X.env := by rfl) (hpl : (backTo pos (starEach es X.env)).any (·.1) = false := by rfl)
    (ht : eval (.Call (.Attribute o m apos) (e :: es) [] pos) X.env = (do
      let ov ← eval o X.env
      standAt apos.atName
      let (f, first) ← holding [ov] (getMethod ov m pl)
      callWith pos f first (backTo pos (starEach (e :: es) X.env)) (backToKw pos (keywordEach [] X.env))) := by rfl) :
    PE X (.Call (.Attribute o m apos) (e :: es) [] pos) (ClX.tCMeth C sp E ta t) := by
  obtain ⟨mc, p, g, r, c, F⟩ := c.ex
  exact ClX.pe_cmeth (pl := pl) ho r c F hr hx ha hst hpl ht
end

theorem iteNo {c : Bool} {A B : Prop} (hc : c = false) (h : B) : if c = true then A else B := by rw [hc, if_neg Bool.false_ne_true]; exact h
theorem strNo {a b : Str} (h : ¬ a = b) : decide (V.str a = V.str b) = false := decide_eq_false fun e => h (V.str.inj e)
theorem iteYes {c : Bool} {A B : Prop} (hc : c = true) (h : A) : if c = true then A else B := by rw [hc, if_pos rfl]; exact h
/-! ### constants of the module -/
section
variable {X : Cx} {x z : Str} {i : Int} {tk : Tok} {a : Addr} {pos : Pos}
theorem pe_gstr (hg : Gl X x) (hm : X.mg x = some (.str z tk)) (hd : (x == ("__debug__" : Str)) = false := by decide) : PE X (.Name x pos) (tC (.str z)) := pe_glob hg hm ⟨_, rfl⟩ hd
theorem pe_gint (hg : Gl X x) (hm : X.mg x = some (.int i tk)) (hd : (x == ("__debug__" : Str)) = false := by decide) : PE X (.Name x pos) (tC (.int i)) := pe_glob hg hm ⟨_, rfl⟩ hd
theorem pe_gref (hg : Gl X x) (hm : X.mg x = some (.ref a)) (hd : (x == ("__debug__" : Str)) = false := by decide) : PE X (.Name x pos) (tC (.ref a)) := pe_glob hg hm rfl hd
theorem pe_gty {T : String} (hg : Gl X x) (hm : X.mg x = none) (hv : bootBuiltins x = some (.type T)) (hn : x ≠ "__name__" := by decide) (hd : (x == ("__debug__" : Str)) = false := by decide) : PE X (.Name x pos) (tC (.ty T)) := pe_bltn hg hm hv rfl hn hd
end

/-! ### what a dict's table says behind a store -/
theorem len_put {κ : Type} [DecidableEq κ] {kvs : List (κ × V)} {k : κ} {x v : V} (h : valV kvs k = some x) : (putK kvs k v).length = kvs.length := by
  unfold putK
  rw [valV_any, h]
  simp
theorem val_same {κ : Type} [DecidableEq κ] {kvs : List (κ × V)} {k : κ} {v : V} : valV (putK kvs k v) k = some v := by rw [valV_put, if_pos rfl]
theorem val_other {κ : Type} [DecidableEq κ] {kvs : List (κ × V)} {k j : κ} {v : V} {r : Option V} (hne : ¬ j = k) (h : valV kvs j = r) : valV (putK kvs k v) j = r := by rw [valV_put, if_neg hne]; exact h

/-! ### heaps that keep all but two objects -/
def Keep (p c : Addr) (H H' : Hp) : Prop := ∀ b o, H b = some o → b ≠ p → b ≠ c → H' b = some o
theorem Keep.refl {p c : Addr} {H : Hp} : Keep p c H H := fun _ _ e _ _ => e
theorem Keep.trans {p c : Addr} {H H1 H2 : Hp} (a : Keep p c H H1) (b : Keep p c H1 H2) : Keep p c H H2 := fun d o e h1 h2 => b d o (a d o e h1 h2) h1 h2
theorem Keep.upd1 {p c : Addr} {H : Hp} {o : HO} : Keep p c H (upd H p o) := fun b u e h1 _ => by rw [upd_ne h1]; exact e
theorem Keep.upd2 {p c : Addr} {H : Hp} {o : HO} : Keep p c H (upd H c o) := fun b u e _ h2 => by rw [upd_ne h2]; exact e
theorem Keep.ext {p c : Addr} {H H' : Hp} (e : Ext H H') : Keep p c H H' := fun b o h _ _ => e b o h
theorem Keep.new {p c a : Addr} {H : Hp} {o : HO} (h : H a = none) : Keep p c H (upd H a o) := Keep.ext (Ext.upd h)

/-! ### rules within a comprehension's block: the written part by its own name -/
section
variable {X : Cx} {K : PySem.W.Frag}
theorem pi_listK {tg l : PySem.Expr} {tl : TE} (hK : X.K = K) (hl : PE X l tl) : PI X tg l (iList K tl) := by subst hK; exact pi_list hl
theorem pi_tupK {tg l : PySem.Expr} {tl : TE} (hK : X.K = K) (hl : PE X l tl) : PI X tg l (iTup K tl) := by subst hK; exact pi_tup hl
def rTupOf (K : PySem.W.Frag) : List V → Hp → VK → Prop := fun xs H Q => ∃ p ys, xs = [.ref p] ∧ ((SqL K H p ys ∧ ∀ l, H l = none → Q (.ref l) (upd H l (.tup ys))) ∨ (SqT K H p ys ∧ Q (.ref p) H))
theorem call_tupK (hK : X.K = K) : CallR X (.type "tuple") (rTupOf K) := by subst hK; exact call_tuple_of
def rLenSeq (K : PySem.W.Frag) : List V → Hp → VK → Prop := fun xs H Q => ∃ p ys, xs = [.ref p] ∧ (SqL K H p ys ∨ SqT K H p ys) ∧ Q (.int ys.length) H
theorem call_lenK (hK : X.K = K) : CallR X (.builtin "len") (rLenSeq K) := by subst hK; exact call_len_seq
theorem call_isiB (hK : X.K = K) : CallR X (.builtin "isinstance") (rIsi K) := by subst hK; exact call_isi
def rJoinK (K : PySem.W.Frag) : V → List V → Hp → VK → Prop := fun x xs H Q => ∃ a p, ∃ ys : List Str, x = .str a ∧ xs = [.ref p] ∧ (SqL K H p (ys.map V.str) ∨ SqT K H p (ys.map V.str)) ∧ (ys.map (·.length)).sum + ys.length * a.length ≤ 16777216 ∧ Q (.str (Txt.join a ys)) H
theorem pe_joinK {o e : PySem.Expr} {to te : TE} {apos pos : Pos} (hK : X.K = K) (ho : PE X o to) (he : PE X e te) (hs : starEach [e] X.env = [(false, eval e X.env)] := by rfl) (hbase : attributeBase o "join" X.env (eval o X.env) = eval o X.env := by rfl) (hline : (apos.endLine == pos.line) = true := by rfl) :
    PE X (.Call (.Attribute o "join" apos) [e] [] pos) (tM1 (rJoinK K) to te) := by subst hK; exact pe_join ho he hs hbase hline
end

/-! ### a list beside [] -/
def rNeNil : R2 := fun x y H Q => ∃ a b xs, x = .ref a ∧ y = .ref b ∧ H a = some (.lst xs) ∧ H b = some (.lst []) ∧ Q (.bl (!xs.isEmpty)) H
def rEqNil : R2 := fun x y H Q => ∃ a b xs, x = .ref a ∧ y = .ref b ∧ H a = some (.lst xs) ∧ H b = some (.lst []) ∧ Q (.bl xs.isEmpty) H
section
variable {X : Cx}
theorem op_neNil {k : Nat} (hr : Room k X.A) : OpR X (compareOp .NotEq) rNeNil := by
  intro pins s σ H x y v u Q I rx ry hq
  obtain ⟨a, b, xs, rfl, rfl, ha, hb, q⟩ := hq
  cases (show v = Value.ref a from rx)
  cases (show u = Value.ref b from ry)
  show wpAny (model X.prog X.w) X.A (richCompare .NotEq (.ref a) (.ref b)) (EP X pins σ Q) X.xe s
  obtain ⟨its, r, p1, _⟩ := I.list (SqL.of (K := X.K) ha)
  obtain ⟨its2, r2, p2, _⟩ := I.list (SqL.of (K := X.K) hb)
  cases r2
  cases r with
  | nil => exact SeqAt.RcNeAt.lists (e := fun _ => true) p1.isList p2.isList rfl hr.units0 (fun j h1 _ => absurd h1 (by simp)) X.prog X.w X.xe _ ⟨.bl false, H, I, rfl, q⟩
  | cons r0 r1 => exact SeqAt.RcNeAt.lists_lengths p1.isList p2.isList (by simp) hr.units0 X.prog X.w X.xe _ ⟨.bl true, H, I, rfl, q⟩
theorem op_eqNil {k : Nat} (hr : Room k X.A) : OpR X (compareOp .Eq) rEqNil := by
  intro pins s σ H x y v u Q I rx ry hq
  obtain ⟨a, b, xs, rfl, rfl, ha, hb, q⟩ := hq
  cases (show v = Value.ref a from rx)
  cases (show u = Value.ref b from ry)
  show wpAny (model X.prog X.w) X.A (richCompare .Eq (.ref a) (.ref b)) (EP X pins σ Q) X.xe s
  obtain ⟨its, r, p1, _⟩ := I.list (SqL.of (K := X.K) ha)
  obtain ⟨its2, r2, p2, _⟩ := I.list (SqL.of (K := X.K) hb)
  cases r2
  cases r with
  | nil => exact SeqAt.RcAt.lists (e := fun _ => true) p1.isList p2.isList rfl hr.units0 (fun j h1 _ => absurd h1 (by simp)) X.prog X.w X.xe _ ⟨.bl true, H, I, rfl, q⟩
  | cons r0 r1 => exact SeqAt.RcAt.lists_lengths p1.isList p2.isList (by simp) hr.units0 X.prog X.w X.xe _ ⟨.bl false, H, I, rfl, q⟩
end
end Ls
end
section
set_option Elab.async false
set_option linter.all false
set_option maxRecDepth 100000
set_option maxHeartbeats 4000000
namespace Ls
open PySem PySem.Spec PyProof.Rows L2

/-! ### parts of a heap -/
/-- what is new in H' beside H -/
def nw (H H' : Hp) : Hp := fun b => match H b with | none => H' b | some _ => none
theorem nw_at {H H' : Hp} {b : Addr} (h : H b = none) : nw H H' b = H' b := by unfold nw; rw [h]
theorem nw_some {H H' : Hp} {b : Addr} {o : HO} (h : nw H H' b = some o) : H b = none ∧ H' b = some o := by
  unfold nw at h
  cases e : H b with
  | none => rw [e] at h; exact ⟨rfl, h⟩
  | some u => rw [e] at h; cases h
theorem nw_ext {H H' : Hp} : Ext (nw H H') H' := fun a o e => (nw_some e).2
/-- new beside H1, where H1 has grown from H: new beside H -/
theorem nw_back {H H1 H2 : Hp} (e : Ext H H1) : Ext (nw H1 H2) (nw H H2) := fun a o h => by
  obtain ⟨h1, h2⟩ := nw_some h
  have : H a = none := by
    cases q : H a with
    | none => rfl
    | some u => rw [e a u q] at h1; cases h1
  rw [nw_at this]; exact h2
theorem nw_more {H H1 H2 : Hp} (e : Ext H1 H2) : Ext (nw H H1) (nw H H2) := fun a o h => by
  obtain ⟨h1, h2⟩ := nw_some h
  rw [nw_at h1]; exact e a o h2
/-- H without the objects at S -/
def hid (S : List Addr) (H : Hp) : Hp := fun b => if b ∈ S then none else H b
theorem hid_at {S : List Addr} {H : Hp} {b : Addr} (h : b ∉ S) : hid S H b = H b := by unfold hid; rw [if_neg h]
theorem hid_some {S : List Addr} {H : Hp} {b : Addr} {o : HO} (h : hid S H b = some o) : b ∉ S ∧ H b = some o := by
  unfold hid at h
  by_cases e : b ∈ S
  · rw [if_pos e] at h; cases h
  · rw [if_neg e] at h; exact ⟨e, h⟩
theorem hid_ext {S : List Addr} {H : Hp} : Ext (hid S H) H := fun a o e => (hid_some e).2
theorem hid_nil {H : Hp} : hid [] H = H := by funext b; unfold hid; simp
theorem hid_mono {S : List Addr} {H H' : Hp} (e : Ext H H') : Ext (hid S H) (hid S H') := fun a o h => by
  obtain ⟨h1, h2⟩ := hid_some h
  rw [hid_at h1]; exact e a o h2
/-- a fresh place more is hidden -/
theorem hid_cons {S : List Addr} {H : Hp} {D : Addr} (h : H D = none) : Ext (hid S H) (hid (D :: S) H) := fun a o e => by
  obtain ⟨h1, h2⟩ := hid_some e
  have : a ≠ D := ne_of_none h2 h
  rw [hid_at (by simp [this, h1])]; exact h2
theorem hid_less {S S' : List Addr} {H : Hp} (h : ∀ b ∈ S', b ∈ S) : Ext (hid S H) (hid S' H) := fun a o e => by
  obtain ⟨h1, h2⟩ := hid_some e
  rw [hid_at fun z => h1 (h a z)]; exact h2
theorem hid_upd {S : List Addr} {H : Hp} {D : Addr} {o : HO} (h : D ∈ S) : hid S (upd H D o) = hid S H := by
  funext b
  unfold hid
  by_cases e : b ∈ S
  · rw [if_pos e, if_pos e]
  · rw [if_neg e, if_neg e, upd_ne (show b ≠ D from fun z => e (by rw [z]; exact h))]
theorem hid_upd_new {S : List Addr} {H : Hp} {a : Addr} {o : HO} (h : H a = none) : Ext (hid S H) (hid S (upd H a o)) := hid_mono (Ext.upd h)
/-- what is new beside H lies outside of what stood -/
theorem nw_hid {S : List Addr} {H H' : Hp} (h : ∀ b ∈ S, H b ≠ none) : Ext (nw H H') (hid S H') := fun a o e => by
  obtain ⟨h1, h2⟩ := nw_some e
  rw [hid_at fun z => h a z h1]; exact h2
theorem hid_keep {p c : Addr} {H H' : Hp} (k : Keep p c H H') : Ext (hid [p, c] H) (hid [p, c] H') := fun a o e => by
  obtain ⟨h1, h2⟩ := hid_some e
  rw [hid_at h1]
  exact k a o h2 (fun z => h1 (by simp [z])) fun z => h1 (by simp [z])

theorem hid_keepS {p c : Addr} {S : List Addr} {H H' : Hp} (k : Keep p c H H') (hp : p ∈ S) (hc : c ∈ S) : Ext (hid S H) (hid S H') := fun a o e => by
  obtain ⟨h1, h2⟩ := hid_some e
  rw [hid_at h1]
  exact k a o h2 (fun z => h1 (by rw [z]; exact hp)) fun z => h1 (by rw [z]; exact hc)
theorem Ext.at' {S : List Addr} {H H' : Hp} (e : Ext (hid S H) (hid S H')) {a : Addr} {o : HO} (h : a ∉ S) (q : H a = some o) : H' a = some o := (hid_some (e a o (by rw [hid_at h]; exact q))).2

/-! ### a comprehension that makes one item a turn: R tells what the items are, in the heap without S -/
section
variable {J : It} {n : Nat} {G : Hp → Prop} {Y : Nat → Hp → V → Hp → Prop} {g : TG} {te : TE} {vs : List Nat} {σ : L2.St} {H1 : Hp} {D : Addr} {Qd : Hp → Prop}
theorem lc_map (w : Walk J n G Y) (S : List Addr) (hS : D ∈ S) (Iv : Hp → Prop) (R : Nat → V → Hp → Prop) (hn : n ≤ 100000) (hm : ∀ j y H H', Ext H H' → R j y H → R j y H')
    (hIv : ∀ H o, Iv H → Iv (upd H D o)) (h0 : Iv (upd H1 D (.lst []))) (hG : ∀ H, Ext (hid S H1) (hid S H) → Iv H → G H)
    (hs : ∀ i x H H' acc (C : VK), i < n → Ext (hid S H1) (hid S H) → Iv H → H D = some (.lst acc) → Y i H x H' → (∀ y H4, H4 D = some (.lst acc) → Ext (hid S H) (hid S H4) → Iv H4 → R i y (hid S H4) → C y H4) →
      g x (wipe σ vs) H' fun σ2 H2 => wipe σ2 vs = wipe σ vs ∧ te σ2 H2 C)
    (hd : ∀ H ys, Ext (hid S H1) (hid S H) → Iv H → H D = some (.lst ys) → ys.length = n → (∀ j y, ys[j]? = some y → R j y (hid S H)) → Qd H) :
    ∃ W : Nat → Nat → Hp → Prop, (∃ m, W 0 m (upd H1 D (.lst []))) ∧ ∀ i m H, W i m H →
      (J.stop i H ∧ Qd H) ∨ (J.go i H ∧ ∃ Nx : Hp → Prop, (∀ H', Nx H' → ∃ m', m' < m ∧ W (i + 1) m' H') ∧ ∀ x H', J.yld i H x H' → g x (wipe σ vs) H' fun σ2 H2 => wipe σ2 vs = wipe σ vs ∧ tYes σ2 H2 fun b H3 =>
        if b = true then te σ2 H3 fun y H4 => ∃ acc, H4 D = some (.lst acc) ∧ acc.length < sizeLine ∧ Nx (upd H4 D (.lst (acc ++ [y]))) else Nx H3) := by
  refine lc_it w (fun i H => ∃ ys : List V, H D = some (.lst ys) ∧ ys.length = i ∧ Ext (hid S H1) (hid S H) ∧ Iv H ∧ ∀ j y, ys[j]? = some y → R j y (hid S H))
    ⟨[], upd_same, rfl, by rw [hid_upd hS]; exact Ext.rfl', h0, fun j y e => by simp at e⟩ (fun i H _ ⟨_, _, _, e, iv, _⟩ => hG H e iv) ?_ ?_
  · rintro i x H H' hi ⟨ys, hD, hl, e, iv, r⟩ y
    refine hs i x H H' ys _ hi e iv hD y fun v H4 h4 e4 iv4 r4 => ?_
    refine ⟨ys, h4, Nat.lt_of_le_of_lt (show ys.length ≤ 100000 by omega) (by decide), ys ++ [v], upd_same, by rw [List.length_append, hl]; rfl, by rw [hid_upd hS]; exact e.trans e4, hIv _ _ iv4, fun j z hz => ?_⟩
    rw [hid_upd hS]
    by_cases hj : j < ys.length
    · rw [List.getElem?_append_left hj] at hz
      exact hm j z _ _ e4 (r j z hz)
    · rw [List.getElem?_append_right (by omega)] at hz
      have : j = i := by
        cases q : j - ys.length with
        | zero => omega
        | succ k => rw [q] at hz; simp at hz
      subst this
      rw [hl] at hz
      simp at hz
      subst hz
      exact r4
  · rintro H ⟨ys, hD, hl, e, iv, r⟩
    exact hd H ys e iv hD hl r
end
end Ls
end
section
set_option Elab.async false
set_option linter.all false
set_option maxRecDepth 100000
set_option maxHeartbeats 4000000
namespace Ls
open PySem PySem.Spec PyProof.Rows L2

/-! ### an exception that is kept as a value -/
/-- at a: an exception of the class cls, its dict at d -/
def exk (a : Addr) (cls : Value) (d : Option Addr) : HO := .ext fun h => ∃ (oe : Obj) (vs : Array Value), h.get? a = some oe ∧ Zc cls d oe ∧ oe.data = .fields vs
theorem exk_ok {P : Program} {w : World} {H : Hp} {h : Heap} {a : Addr} {cls : Value} {d : Option Addr} {oe : Obj} {vs : Array Value} (e : h.get? a = some oe) (z : Zc cls d oe) (q : oe.data = .fields vs) : ObjOk P w H h a (exk a cls d) :=
  ⟨⟨oe, vs, e, z, q⟩, ⟨oe, e⟩, fun _ _ ⟨o, v, q, r⟩ k => ⟨o, v, k o q, r⟩⟩
theorem exk_at {P : Program} {w : World} {H : Hp} {h : Heap} {a : Addr} {cls : Value} {d : Option Addr} (hok : HOk P w H h) (e : H a = some (exk a cls d)) : ∃ (oe : Obj) (vs : Array Value), h.get? a = some oe ∧ Zc cls d oe ∧ oe.data = .fields vs := by
  have x : ObjOk P w H h a (.ext fun h => ∃ (oe : Obj) (vs : Array Value), h.get? a = some oe ∧ Zc cls d oe ∧ oe.data = .fields vs) := hok a _ e
  exact x.1
section
variable {X : Cx} {pins : List (Addr × Obj)} {σ : L2.St} {H : Hp} {s : Shared}
/-- an object that stands and is not known from before is tracked from now on -/
theorem inv_track {a : Addr} {o : HO} (I : Inv X pins σ H s) (hn : H a = none) (h0 : X.s_0.heap.get? a = none) (hl : a ≠ X.env.locals) (hc : ∀ x c, X.env.cells.lookup x = some c → c ≠ a) (hp : ∀ p ∈ X.pn ++ pins, p.1 ≠ a)
    (new : ObjOk X.prog X.w (upd H a o) s.heap a o) : Inv X pins σ (upd H a o) s := by
  have n0 : ∀ b u, X.s_0.heap.get? b = some u → b ≠ a := fun b u e z => by
    rw [z, h0] at e
    cases e
  refine ⟨I.ok, I.os, I.bare, ⟨I.base.keep, I.base.slot, fun b u e n hq => ?_, I.base.there, fun b xs e => ?_, fun b u v e => ?_, fun b ps e => ?_⟩, I.loc, I.cell, ?_, fun x c e => ?_, fun p q => ?_, I.hok.laidN (fun _ _ z => z) hn new, I.len⟩
  · rw [upd_ne (n0 b u e)]
    exact I.base.free b u e n hq
  · have q := I.base.tups b xs e
    rw [upd_ne (ne_of_none q hn)]
    exact q
  · have q := I.base.frzs b u v e
    rw [upd_ne (ne_of_none q hn)]
    exact q
  · obtain ⟨m, q⟩ := I.base.tbls b ps e
    exact ⟨m, by rw [upd_ne (ne_of_none q hn)]; exact q⟩
  · rw [upd_ne (Ne.symm hl)]
    exact I.free
  · rw [upd_ne (hc x c e)]
    exact I.freeC x c e
  · obtain ⟨z1, z2, z3⟩ := I.pin p q
    exact ⟨z1, by rw [upd_ne (hp p q)]; exact z2, z3⟩
theorem inv_suite0 (I : Inv X pins σ H s) (a : Addr) : Inv (X.suite a (X.pn ++ pins)) [] σ H s :=
  ⟨I.ok.suite _ _, I.os, I.bare, I.base, I.loc, I.cell, I.free, I.freeC, fun p hp => I.pin p (by rw [List.append_nil] at hp; exact hp), I.hok, I.len⟩
theorem inv_unsuite0 {a : Addr} {pn' : List (Addr × Obj)} (I : Inv (X.suite a (X.pn ++ pins)) pn' σ H s) (ok : X.Ok) : Inv X pins σ H s :=
  ⟨ok, I.os, I.bare, I.base, I.loc, I.cell, I.free, I.freeC, fun p hp => I.pin p (List.mem_append_left _ hp), I.hok, I.len⟩
end
/-- what the clause 'except x as n' wishes, the exception tracked in the suite and behind it -/
def wAsk (K : PySem.W.Frag) (c : Value) (i : Nat) (ts : TS) (Wout : WX) (D : Ends) : WX := fun cls d σ H =>
  ∃ b, PySem.W.exmOne K cls c = some b ∧ (b = true → ∀ a, H a = none → ts { nx := fun σ' H' => D.nx (σ'.set i none) H', rt := D.rt, bk := fun σ' H' => D.bk (σ'.set i none) H', ct := fun σ' H' => D.ct (σ'.set i none) H' } (σ.set i (some (.ref a))) (upd H a (exk a cls d))) ∧
    (b = false → Wout cls d σ H)
section
variable {X : Cx} {x n : Str} {c : Value} {i : Nat} {body suite : List Stmt} {b₀ : Stmt} {np pos pos' : Pos} {tb : WX → TS} {ts : TS} {Wout : WX}
theorem ps_try_ask (hs : X.stack = X.env :: X.outer) (hf : X.env.frame = some X.env.locals) (hN : X.N.Nodup) (hi : X.N[i]? = some n) (hln : X.env.kindOf n = some .local) (hc : Names X x c) (tk : Takes X Wout) (hx : X.ex = [])
    (hb : ∀ (W : WX) (pn : List (Addr × Obj)) (xe : Value → Shared → Prop), Takes (X.tr pn xe) W → PassesOwn (model X.prog X.w) X.A X.env xe → PSs (X.tr pn xe) body (tb W))
    (hsu : ∀ (a : Addr) (pn : List (Addr × Obj)), PSs (X.suite a pn) (b₀ :: suite) ts) :
    PS X (.Try body [.ExceptHandler (some (.Name x np)) (some n) (b₀ :: suite) pos'] [] [] pos) (fun D σ H => tb (wAsk X.K c i ts Wout D) D σ H) := by
  refine ⟨fun pins s σ H D I h => ?_⟩
  have ok := I.ok
  have hfr : X.A.frames = some (X.env :: X.outer) := by rw [ok.frames, hs]
  refine wpAny_Try_except ?_
  refine wpAny_mono ((hb (wAsk X.K c i ts Wout D) (X.pn ++ pins) (fun e s₁ => wpAny (model X.prog X.w) X.A (noteFrame e X.env) (fun _ s₂ => wpAny (model X.prog X.w) X.A (setFlight e none) (fun _ s₃ =>
    wpAny (model X.prog X.w) X.A (handleBy e X.env [.ExceptHandler (some (.Name x np)) (some n) (b₀ :: suite) pos']) (SP X pins D) X.xe s₃) X.xe s₂) X.xe s₁) (fun u s' xx => ?_) PassesOwn.looking).run [] s σ H D (I.toTry _) h) (fun f s1 hsp => ?_) (fun e s1 he => he)
  · obtain ⟨a, B, sI, pins', σ', H', cls, d, rfl, J', nb, up, sky, na, os, ag, b, hb1, hyes, hno⟩ := xx
    have J : Inv X pins σ' H' sI := J'.ofTry ok
    have sky' : Sky B (X.env :: X.outer) a (Zc cls d) X.env.locals s'.heap := by rw [← hs]; exact sky
    show wpAny (model X.prog X.w) X.A (noteFrame (.ref a) X.env) _ _ _
    refine Sky.land Zc.steady hfr hf sky' fun h3 fl3 up3 => ?_
    have J3 : Inv X pins σ' H' { s' with heap := h3 } := J.landed nb fl3.1 (up.trans up3) os ag
    obtain ⟨oe3, vs3, he3, hz3, hd3⟩ := fl3.there
    have nfr : a ∉ frs (X.env :: X.outer) := fun hm => by
      obtain ⟨_, o', e', hnf⟩ := fl3.2.2.1.mem hm
      rw [he3] at e'
      cases e'
      exact hnf _ hd3
    have nL : a ≠ X.env.locals := fun z => nfr (List.mem_filterMap.mpr ⟨X.env, List.mem_cons_self, by rw [hf, z]⟩)
    have nI : sI.heap.get? a = none := by
      cases q : sI.heap.get? a with
      | none => rfl
      | some o =>
        have z := nb a o q (by rw [hs]; exact nfr)
        rw [fl3.2.1] at z
        cases z
    have hexe : ∀ b o, X.s_0.heap.get? b = some o → b ∈ X.ex → False := fun b o e hb => by
      rw [hx] at hb
      cases hb
    have n0 : X.s_0.heap.get? a = none := by
      cases q : X.s_0.heap.get? a with
      | none => rfl
      | some o =>
        obtain ⟨o', z⟩ := J.base.there a o q (fun z => hexe a o q z)
        rw [nI] at z
        cases z
    have LT : PySem.W.Looks (model X.prog X.w) h3 (typeOf (.ref a)) cls := fun A Q E s k q => wpAny_typeOf_ref (k _ _ he3) (by rw [hz3.1]; exact q)
    have LM := PySem.W.exm_one (M := model X.prog X.w) (J3.kIn) LT hb1
    have S3 := inv_suite0 J3 a
    refine wpAny_handleBy_cons (codeAny_handlers_test ?_) (by intro q; cases q)
    have test : ∀ {Q : Value → Shared → Prop} {E : Value → Shared → Prop}, Q c { s' with heap := h3 } → wpAny (model X.prog X.w) (X.A.mark (some (.ref a))) (eval (.Name x np) X.env) Q E { s' with heap := h3 } := fun {Q E} q => by
      obtain ⟨hg, hdbg, hm | ⟨hm, hv, hnn⟩⟩ := hc
      · exact ld_glob (X := X.suite a (X.pn ++ pins)) S3 hg hm q hdbg
      · exact ld_blt (X := X.suite a (X.pn ++ pins)) S3 hg hm hv q hnn hdbg
    refine test (LM.here ?_)
    cases b with
    | true =>
      refine codeAny_handlers_suite_as ?_
      refine HandSPX.lands_againZ fl3 fun h4 fl4 up4 => ?_
      have J4 : Inv X pins σ' H' { s' with heap := h4 } := J.landed nb fl4.1 ((up.trans up3).trans up4) os ag
      obtain ⟨oe4, vs4, he4, hz4, hd4⟩ := fl4.there
      have T4 : Inv X pins σ' (upd H' a (exk a cls d)) { s' with heap := h4 } := inv_track J4 na n0 nL (fun y c e z => by
          obtain ⟨v, o, ho, _⟩ := J.cell y c e
          rw [z, nI] at ho
          cases ho) (fun p hp z => by
          have q := (J.pin p hp).1
          rw [z, nI] at q
          cases q) (exk_ok he4 hz4 hd4)
      have S4 := inv_suite0 T4 a
      refine store_ok (X := X.suite a (X.pn ++ pins)) (v := .ref a) S4 hN hi (.inl hln) rfl (fun s5 S5 => ?_) (.inr hln)
      refine wpAny_mono ((hsu a (X.pn ++ pins)).run [] s5 _ _ _ S5 (hyes rfl a na)) (fun f s6 hsp => ?_) (fun _ _ z => False.elim z)
      have fin : ∀ {σ6 : L2.St} {H6 : Hp} {Q : Shared → Prop}, Inv (X.suite a (X.pn ++ pins)) [] σ6 H6 s6 → (∀ s7, Inv X pins (σ6.set i none) H6 s7 → Q s7) →
          wpAny (model X.prog X.w) X.A (do bindName X.env n .none; unbindBehindTheSuite X.env n pos') (fun _ s7 => Q s7) X.xe s6 := fun {σ6 H6 Q} S6 hq => gone_ok (inv_unsuite0 S6 ok) hN hi hln hq
      cases f with
      | next =>
        obtain ⟨σ6, H6, S6, q6⟩ := hsp
        exact fin S6 fun s7 J7 => ⟨_, _, J7, q6⟩
      | brk =>
        obtain ⟨σ6, H6, S6, q6⟩ := hsp
        exact fin S6 fun s7 J7 => ⟨_, _, J7, q6⟩
      | cont =>
        obtain ⟨σ6, H6, S6, q6⟩ := hsp
        exact fin S6 fun s7 J7 => ⟨_, _, J7, q6⟩
      | ret u =>
        obtain ⟨v6, σ6, H6, S6, r6, q6⟩ := hsp
        exact fin S6 fun s7 J7 => ⟨_, _, _, J7, r6, q6⟩
    | false =>
      show wpAny _ X.A (handleBy (.ref a) X.env []) _ _ _
      refine wpAny_handleBy_nil ?_
      obtain ⟨k1, k2, k3, oe, vs, T, oT, ts', he, hz, hd, h1, hr⟩ := id fl3
      unfold PySem.passOn
      refine wpAny_bind (wpAny_field he hd h1 ?_)
      rw [if_neg (show ¬ ((Value.ref T == Value.none) = true) from by simp)]
      have last : wpAny (model X.prog X.w) X.A (setFlight (.ref a) X.env.frame) (fun _ s4 => wpAny (model X.prog X.w) X.A (throw (.ref a) : Sem Flow) (SP X pins D) X.xe s4) X.xe { s' with heap := h3 } := by
        rw [hf]
        refine HandSPX.setFlight_upZ fl3 fun h4 hh4 up4 => wpAny_throw (tk _ _ ?_)
        exact ⟨a, B, sI, pins, σ', H', cls, d, rfl, J, nb, (up.trans up3).trans up4, .inr (.inr (by rw [hs]; exact hh4)), na, os, ag, hno rfl⟩
      first
        | exact wpAny_bind (wpAny_pure (wpAny_bind last))
        | exact wpAny_bind last
  · cases f with
    | next =>
      obtain ⟨σ', H', J', q⟩ := hsp
      exact wpAny_execs_nil ⟨σ', H', J'.ofTry ok, q⟩
    | brk =>
      obtain ⟨σ', H', J', q⟩ := hsp
      exact ⟨σ', H', J'.ofTry ok, q⟩
    | cont =>
      obtain ⟨σ', H', J', q⟩ := hsp
      exact ⟨σ', H', J'.ofTry ok, q⟩
    | ret u =>
      obtain ⟨v, σ', H', J', r, q⟩ := hsp
      exact ⟨v, σ', H', J'.ofTry ok, r, q⟩
end

/-! ### C(..) as a value; isinstance and fields of a kept exception -/
section
variable {X : Cx} {e : Expr}
theorem pe_mkx {t : L2.St → Hp → XK → Prop} (h : PMk X e t) : PE X e (fun σ H Q => t σ H fun cls d H' => ∀ a, H' a = none → Q (.ref a) (upd H' a (exk a cls d))) := by
  refine ⟨fun pins s σ H Q I hh => ?_⟩
  refine wpAny_mono (h pins s σ H _ I hh) (fun u s1 hu => ?_) fun _ _ x => x
  obtain ⟨a, oe, vs, sI, H', cls, d, rfl, J, k, hne, ha, hz, hd, h1, na, os, ag, r, q⟩ := hu
  have J2 : Inv X pins σ H' { sI with heap := sI.heap, gens := s1.gens, drawn := s1.drawn, toks := s1.toks } := J.call (ch := []) (Un.kept fun _ _ z => z) J.hok ag (fun _ z => nomatch z)
  have J3 := J2.laidN (h' := s1.heap) (a := a) (o := exk a cls d) (t' := s1.toks) k hne na (exk_ok ha hz hd)
  obtain ⟨a1, a2, a3, a4, a5⟩ := s1
  have e5 : a5 = sI.os := os
  subst e5
  exact ⟨.ref a, _, J3, rfl, q a na⟩
/-- isinstance(e, c), e a kept exception -/
def rIsX (K : PySem.W.Frag) : List V → Hp → VK → Prop := fun xs H Q => ∃ (a D : Addr) (d : Option Addr) (c : V) (cv : Value) (b : Bool), xs = [.ref a, c] ∧ H a = some (exk a (.ref D) d) ∧ ExcC K D ∧ (∀ dd, d = some dd → ∃ fs, H dd = some (.xd fs)) ∧ (∀ u, RelV c u → u = cv) ∧ PySem.W.kitOne K (.ref D) cv = some b ∧ Q (.bl b) H
theorem inst_of {pins : List (Addr × Obj)} {σ : L2.St} {H : Hp} {s : Shared} {a D : Addr} {d : Option Addr} (I : Inv X pins σ H s) (ea : H a = some (exk a (.ref D) d)) (hd : ∀ dd, d = some dd → ∃ fs, H dd = some (.xd fs)) : ∃ oe od, PySem.W.InstAt s.heap a oe D od := by
  obtain ⟨oe, vs, ho, hz, hv⟩ := exk_at I.hok ea
  cases d with
  | none =>
    refine ⟨oe, none, ?_⟩
    obtain ⟨oc, od, oda, osl⟩ := oe
    obtain ⟨h1, h2⟩ := hz
    dsimp only at h1 h2 hv
    subst h1 h2 hv
    exact ⟨ho, rfl, rfl, trivial⟩
  | some dd =>
    obtain ⟨fs, ed⟩ := hd dd rfl
    obtain ⟨mA, hns, hr⟩ := (show ObjOk X.prog X.w H s.heap dd (.xd fs) from I.hok dd _ ed)
    obtain ⟨od, hod, hl⟩ := lookIn_ns hns
    exact ⟨oe, some od, ho, hz.1, by unfold PySem.W.notCls; rw [hv] <;> rfl, by rw [hz.2]; exact hod⟩
theorem call_isX : CallR X (.builtin "isinstance") (rIsX X.K) := by
  intro pins s σ H xs us Q I r h
  obtain ⟨a, D, d, c, cv, b, rfl, ea, C, hd, hcv, e, q⟩ := h
  obtain ⟨u1, u2, rfl, r1, r2⟩ := vals2 r
  cases (show u1 = Value.ref a from r1)
  have ec := hcv _ r2
  subst ec
  obtain ⟨oe, od, J⟩ := inst_of I ea hd
  have hcl : (PySem.W.clsIn X.K D).isSome = true := by
    obtain ⟨cd, hc, _⟩ := PySem.W.any_some C.hd
    rw [hc]
    rfl
  exact PySem.W.kia_one (PySem.W.kitx_exc hcl C.hg C.hk C.hs C.ha C.hn C.ht C.hm) I.kIn J e (fun z => nomatch z) fun tk => ⟨.bl b, H, I.kept (t' := tk) fun _ _ z => z, rfl, q⟩
/-- e.f, e a kept exception -/
def tXk (K : PySem.W.Frag) (f : Str) (te : TE) : TE := fun σ H Q => te σ H fun x H1 => ∃ (a C dd : Addr) (fs : List (Str × V)) (v : V), x = .ref a ∧ H1 a = some (exk a (.ref C) (some dd)) ∧ XfC K C ∧ PySem.W.findIn K (.ref C) f = some none ∧ H1 dd = some (.xd fs) ∧ fs.lookup f = some v ∧ Q v H1
theorem pe_xk {te : TE} {pos : Pos} {n : Str} (he : PE X e te) (hb : attributeBase e n X.env (eval e X.env) = eval e X.env := by rfl) : PE X (.Attribute e n pos) (tXk X.K n te) := by
  refine ⟨fun pins s σ H Q I h => ?_⟩
  refine attr_of hb (thn (he.run pins s σ H _ I h) fun u s1 hh => ?_)
  obtain ⟨x, H1, I1, rx, a, C, dd, fs, v, ex, ea, T, hno, ed, l, q⟩ := hh
  subst ex
  obtain rfl : u = Value.ref a := rx
  obtain ⟨oe, vs, ho, hz, hv⟩ := exk_at I1.hok ea
  obtain ⟨mA, hns, hr⟩ := (show ObjOk X.prog X.w H1 s1.heap dd (.xd fs) from I1.hok dd _ ed)
  obtain ⟨od, hod, hl⟩ := lookIn_ns hns
  obtain ⟨u, hu, ru⟩ := RelO.some_of (v := v) (o := mA n) (by rw [← l]; exact hr n)
  have J : PySem.W.InstAt s1.heap a oe C (some od) := ⟨ho, hz.1, by unfold PySem.W.notCls; rw [hv] <;> rfl, by rw [hz.2]; exact hod⟩
  exact HandSPX.exc_get I1.kIn J T.ga T.gg T.exC (PySem.W.findObj_own T.hdC hno rfl (by rw [hl, hu])) (handed_of ru) ⟨v, H1, I1.tok _, ru, q⟩
end

/-! ### super().__init__(..) of an own error class over ValueError -/
namespace SE
open PySem.W
abbrev wv (x : Addr) : Obj := { cls := .type "method-wrapper", dict := none, data := .fields #[.builtin "ValueError.__init__", .ref x], slots := #[] }
theorem ty_vi : typeOf (.builtin "ValueError.__init__") = pure (.type "wrapper_descriptor") := by
  show builtinType _ = _
  rw [builtinType_eq_fast]
  kernel_rfl
theorem nc_vi : (kfb_private% "nameAndClass") (Value.builtin "ValueError.__init__") = (pure (("__init__" : Str), Value.type "ValueError") : Sem (Str × Value)) := by kernel_rfl
section
variable {prog : Program} {w : World} {M : Model} {A : Around} {E : Value → Shared → Prop} {h : Heap} {g : Array GenState} {dr : Drawn} {t : Nat} {os : OsState}
theorem bind_vi {x C : Addr} {P : Fin → Shared → Prop} (hin : Looks M h (isInstance (.ref x) (.type "ValueError")) true) (hq : P (.done (.ret (.ref h.objs.size))) ⟨h.push (wv x), g, dr, t, os⟩) :
    wpAny M A (Builtin.«wrapper_descriptor.__get__» ⟨[.builtin "ValueError.__init__", .ref x, .ref C], []⟩) P E ⟨h, g, dr, t, os⟩ := by
  unfold Builtin.«wrapper_descriptor.__get__»
  refine wpAny_bind (wpAny_of_eq (a := (.builtin "ValueError.__init__", some (.ref x), some (.ref C))) (by first | rfl | kernel_rfl) ?_)
  show wpAny M A ((kfb_private% "checkInstance") (.builtin "ValueError.__init__") (.ref x) >>= fun _ => newFields "method-wrapper" [.builtin "ValueError.__init__", .ref x] >>= fun r => ret r) P E _
  refine wpAny_bind ?_
  show wpAny M A ((kfb_private% "nameAndClass") (.builtin "ValueError.__init__") >>= _) _ E _
  refine wpAny_bind (wpAny_of_eq nc_vi ?_)
  show wpAny M A (isInstance (.ref x) (.type "ValueError") >>= _) _ E _
  refine wpAny_bind (hin.at (KFB.if_not rfl (wpAny_pure ?_)))
  exact wpAny_bind (wpAny_newObj_type (wpAny_pure hq))
theorem super_gav {so D x C : Addr} {l₀ l : List Value} {K : Frag} {name : Str} {tk : Tok} {Q : Fin → Shared → Prop}
    (hso : h.get? so = some { cls := .type "super", dict := none, data := .fields #[.ref D, .ref x, .ref C], slots := #[] }) (hno : Looks (model prog w) h (opaqueClassAbove (.ref C)) none)
    (hC : Looks (model prog w) h (mroOf (.ref C)) l₀) (hl : (l₀.dropWhile (· != .ref D)).drop 1 = l) (X : K.In h)
    (hf : alongIn K name l = some (some (.builtin "ValueError.__init__"))) (hxC : x ≠ C) (hn : (name == ("__class__" : Str)) = false) (hin : Looks (model prog w) h (isInstance (.ref x) (.type "ValueError")) true)
    (hq : Q (.done (.ret (.ref h.objs.size))) ⟨h.push (wv x), g, dr, t, os⟩) :
    wpAny (model prog w) A (Builtin.«super.__getattribute__» ⟨[.ref so, .str name tk], []⟩) Q E ⟨h, g, dr, t, os⟩ := by
  have hlk := ESX.slot_wd.lookup
  have ner : (Value.ref x == Value.ref C) = false := by simp [hxC]
  have hTf := ty_vi
  have hTi : Shared.TypeIs ⟨h, g, dr, t, os⟩ (.builtin "ValueError.__init__") "wrapper_descriptor" := ty_vi
  have dso : ({ cls := .type "super", dict := none, data := .fields #[.ref D, .ref x, .ref C], slots := #[] } : Obj).data = .fields #[.ref D, .ref x, .ref C] := rfl
  have q0 : (#[.ref D, .ref x, .ref C] : Array Value)[0]? = some (.ref D) := rfl
  have q1 : (#[.ref D, .ref x, .ref C] : Array Value)[1]? = some (.ref x) := rfl
  have q2 : (#[.ref D, .ref x, .ref C] : Array Value)[2]? = some (.ref C) := rfl
  unfold Builtin.«super.__getattribute__»
  repeat (first
    | (with_reducible refine wpAny_field hso dso q0 ?_) | (with_reducible refine wpAny_field hso dso q1 ?_) | (with_reducible refine wpAny_field hso dso q2 ?_)
    | (with_reducible refine ks_wpAny_notOpaque hno ?_)
    | (with_reducible refine Looks.at hC ?_; rw [hl])
    | (refine ks_forIn_along X (fun _ _ => rfl) rfl ?_ hf)
    | (with_reducible refine wpAny_call_entry ESX.slot_wd hTi ESX.entry_wd ?_ (ESX.args_wd _ _ _))
    | (with_reducible refine bind_vi hin ?_)
    | (with_reducible refine ⟨_, rfl, ?_⟩)
    | (simp only [hn, ner, Bool.or_false, Bool.false_eq_true, if_false])
    | wp_step
    | dsimp only)
  all_goals exact hq
theorem getMethod_superv {so D x C : Addr} {l₀ l : List Value} {K : Frag} {name : Str} {pl : Sem Bool} {Q : Value × List Value → Shared → Prop}
    (hso : h.get? so = some { cls := .type "super", dict := none, data := .fields #[.ref D, .ref x, .ref C], slots := #[] }) (hno : Looks (model prog w) h (opaqueClassAbove (.ref C)) none)
    (hC : Looks (model prog w) h (mroOf (.ref C)) l₀) (hl : (l₀.dropWhile (· != .ref D)).drop 1 = l) (X : K.In h)
    (hf : alongIn K name l = some (some (.builtin "ValueError.__init__"))) (hxC : x ≠ C) (hn : (name == ("__class__" : Str)) = false) (hin : Looks (model prog w) h (isInstance (.ref x) (.type "ValueError")) true)
    (hq : Q (.ref h.objs.size, []) ⟨h.push (wv x), g, dr, t + 1, os⟩) :
    wpAny (model prog w) A (getMethod (.ref so) name pl) Q E ⟨h, g, dr, t, os⟩ := by
  have hlk := F.ks_slot_super_ga.lookup
  have hT : ∀ t', (⟨h, g, dr, t', os⟩ : Shared).TypeIs (.ref so) "super" := fun _ => ⟨_, hso, rfl⟩
  unfold getMethod
  refine wpAny_bind (wpAny_specialOf (hT _) hlk ?_)
  show wpAny _ _ (if (Manifest.canonical "super.__getattribute__" != "object.__getattribute__") = true then _ else _) _ _ _
  rw [if_pos F.ks_canon_super_ga]
  unfold getAttr getAttrBy
  refine wpAny_bind (wpAny_bind (wpAny_mkText (wpAny_holding (wpAny_bind (wpAny_typeOf (hT _) (wpAny_bind (wpAny_of_eq hlk ?_)))))))
  show wpAny _ _ (getAttrByItsOwn (.ref so) (.str name t) (.type "super") (.builtin "super.__getattribute__") true false) _ _ _
  unfold getAttrByItsOwn hookBefore callGetattribute boundAndCalled
  refine wpAny_bind (wpAny_of_eq (show (if onTheHeap (.type "super") then typeLookup (.type "super") "__getattr__" else pure none) = pure none from rfl) (wpAny_bind (wpAny_attempt (wpAny_holding ?_))))
  show wpAny _ _ (bindSpecial (.builtin "super.__getattribute__") (.ref so) >>= _) _ _ _
  refine wpAny_bind (wpAny_of_eq (F.ks_slot_super_ga.bind _) ?_)
  refine wpAny_mono (Q := fun v s' => v = .ref h.objs.size ∧ s' = ⟨h.push (wv x), g, dr, t + 1, os⟩) (E := fun _ _ => False)
    (wpAny_call_entry F.ks_slot_super_ga (hT _) F.ks_entry_super_ga (super_gav hso hno hC hl X hf hxC hn hin ⟨_, rfl, rfl, rfl⟩) (F.ks_gaArgs_super _ _)) (fun v s' hv => ?_) fun _ _ z => z.elim
  obtain ⟨rfl, rfl⟩ := hv
  exact wpAny_pure (wpAny_pure hq)
end
section
open PySem.Calls
variable {prog : Program} {w : World} {M : Model} {A : Around} {E : Value → Shared → Prop} {s : Shared}
theorem callWith_wv {pos : Pos} {u x : Addr} {env : Env} {e : Expr} {rest : List Expr} {Q : Value → Shared → Prop}
    (h : wpAny M A (spliced (backTo pos (starEach (e :: rest) env))) (fun vs s₁ => s₁.heap.get? u = some (wv x) ∧ wpAny M A (call (.ref u) vs) Q E s₁) E s)
    (he : starEach (e :: rest) env = (false, eval e env) :: starEach rest env) (hplain : (backTo pos (starEach rest env)).any (·.1) = false) :
    wpAny M A (callWith pos (.ref u) [] (backTo pos (starEach (e :: rest) env)) []) Q E s := by
  rw [he] at h ⊢
  have hp : (backTo pos ((false, eval e env) :: starEach rest env)).any (·.1) = false := by
    show (false || (backTo pos (starEach rest env)).any (·.1)) = false
    rw [hplain]
    rfl
  have h2 : wpAny M A (evalArgs (.ref u) true (backTo pos ((false, eval e env) :: starEach rest env)) []) (fun a s₁ => s₁.heap.get? u = some (wv x) ∧ wpAny M A (call (.ref u) ([] ++ a.pos) a.kw) Q E s₁) E s := evalArgs_plain h
  unfold callWith
  refine wpAny_bind (wpAny_holding (wpAny_mono h2 (fun a s₁ h₁ => wpAny_bind (wpAny_standAt ?_)) fun _ _ x => x))
  obtain ⟨ho, hcall⟩ := h₁
  simp only [hp, List.any_nil, Bool.or_false]
  refine wpAny_bind (m := keeperOf (.ref u)) ?_
  unfold keeperOf
  refine wpAny_bind (wpAny_load ho ?_)
  simp only [wv, show (Value.type "method-wrapper" != Value.type "method") = true by decide, show (Value.type "method-wrapper" == Value.type "builtin_function_or_method" || Value.type "method-wrapper" == Value.type "method-wrapper") = true by decide, if_true]
  refine wpAny_pure ?_
  exact wpAny_bind (wpAny_mono hcall (fun r s₂ hr => wpAny_bind (wpAny_holding (wpAny_point (wpAny_pure hr)))) fun _ _ x => x)
end
section
variable {prog : Program} {w : World} {A : Around} {E : Value → Shared → Prop} {h : Heap} {g : Array GenState} {dr : Drawn} {t : Nat} {os : OsState}
variable {nm q : Str} {C N : Addr} {bs bm : List Value} {hdct : Bool} {sn : List Str} {sub : List Value} {ab : Bool} {col : Option Bool} {dd : Option Addr} {k0 k1 k2 k3 k5 : Option Value}
theorem call_wv {u e t0 : Addr} {rest : List Value} {Q : Value → Shared → Prop}
    (hC : h.get? C = some (excClassObj nm q C N bs bm hdct sn sub ab col dd k0 k1 k2 k3 k5 "ValueError.__new__")) (he : h.get? e = some (HandSPX.excO C t0)) (hu : h.get? u = some (wv e)) (hrest : rest.length ≤ sizeLine)
    (hq : ∀ h' t1, (∀ b o, b ≠ e → h.get? b = some o → h'.get? b = some o) → h'.get? e = some (HandSPX.excO C t1) → Q .none ⟨h', g, dr, t, os⟩) :
    wpAny (model prog w) A (call (.ref u) rest) Q E ⟨h, g, dr, t, os⟩ := by
  refine wpAny_call (codeAny_of_tree ?_)
  show wpAny _ A.in1 (callAny (.ref u) ⟨rest, []⟩) _ _ _
  simp only [callAny]
  refine wpAny_bind (wpAny_load hu ?_)
  simp only [wv, show (Value.type "method-wrapper" == Value.type "method" || Value.type "method-wrapper" == Value.type "builtin_function_or_method" || Value.type "method-wrapper" == Value.type "method-wrapper") = true by decide, if_true]
  refine W.KFB.if_so (by decide) ?_
  refine wpAny_bind (ESX.check_bound F.excBase_ValueError hC he rfl (wpAny_bind (wpAny_pure (wpAny_pure ?_))))
  refine ⟨Code.quiet_builtin _ (by decide +kernel), codeAny_builtin F.excBase_ValueError.initEntry ?_⟩
  rw [Around.under_plainId F.excBase_ValueError.init.plain _]
  wp_walk
  refine hq _ h.objs.size (fun b o hb ho => ?_) ?_
  · rw [Heap.get?_update_other _ _ (Ne.symm hb)]
    exact Heap.get?_push_of_some _ ho
  · rw [Heap.get?_update_self _ (Heap.get?_push_of_some _ he) rfl]
    rfl
end
end SE

/-- what the written part says for super().__init__ in a def of the error class at D, of an instance of the class at C -/
structure SupE (P : Program) (K : PySem.W.Frag) (mg : Str → Option Value) (C D cc cda : Addr) : Prop where
  cell : ∃ cl cld csl, K.lookup cc = some ⟨cl, cld, .cell (some (.ref D)), csl⟩
  code : ∃ ccl cdd vs ccs file tf, K.lookup cda = some ⟨ccl, cdd, .fields vs, ccs⟩ ∧ vs[2]? = some (.str file tf) ∧ ((P.main.file : Str) == file) = true
  clD : ∃ cdD, PySem.W.clsIn K D = some cdD
  sub : PySem.W.mroIn K C (.ref D) = some true
  suv : PySem.W.mroIn K C (.type "ValueError") = some true
  sup : mg "super" = none
  top : (P.main.scope.names.lookup ("super" : Str)).isSome = false
  any : PySem.W.nsIn K cStatics "thirdparty.any" = some none
  fnd : PySem.W.ks_superIn K C D "__init__" = some (some (.builtin "ValueError.__init__"))
  oex : OexC K C

section
variable {CX : CXT} {P : Program} {w : World} {K : PySem.W.Frag} {mg : Str → Option Value} {base : Heap} {k : Nat} {f cc cda : Addr} {name qual : Str} {params : Arguments} {scope : Scope} {dV kV doc pm ct oc : Value} {an od : Option Addr}
    {osl : Array (Option Value)} {N ps : List Str} {sp : Sp} {e : PySem.Expr} {es : List PySem.Expr} {rest : List Stmt} {p0 p1 apos pos epos : Pos} {pl : Sem Bool}
theorem fn_superE (lk : K.lookup f = some ⟨oc, od, .func (PySem.W.ksFn name qual params (.Expr (.Call (.Attribute (.Call (.Name "super" p0) [] [] p1) "__init__" apos) (e :: es) [] pos) epos :: rest) scope dV kV doc pm an (.ref cda) ct cc), osl⟩)
    (hcd : PySem.W.codeIn K (.ref cda) qual = true) (S : ScS N ps scope)
    {ar : Arg} (hp0 : (params.posonlyargs ++ params.args).head? = some ar) (hps : ps.head? = some ar.arg) (har : scope.names.lookup ar.arg = some .local)
    (hks : scope.names.lookup ("super" : Str) = some .globalImplicit) (hkc : scope.names.lookup ("__class__" : Str) = some .free)
    (len : ∀ vs H Q E, sp vs H Q E → vs.length = ps.length)
    (hbody : ∀ (A : Around) (outer : List Env) (s : Shared) (H : Hp) (vs : List V) (Q : VK) (E : XK), Room k (A.deeper (PySem.W.ksEnv qual scope s.heap.objs.size f (.ref cda) cc)) → sp vs H Q E →
      ∃ (x C D : Addr) (vs' : List V) (ta : TA) (u : TS), vs = .ref x :: vs' ∧ H x = some (exo x C none) ∧ SupE P K mg C D cc cda ∧
        PA (cxS CX P w K mg base N qual scope f (.ref cda) cc A outer s H E) (e :: es) ta ∧
        PSs (cxS CX P w K mg base N qual scope f (.ref cda) cc A outer s H E) rest u ∧
        ta (start N vs) H (fun ws H1 => ws.length ≤ 1000 ∧ H1 x = some (exo x C none) ∧ u { nx := fun _ H' => Q .non H', rt := Q } (start N vs) H1))
    (hi : ∀ L, interactive (PySem.W.ksEnv qual scope L f (.ref cda) cc) = false) (hsw : ∀ L, swapsWith (.Call (.Attribute (.Call (.Name "super" p0) [] [] p1) "__init__" apos) (e :: es) [] pos) none epos.line (PySem.W.ksEnv qual scope L f (.ref cda) cc) = pure false)
    (he : ∀ L, eval (.Call (.Attribute (.Call (.Name "super" p0) [] [] p1) "__init__" apos) (e :: es) [] pos) (PySem.W.ksEnv qual scope L f (.ref cda) cc) = (do
      let ov ← attributeBase (.Call (.Name "super" p0) [] [] p1) "__init__" (PySem.W.ksEnv qual scope L f (.ref cda) cc) (eval (.Call (.Name "super" p0) [] [] p1) (PySem.W.ksEnv qual scope L f (.ref cda) cc))
      standAt apos.atName
      let (fn, first) ← holding [ov] (getMethod ov "__init__" pl)
      callWith pos fn first (backTo pos (starEach (e :: es) (PySem.W.ksEnv qual scope L f (.ref cda) cc))) []))
    (hst : ∀ L, starEach (e :: es) (PySem.W.ksEnv qual scope L f (.ref cda) cc) = (false, eval e (PySem.W.ksEnv qual scope L f (.ref cda) cc)) :: starEach es (PySem.W.ksEnv qual scope L f (.ref cda) cc))
    (hpl : ∀ L, (backTo pos (starEach es (PySem.W.ksEnv qual scope L f (.ref cda) cc))).any (·.1) = false) :
    FnOk P w K mg base CX (k + 1) f (PySem.W.ksFn name qual params (.Expr (.Call (.Attribute (.Call (.Name "super" p0) [] [] p1) "__init__" apos) (e :: es) [] pos) epos :: rest) scope dV kV doc pm an (.ref cda) ct cc) ps sp := by
  refine ⟨len, fun A outer s H args us vs Q E hr e0 hb r hsp => ?_⟩
  have hl := len _ _ _ _ hsp
  have KX : K.In s.heap := e0.mod.kin.keeps fun b o e => (e0.bs b o e).1
  have lim : s.heap.NoLimit := e0.mod.nolimit.keeps fun b o e => (e0.bs b o e).1
  obtain ⟨x, C, D, vs', ta, u, rfl, hx, T, hta, hrest, hq⟩ := hbody A outer s H vs Q E (hr.deeper _) hsp
  obtain ⟨cl, cld, csl, hcell⟩ := T.cell
  obtain ⟨ccl, cdd, cvs, ccs, file, tf, hcode, hvs, hfile⟩ := T.code
  obtain ⟨cdD, hD⟩ := T.clD
  refine PySem.ks_codeAny_call_defAt (binds := ps.zip us) hr.depth (KX _ _ lk) rfl lim (PySem.W.codeRec_of KX hcd) rfl hb S.nocell (fun y hy => S.par y.1 (List.of_mem_zip hy).1) (fun h1 hns hk => ?_) S.co S.gen S.kind
  have I : Inv (cxS CX P w K mg base N qual scope f (.ref cda) cc A outer s H E) [] (start N (.ref x :: vs')) H { s with heap := h1, toks := s.toks + (ps.zip us).length } :=
    inv_startS (vs := .ref x :: vs') S hr.hd e0 hl r hcell rfl hns hk
  have hX : K.In h1 := I.kIn
  obtain ⟨t1, ho⟩ := exo_at I.hok hx
  have J : PySem.W.InstAt h1 x { cls := .ref C, dict := none, data := .fields #[.ref t1, .none, .none, .none, .bool false, .none] } C none := ⟨ho, rfl, rfl, trivial⟩
  obtain ⟨oD, hD1, hD2⟩ : ∃ oD, h1.get? D = some oD ∧ oD.data = .cls cdD := by
    unfold PySem.W.clsIn at hD
    split at hD
    · rename_i c d cd' sl ho
      cases hD
      exact ⟨_, hX _ _ ho, rfl⟩
    · cases hD
  refine PySem.ks_wpAt_execs_cons (PySem.ks_wpAt_Expr_any (PySem.ks_wpAt_MethodCall (pl := pl) ?_ (he _)) (hi _) (hsw _))
  refine PySem.ks_wpAt_super_base (env := PySem.W.ksEnv qual scope s.heap.objs.size f (.ref cda) cc) hks hkc (by decide) rfl (hX _ _ lk) rfl hp0 rfl (hX _ _ hcode) rfl hvs hfile T.top ?_
  obtain ⟨mb, hb1, hb2⟩ := I.mod.blt
  refine PySem.W.ks_loadName_global S.kind hks (Calls.loadGlobal_builtin (env := PySem.W.ksEnv qual scope s.heap.objs.size f (.ref cda) cc) (I.mod.glob.keeps I.bk) T.sup (hb1.keeps I.bk) ((hb2 _ (by decide +kernel)).trans (show bootBuiltins "super" = some (.type "super") by first | rfl | kernel_rfl)) ⟨rfl, ?_⟩)
  refine wpAny_loadName_free S.kind hkc (by show List.lookup _ [_] = _; simp [List.lookup]) ⟨_, hX _ _ hcell, rfl⟩ ?_
  have hself : (ps.zip us).reverse.lookup ar.arg = some (.ref x) := by
    match ps, us, hps, r with
    | p :: ps', u' :: us', hp', .cons ru _ =>
      have hp'' : p = ar.arg := by simpa using hp'
      subst hp''
      cases (show u' = Value.ref x from ru)
      have ndP : (ar.arg :: ps').Nodup := by
        have := S.pre
        rw [← this]
        exact S.nd.sublist (List.take_sublist _ _)
      exact rev_lookup (i := 0) ndP rfl rfl
  refine wpAny_loadName_local S.kind har hns hself ?_
  refine PySem.ks_wpAny_isType_cls hD1 hD2 ⟨rfl, ?_⟩
  refine PySem.ks_wpAny_call_super hD1 hD2 J.at_ J.cls (fun c e => nomatch e) (PySem.W.looks_mroIn hX T.sub) (fun h' hso k' => ?_)
  have I1 : Inv (cxS CX P w K mg base N qual scope f (.ref cda) cc A outer s H E) [(h1.objs.size, PySem.W.ks_superObj D x C)] (start N (.ref x :: vs')) H { s with heap := h', toks := s.toks + (ps.zip us).length } :=
    ClX.pin_new (s := { s with heap := h1, toks := s.toks + (ps.zip us).length }) (t' := s.toks + (ps.zip us).length) I k' (Nat.le_refl _) hso (fun v z => nomatch z)
  have hX' : K.In h' := I1.kIn
  have J' : PySem.W.InstAt h' x { cls := .ref C, dict := none, data := .fields #[.ref t1, .none, .none, .none, .bool false, .none] } C none := ⟨k' _ _ ho, rfl, rfl, trivial⟩
  have fnd := T.fnd
  cases hc : PySem.W.clsIn K C with
  | none => unfold PySem.W.ks_superIn at fnd; rw [hc] at fnd; cases fnd
  | some cdC =>
    unfold PySem.W.ks_superIn at fnd
    rw [hc] at fnd
    refine SE.getMethod_superv (h := h') hso (PySem.W.looks_opaque hX' T.any) (l₀ := cdC.mro) ?_ rfl hX' fnd (PySem.W.ks_ne hX J hc) (by decide) (J'.type.andThen (PySem.W.looks_mroIn hX' T.suv)) ?_
    · exact fun A Q E s k q => wpAny_bind ((PySem.W.looks_clsIn hX' hc) A _ E s k (wpAny_pure q))
    · have I2 := ClX.pin_new (s := { s with heap := h', toks := s.toks + (ps.zip us).length }) (o := SE.wv x) (t' := s.toks + (ps.zip us).length + 1) I1 (fun _ _ z => Heap.get?_push_of_some _ z) (Nat.le_refl _) (Heap.get?_push_size h' rfl) (fun v z => nomatch z)
      refine SE.callWith_wv (x := x) (thn (hta.run pos _ _ _ H _ I2 hq) fun us2 s3 ⟨ws, H2, I3, rv, hl2, hx2, q2⟩ => ⟨ClX.pin_at I3, ?_⟩) (hst _) (hpl _)
      obtain ⟨nm, q, N', bs, bm, sn, sub, ab, col, dd, k0, k1, k2, k3, k5, hCo, hbm⟩ := T.oex.cls
      obtain ⟨t2, ho2⟩ := exo_at I3.hok hx2
      have hu2 : s3.heap.get? h'.objs.size = some (SE.wv x) := ClX.pin_at I3
      have kC := I3.kIn
      obtain ⟨hp3, g3, d3, tk3, os3⟩ := s3
      refine SE.call_wv (kC _ _ hCo) ho2 hu2 (by rw [← Paired.length rv, sizeLine_eq]; omega) fun h4 t4 k4 hx4 => ?_
      have I4 := (ClX.unpin (ClX.unpin I3)).write (t' := tk3) (x := x) (e := x) (o := exo x C none) (by rw [hx2]; exact True.intro) (.inl rfl) k4 ⟨_, hx4⟩ (exo_ok hx4)
      have eu : upd H2 x (exo x C none) = H2 := by
        funext b
        by_cases hb : b = x
        · rw [hb, upd_same, hx2]
        · rw [upd_ne hb]
      rw [eu] at I4
      refine wpAt_of_wpAny (wpAny_mono (hrest.run [] _ _ H2 _ I4 q2) (fun fl s' hs => ?_) fun e s' hs => hs)
      have fin : ∀ {σ' : L2.St} {H' : Hp} {v : V} {u : Value}, Inv (cxS CX P w K mg base N qual scope f (.ref cda) cc A outer s H E) [] σ' H' s' → RelV v u → Q v H' → CE outer P w H s Q u s' :=
        fun {σ' H' v u} J rv q => ⟨v, H', J.os, J.bare, J.base, J.hok, rv, q⟩
      cases fl with
      | ret u =>
        obtain ⟨v, σ', H', J, rv, q⟩ := hs
        exact fin J rv q
      | next =>
        obtain ⟨σ', H', J, q⟩ := hs
        exact fin (v := V.non) (u := Value.none) J rfl q
      | brk =>
        obtain ⟨_, _, _, q⟩ := hs
        exact False.elim q
      | cont =>
        obtain ⟨_, _, _, q⟩ := hs
        exact False.elim q
end
end Ls
end
section
set_option Elab.async false
set_option linter.all false
set_option maxRecDepth 100000
set_option maxHeartbeats 4000000
namespace Ls
open PySem PySem.Spec PyProof.Rows L2

/-! ### defs that must know that no repr is under way -/
structure FnG (P : Program) (w : World) (K : PySem.W.Frag) (mg : Str → Option Value) (base : Heap) (CX : CXT) (k : Nat) (f : Addr) (fd : FuncData) (ps : List Str) (sp : Sp) : Prop where
  len : ∀ vs H Q E, sp vs H Q E → vs.length = ps.length
  run : ∀ (A : Around) (outer : List Env) (s : Shared) (H : Hp) (args : Args) (us : List Value) (vs : List V) (Q : VK) (E : XK), A.guards = some [] → Room k A → Env0 P w K mg base A outer s H → BindsTo s fd args (ps.zip us) → Vals vs us → sp vs H Q E →
    codeAny (model P w) A (.call (.ref f) args) (CR CX outer P w H s Q E) s
section
variable {P : Program} {w : World} {K : PySem.W.Frag} {mg : Str → Option Value} {base : Heap}
theorem FnG.of {CX : CXT} {k : Nat} {f : Addr} {fd : FuncData} {ps : List Str} {sp : Sp} (F : FnOk P w K mg base CX k f fd ps sp) : FnG P w K mg base CX k f fd ps sp := ⟨F.len, fun A outer s H args us vs Q E _ => F.run A outer s H args us vs Q E⟩
theorem okG {x qual : Str} {st : Stmt} {f : Addr} {fd : FuncData} {N ps : List Str} {k : Nat} {sp : Sp} (F : Fun K x qual st f fd) (S : FnScope N ps (defScope st)) (len : ∀ vs H Q E, sp vs H Q E → vs.length = ps.length)
    (hbody : ∀ (cdv : Value) (A : Around) (outer : List Env) (s : Shared) (H : Hp) (vs : List V) (Q : VK) (E : XK), fd.code = cdv → A.guards = some [] → Room k (A.deeper (envOfC qual (defScope st) s.heap.objs.size f cdv)) → sp vs H Q E →
      ∃ t, PSs (cxOf CX0 P w K mg base N qual (defScope st) f cdv A outer s H E).nox (defBody st) t ∧ t { nx := fun _ H' => Q .non H', rt := Q } (start N vs) H) : FnG P w K mg base CX0 (k + 1) f fd ps sp := by
  obtain ⟨oc, od, kV, doc, pm, an, cdv, ct, osl, rfl, lk, hcd⟩ := F.ex
  refine ⟨len, fun A outer s H args us vs Q E hg hr e0 hb r hs => ?_⟩
  refine LamX.run_ofS lk hcd S hr e0 hb r (len _ _ _ _ hs) fun hr' => ?_
  obtain ⟨t, h, q⟩ := hbody cdv A outer s H vs Q E rfl hg hr' hs
  exact ⟨t, h.nox, q⟩
end
section
variable (P : Program) (w : World) (K : PySem.W.Frag) (mg : Str → Option Value) (base : Heap) (CX : CXT) (k : Nat)
/-- the def under the module's name x keeps sp, where no repr is under way -/
structure CalG (x : Str) (sp : Sp) : Prop where
  ex : ∃ f fd ps, mg x = some (.ref f) ∧ PySem.W.keepIn K (.ref f) = true ∧ Binds K fd ps [] ∧ FnG P w K mg base CX k f fd ps sp
end
section
variable {X : Cx} {CX : CXT} {k : Nat} {sp : Sp} {E : XK} {x : Str} {p pos : Pos} {e : PySem.Expr} {es : List PySem.Expr} {t : TA}
theorem pe_calG (hgd : X.A.guards = some []) (c : CalG X.prog X.w X.K X.mg X.base CX k x sp) (hr : Room k X.A) (hg : Gl X x) (hx : Passes CX X E) (ha : PA X (e :: es) t) (hd : (x == ("__debug__" : Str)) = false := by decide)
    (he : starEach (e :: es) X.env = (false, eval e X.env) :: starEach es X.env := by rfl) (hpl : (backTo pos (starEach es X.env)).any (·.1) = false := by rfl) :
    PE X (.Call (.Name x p) (e :: es) [] pos) (tCl sp E t) := by
  obtain ⟨f, fd, ps, hm, hk, hb, F⟩ := c.ex
  refine ⟨fun pins s σ H Q I h => ?_⟩
  refine wpAny_Call_Name_kw (ld_glob I hg hm ?_ hd)
  refine PySem.W.callWith_K (h₀ := X.base) I.ok.mod.kin hk (thn (ha.run pos pins s σ H _ I h) fun us s1 ⟨vs, H1, I1, r, q⟩ => ⟨I1.kIn, ?_⟩) he hpl
  have hl : us.length = ps.length := by
    rw [← r.length]
    exact F.len _ _ _ _ q
  have bd := hb s1 us I1.kIn (by rw [List.append_nil]; exact hl)
  rw [List.append_nil] at bd
  refine wpAny_call (codeAny_mono (F.run X.A X.stack s1 H1 ⟨us, []⟩ us vs Q E hgd hr I1.env0 bd r q) fun res s' hq => ?_)
  match res, hq with
  | .error e, hq => exact hx pins σ H1 s1 e s' I1 hq
  | .ok (.ret u), hq => exact I1.after hq
end

/-! ### the top: tables of code objects, no repr under way -/
def tabH (T : List Addr) : Hp := fun b => if b ∈ T then some (.tbl #[]) else none
theorem tab_in {T : List Addr} {b : Addr} (h : b ∈ T) : tabH T b = some (.tbl #[]) := if_pos h
theorem tab_out {T : List Addr} {b : Addr} (h : b ∉ T) : tabH T b = none := if_neg h
/-- what is tracked at the start: the script (if it is no object of the module), the tables -/
theorem top_heap {P : Program} {w : World} {K : PySem.W.Frag} {a : Addr} {T : List Addr} {s : Shared} {vs : List Value} {ns : List Int} (KX : K.In s.heap) (hT : ∀ b ∈ T, s.heap.get? b = some { cls := .none, data := .fields #[] })
    (ha : s.heap.get? a = some { cls := .type "list", data := .seq vs.toArray }) (hi : IntsAre vs ns) (hl : ns.length ≤ sizeLine) :
    ∃ H : Hp, (∀ b ∈ T, H b = some (.tbl #[])) ∧ SqL K H a (ns.map V.int) ∧ HOk P w H s.heap ∧
      ∀ b u, H b = some u → (b ∈ T ∧ u = .tbl #[]) ∨ (b = a ∧ K.lookup a = none ∧ ∃ o xs, u = .frz o (.lst xs)) := by
  have rv := vals_ints hi
  have aT : a ∉ T := fun z => by
    have q := hT a z
    rw [ha] at q
    cases congrArg Obj.data (Option.some.inj q)
  cases hk : K.lookup a with
  | some o =>
    have e := KX a o hk
    rw [ha] at e
    cases e
    refine ⟨tabH T, fun b hb => tab_in hb, .inr ⟨_, vs.toArray, _, hk, rfl, rfl, rfl, by rw [List.size_toArray, hi.length]; exact hl, by simpa using rv⟩, fun b u z => ?_, fun b u z => ?_⟩
    · by_cases hb : b ∈ T
      · rw [tab_in hb] at z
        cases z
        exact hT b hb
      · rw [tab_out hb] at z
        cases z
    · by_cases hb : b ∈ T
      · rw [tab_in hb] at z
        exact .inl ⟨hb, (Option.some.inj z).symm⟩
      · rw [tab_out hb] at z
        cases z
  | none =>
    refine ⟨upd (tabH T) a (.frz { cls := .type "list", data := .seq vs.toArray } (.lst (ns.map V.int))), fun b hb => ?_, .inl (.inr ⟨_, upd_same⟩), fun b u z => ?_, fun b u z => ?_⟩
    · have nb : b ≠ a := fun e => aT (by rw [← e]; exact hb)
      rw [upd_ne nb]
      exact tab_in hb
    · by_cases hb : b = a
      · subst hb
        rw [upd_same] at z
        cases z
        exact ⟨ha, by rw [List.length_map]; exact hl, vs, _, rv, ha⟩
      · rw [upd_ne hb] at z
        by_cases hb : b ∈ T
        · rw [tab_in hb] at z
          cases z
          exact hT b hb
        · rw [tab_out hb] at z
          cases z
    · by_cases hb : b = a
      · subst hb
        rw [upd_same] at z
        exact .inr ⟨rfl, rfl, _, _, (Option.some.inj z).symm⟩
      · rw [upd_ne hb] at z
        by_cases hb : b ∈ T
        · rw [tab_in hb] at z
          exact .inl ⟨hb, (Option.some.inj z).symm⟩
        · rw [tab_out hb] at z
          cases z
theorem top_call {P : Program} {w : World} {K : PySem.W.Frag} {mg mb : Str → Option Value} {CX : CXT} {k : Nat} {fa a : Addr} {cs : List (Addr × Addr)} {fd : FuncData} {x : Str} {sp : Sp} {s : Shared} {vs : List Value} {ns : List Int}
    (KX : K.In s.heap) (gl : s.heap.Ns mainGlobals mg) (bl : s.heap.Ns builtinsNs mb) (bb : ∀ x : Str, x ≠ "__name__" → mb x = bootBuiltins x) (nl : s.heap.NoLimit) (gn : s.gens = #[])
    (hT : ∀ p ∈ cs, s.heap.get? p.2 = some { cls := .none, data := .fields #[] }) (nT : ∀ p ∈ cs, K.lookup p.2 = none) (C : ∀ p ∈ cs, PySem.W.CodeHd s.heap p.1 p.2)
    (hbm : ∃ (bm : Addr) (ob : Obj), mg "__builtins__" = some (.ref bm) ∧ bm ≠ builtinsNs ∧ s.heap.get? bm = some ob ∧ ob.cls = .type "module" ∧ ob.dict = some builtinsNs ∧ ob.data = .plain)
    (ha : s.heap.get? a = some { cls := .type "list", data := .seq vs.toArray }) (hi : IntsAre vs ns) (hl : ns.length ≤ sizeLine) (hr : Room k callerA)
    (F : ∀ base : Heap, K.In base → base.Ns mainGlobals mg → (∀ p ∈ cs, LamX.TabB base mg p.1 p.2) → (base.get? sysModules).isSome = true → FnG P w K mg base CX k fa fd [x] sp) (hsy : ∃ mm, s.heap.Ns sysModules mm) (hbind : ∀ (s : Shared) (u : Value), BindsTo s fd ⟨[u], []⟩ [(x, u)])
    (hsp : ∀ H : Hp, (∀ p ∈ cs, H p.2 = some (.tbl #[])) → SqL K H a (ns.map V.int) → sp [.ref a] H (fun v _ => v = .bl true) fun _ _ _ => False)
    (hCX : ∀ H e s', CX [] H s (fun _ _ _ => False) e s' → False) :
    codeAny (model P w) callerA (.call (.ref fa) ⟨[.ref a], []⟩) (fun r s' => r = .ok (.ret (.bool true)) ∧ OldK s.heap s'.heap ∧ s'.os = s.os ∧ AllBare s'.gens) s := by
  have hT' : ∀ b ∈ cs.map (·.2), s.heap.get? b = some { cls := .none, data := .fields #[] } := fun b hb => by
    obtain ⟨p, hp, rfl⟩ := List.mem_map.mp hb
    exact hT p hp
  obtain ⟨H, H1, H2, H3, H4⟩ := top_heap (P := P) (w := w) KX hT' ha hi hl
  -- what is no list and no empty record is not tracked
  have un : ∀ {b : Addr} {o : Obj}, s.heap.get? b = some o → (∀ l n, o.data ≠ .seq l n) → o.data ≠ .fields #[] → H b = none := fun {b o} e n1 n2 => by
    cases q : H b with
    | none => rfl
    | some u =>
      rcases H4 b u q with ⟨hb, _⟩ | ⟨hb, _⟩
      · rw [hT' b hb] at e
        cases e
        exact absurd rfl n2
      · rw [hb, ha] at e
        cases e
        exact absurd rfl (n1 _ _)
  have ns' : ∀ {b : Addr} {m : Str → Option Value}, s.heap.Ns b m → (hidT s.heap H).Ns b m := fun {b m} ⟨o, es, ep, e, d, r⟩ =>
    ⟨o, es, ep, hidT_get e (un e (fun l n z => by rw [d] at z; cases z) fun z => by rw [d] at z; cases z), d, r⟩
  have kb : K.In (hidT s.heap H) := fun b o e => hidT_get (KX b o e) (by
    cases q : H b with
    | none => rfl
    | some u =>
      rcases H4 b u q with ⟨hb, _⟩ | ⟨hb, hn, _⟩
      · obtain ⟨p, hp, rfl⟩ := List.mem_map.mp hb
        rw [nT p hp] at e
        cases e
      · rw [hb, hn] at e
        cases e)
  have TB : ∀ p ∈ cs, LamX.TabB (hidT s.heap H) mg p.1 p.2 := fun p hp => by
    refine ⟨?_, ?_, fun z => ?_⟩
    · obtain ⟨o, us, file, tf, flags, tg, inF, text, tt, e1, r1, r2, r3, rest⟩ := C p hp
      refine ⟨o, us, file, tf, flags, tg, inF, text, tt, hidT_get e1 (un e1 (fun l n z => by rw [r2] at z; cases z) fun z => ?_), r1, r2, r3, rest⟩
      rw [r2] at z
      cases z
      simp at r3
    · obtain ⟨bm, ob, b1, b2, b3, b4, b5, b6⟩ := hbm
      refine ⟨bm, ob, b1, b2, fun q => ?_, fun q => ?_, hidT_get b3 (un b3 (fun l n z => by rw [b6] at z; cases z) fun z => by rw [b6] at z; cases z), b4, b5, b6⟩
      · obtain ⟨o, es, ep, e, d, _⟩ := gl
        rw [q, e] at b3
        cases b3
        rw [d] at b6
        cases b6
      · rw [q, hT p hp] at b3
        cases b3
        cases b6
    · obtain ⟨o, es, ep, e, d, _⟩ := gl
      rw [z, hT p hp] at e
      cases e
      cases d
  have sy : ((hidT s.heap H).get? sysModules).isSome = true := by
    obtain ⟨mm, z⟩ := hsy
    obtain ⟨o, _, _, e, _⟩ := ns' z
    rw [e]
    rfl
  have md : L2.Mod K mg (hidT s.heap H) := ⟨kb, ns' gl, ⟨mb, ns' bl, bb⟩, by
    obtain ⟨mc, z1, z2⟩ := nl
    exact ⟨mc, ns' z1, z2⟩⟩
  have e0 : Env0 P w K mg (hidT s.heap H) callerA [] s H := ⟨rfl, md, fun b o e => of_hidT e, Nat.le_of_eq (hidT_size _ _), trivial, fun b hb => absurd (show b ∈ ([] : List Addr) from hb) (by simp), H3, .of_eq gn⟩
  refine codeAny_mono ((F _ kb (ns' gl) TB sy).run callerA [] s H ⟨[.ref a], []⟩ [.ref a] [.ref a] _ _ rfl hr e0 (hbind s (.ref a)) (.cons rfl .nil) (hsp H (fun p hp => H1 _ (List.mem_map.mpr ⟨p, hp, rfl⟩)) H2)) fun r s' h => ?_
  match r, h with
  | .error e, h => exact (hCX H e s' h).elim
  | .ok (.ret u), h =>
    obtain ⟨v, H', os, bare, U, hok', rv, q⟩ := h
    cases (show v = .bl true from q)
    cases (show u = Value.bool true from rv)
    have stays : ∀ b o, s.heap.get? b = some o → s'.heap.get? b = some o ∨ (b ∈ cs.map (·.2) ∧ ∃ more : Array Value, s'.heap.get? b = some { cls := .none, data := .fields more }) := fun b o e => by
      cases q : H b with
      | none => exact .inl (U.keep b o e q (fun z => absurd (show b ∈ ([] : List Addr) from z) (by simp)) (by simp))
      | some u =>
        rcases H4 b u q with ⟨hb, hu⟩ | ⟨hb, _, ob, xs, hu⟩
        · obtain ⟨more, z⟩ := U.tbls b #[] (by rw [q, hu])
          exact .inr ⟨hb, _, hok' b _ z⟩
        · rw [hu] at q
          obtain ⟨z1, _⟩ := H3 b _ q
          obtain ⟨z2, _⟩ := hok' b _ (U.frzs b ob _ q)
          rw [e] at z1
          cases z1
          exact .inl z2
    refine ⟨rfl, ⟨fun b o e => ?_, fun b o e => ?_⟩, os, bare⟩
    · rcases stays b o e with z | ⟨hb, more, z⟩
      · exact .inl z
      · rw [hT' b hb] at e
        cases e
        obtain ⟨p, hp, rfl⟩ := List.mem_map.mp hb
        exact .inr (.inl ⟨((C p hp).tab (hT p hp)).isCodeTable, rfl, #[], more, rfl, by rw [Array.empty_append]; exact z⟩)
    · rcases stays b o e with z | ⟨hb, more, z⟩
      · exact ⟨o, z⟩
      · exact ⟨_, z⟩

/-- the law's promise at the head's heap h -/
def LawG (l : PySem.W.OpenLaw) (w : World) (K : PySem.W.Frag) (CX : CXT) (k n : Nat) (x : Str) (mg : Str → Option Value) (fa : Addr) (h : Heap) : Prop :=
  ∃ (fd : FuncData) (cs : List (Addr × Addr)) (sp : Sp), (∀ p ∈ cs, h.get? p.2 = some { cls := .none, data := .fields #[] }) ∧ (∀ p ∈ cs, K.lookup p.2 = none) ∧ (∀ p ∈ cs, PySem.W.CodeHd h p.1 p.2) ∧ (∀ (s : Shared) (u : Value), BindsTo s fd ⟨[u], []⟩ [(x, u)]) ∧
    (∀ (H : Hp) (a : Addr) (ns : List Int), ns.length ≤ n → (∀ z ∈ ns, Builtin.Int.intBits z ≤ 1048576) → (∀ p ∈ cs, H p.2 = some (.tbl #[])) → SqL K H a (ns.map V.int) → sp [.ref a] H (fun v _ => v = .bl true) fun _ _ _ => False) ∧
    ∀ base : Heap, K.In base → base.Ns mainGlobals mg → (∀ p ∈ cs, LamX.TabB base mg p.1 p.2) → (base.get? sysModules).isSome = true → FnG l.prog w K mg base CX k fa fd [x] sp
/-- the def under the module's name x: its code object's table is empty -/
theorem tab_of {q : Program} {loose : List Str} {mean : ExcName → Option Value} {mg mb : Str → Option Value} {h : Heap} {K : PySem.W.Frag} {x : Str} {fx : Addr} (T : Top q loose mean mg mb h) (KX : K.In h) (hx : ((recsOf q).any fun e => e.name == x) = true) (hm : mg x = some (.ref fx)) : LamX.OwnTab K fx h := by
  intro c P o fd e dd vs sl k1 k2 k3 k4 k5
  obtain ⟨r, hr, hn⟩ := List.any_eq_true.mp hx
  obtain ⟨a', o', fd', c', P', h1, h2, h3, h4, h5, ⟨oc, vc, e1, _, e3, e4⟩, hP⟩ := T.tab r hr
  rw [beq_iff_eq.mp hn, hm] at h1
  cases h1
  rw [KX _ _ k1] at h2
  cases h2
  rw [k2] at h3
  cases h3
  rw [k3] at h4
  cases h4
  rw [KX _ _ k4] at e1
  cases e1
  cases e3
  rw [k5] at e4
  cases e4
  exact hP
theorem walk_G {l : PySem.W.OpenLaw} {n k : Nat} {q : Program} {loose : List Str} {XP : (Str → Option Value) → Heap → Prop} {YP : World → Heap → Prop} {d : DefRec} {K : Params → PySem.W.Frag} {CX : World → CXT} {x : Str}
    (hn : l.most = some n) (hn2 : n ≤ sizeLine) (hdf : d.params.defaults = []) (hr : Room k callerA) (him : importsNone q = true) (hY : ∀ (w : World) (h : Heap), YP w h → (K w.params).In h)
    (F : ∀ (w : World) (mg : Str → Option Value) (fa : Addr) (h : Heap), YP w h → (K w.params).In h → h.Ns mainGlobals mg → mg d.name = some (.ref fa) →
      (∀ (x : Str) (fx : Addr), ((recsOf q).any fun e => e.name == x) = true → mg x = some (.ref fx) → LamX.OwnTab (K w.params) fx h) → LawG l w (K w.params) (CX w) k n x mg fa h)
    (hCX : ∀ (w : World) (H : Hp) (s : Shared) (e : Value) (s' : Shared), CX w [] H s (fun _ _ _ => False) e s' → False) :
    PySem.W.WalkO q loose XP YP l.row.toRowW d [] (fun f vs => PySem.call f vs) := by
  refine Att.attach_callB hn hdf fun w s₀ s₁ mg mb fa o pm cd doc a vs ns G Y ho hd hcd hmg hobj hints hlen hbits hg => ?_
  have KX := hY w _ Y
  obtain ⟨fd, cs, sp, hT, nT, C, hb, hsp, hF⟩ := F w mg fa _ Y KX G.T.g hmg fun x fx z1 z2 => tab_of G.T KX z1 z2
  obtain ⟨mm, z, _⟩ := (G.T.seer him).mods
  exact top_call KX G.T.g G.T.b G.T.builtins G.T.nolimit hg hT nT C G.T.bmain hobj hints (Nat.le_trans hlen hn2) hr hF ⟨mm, z⟩ hb (fun H hH hS => hsp H a ns hlen hbits hH hS) fun H e s' => hCX w H s₁ e s'
end Ls
end
section
set_option Elab.async false
set_option linter.all false
set_option maxRecDepth 100000
set_option maxHeartbeats 4000000
namespace Ls
open PySem PySem.Spec PyProof.Rows L2

/-! ### a value as plain data; repr -/
mutual
inductive TV (H : Hp) : V → PyData → Prop
  | non : TV H .non .none
  | bl (b : Bool) : TV H (.bl b) (.bool b)
  | int (i : Int) : TV H (.int i) (.int i)
  | str (x : Str) : TV H (.str x) (.str x)
  | lst {a : Addr} {xs : List V} {ds : List PyData} (e : H a = some (.lst xs)) (h : TVs H xs ds) : TV H (.ref a) (.list ds)
  | tup {a : Addr} {xs : List V} {ds : List PyData} (e : H a = some (.tup xs)) (h : TVs H xs ds) : TV H (.ref a) (.tuple ds)
  | dct {a : Addr} {kvs : List (Key × V)} {ds : List (PyData × PyData)} (e : H a = some (.dK kvs)) (hk : TVs H (kvs.map fun p => kV p.1) (ds.map (·.1))) (hv : TVs H (kvs.map (·.2)) (ds.map (·.2))) : TV H (.ref a) (.dict ds)
inductive TVs (H : Hp) : List V → List PyData → Prop
  | nil : TVs H [] []
  | cons {v : V} {vs : List V} {d : PyData} {ds : List PyData} (h : TV H v d) (hs : TVs H vs ds) : TVs H (v :: vs) (d :: ds)
end
mutual
theorem TV.ext {H H' : Hp} (e : Ext H H') : ∀ {v : V} {d : PyData}, TV H v d → TV H' v d
  | _, _, .non => .non
  | _, _, .bl b => .bl b
  | _, _, .int i => .int i
  | _, _, .str x => .str x
  | _, _, .lst q h => .lst (e _ _ q) (h.ext e)
  | _, _, .tup q h => .tup (e _ _ q) (h.ext e)
  | _, _, .dct q h1 h2 => .dct (e _ _ q) (h1.ext e) (h2.ext e)
theorem TVs.ext {H H' : Hp} (e : Ext H H') : ∀ {vs : List V} {ds : List PyData}, TVs H vs ds → TVs H' vs ds
  | _, _, .nil => .nil
  | _, _, .cons h hs => .cons (h.ext e) (hs.ext e)
end
section
variable {X : Cx} {pins : List (Addr × Obj)} {σ : L2.St} {H : Hp} {s : Shared}
theorem pairs_keys {P : Program} {w : World} : ∀ {es : List DictEntry} {vs : List (Key × Value)} {kvs : List (Key × V)}, Pairs (mixKind P w) es vs → KV kvs vs → Vals (kvs.map fun p => kV p.1) (es.map (·.key)) ∧ Vals (kvs.map (·.2)) (es.map (·.val))
  | _, _, _, .nil, .nil => ⟨.nil, .nil⟩
  | _, _, _, .cons (kv := kv) h1 h2 h, .cons (a := q) ⟨e1, e2⟩ r => by
    obtain ⟨z1, z2⟩ := pairs_keys h r
    refine ⟨.cons ?_ z1, .cons (by dsimp only; rw [h2]; exact e2) z2⟩
    dsimp only
    rw [e1]
    rcases keyIs_shape h1 with ⟨i, t, ek, ev⟩ | ⟨x, t, ek, ev⟩
    · rw [ek, ev]
      exact ⟨t, rfl⟩
    · rw [ek, ev]
      exact ⟨t, rfl⟩
mutual
/-- what is told of a value as data is so in the heap; none of its lists and dicts is the table of modules -/
theorem reads_of (I : Inv X pins σ H s) (hs : H sysModules = none) : ∀ {v : V} {d : PyData} {u : Value}, TV H v d → RelV v u → ∃ as, Reads s.heap u d as ∧ sysModules ∉ as
  | _, _, _, .non, r => by
    cases r
    exact ⟨[], .none, by simp⟩
  | _, _, _, .bl b, r => by
    cases r
    exact ⟨[], .bool b, by simp⟩
  | _, _, _, .int i, r => by
    obtain ⟨t, rfl⟩ := r
    exact ⟨[], .int i t, by simp⟩
  | _, _, _, .str x, r => by
    obtain ⟨t, rfl⟩ := r
    exact ⟨[], .str x t, by simp⟩
  | .ref a, _, _, .lst e h, r => by
    cases r
    obtain ⟨_, its, n, rv, ho⟩ := (show ObjOk X.prog X.w H s.heap a (.lst _) from I.hok a _ e)
    obtain ⟨as, h1, h2⟩ := readsAll_of I hs h rv
    refine ⟨a :: as, .list ho rfl rfl (by simpa using h1), fun z => ?_⟩
    rcases List.mem_cons.mp z with z | z
    · rw [z, e] at hs
      cases hs
    · exact h2 z
  | .ref a, _, _, .tup e h, r => by
    cases r
    obtain ⟨_, its, rv, o, ho, hc, n, hd⟩ := (show ObjOk X.prog X.w H s.heap a (.tup _) from I.hok a _ e)
    obtain ⟨as, h1, h2⟩ := readsAll_of I hs h rv
    exact ⟨as, .tuple ho hc hd (by simpa using h1), h2⟩
  | .ref a, _, _, .dct e h1 h2, r => by
    cases r
    obtain ⟨_, _, vs, rk, o, es, ep, ho, hx, hd, _, hp, _⟩ := dk_of I.hok e
    obtain ⟨k1, k2⟩ := pairs_keys hp rk
    obtain ⟨as, a1, a2⟩ := readsAll_of I hs h1 k1
    obtain ⟨bs, b1, b2⟩ := readsAll_of I hs h2 k2
    refine ⟨a :: as ++ bs, .dict ho hx.1 hd a1 b1, fun z => ?_⟩
    rcases List.mem_append.mp z with z | z
    · rcases List.mem_cons.mp z with z | z
      · rw [z, e] at hs
        cases hs
      · exact a2 z
    · exact b2 z
theorem readsAll_of (I : Inv X pins σ H s) (hs : H sysModules = none) : ∀ {vs : List V} {ds : List PyData} {us : List Value}, TVs H vs ds → Vals vs us → ∃ as, ReadsAll s.heap us ds as ∧ sysModules ∉ as
  | _, _, _, .nil, .nil => ⟨[], .nil, by simp⟩
  | _, _, _, .cons h t, .cons r rs => by
    obtain ⟨as, a1, a2⟩ := reads_of I hs h r
    obtain ⟨bs, b1, b2⟩ := readsAll_of I hs t rs
    exact ⟨as ++ bs, .cons a1 b1, fun z => (List.mem_append.mp z).elim a2 b2⟩
end
end
/-- repr(x), x plain data -/
def rRepr : List V → Hp → VK → Prop := fun xs H Q => ∃ (v : V) (d : PyData), xs = [v] ∧ TV H v d ∧ d.showable = true ∧ d.depth ≤ 60 ∧ d.shown.length ≤ sizeLine ∧ Q (.str d.shown) H
theorem call_repr {X : Cx} {k : Nat} (hg : X.A.guards = some []) (hr : Room k X.A) (hb : (X.base.get? sysModules).isSome = true) : CallR X (.builtin "repr") rRepr := by
  intro pins s σ H xs us Q I r h
  obtain ⟨v, d, rfl, h, hs, hd, hz, q⟩ := h
  obtain ⟨u, rfl, rv⟩ := vals1 r
  have h0 : H sysModules = none := by
    obtain ⟨o, e⟩ := Option.isSome_iff_exists.mp hb
    exact (I.bs _ _ e).2
  cases h with
  | non =>
    cases rv
    exact PySem.P.repr_of_none ⟨.str _, H, I.tok _, ⟨_, rfl⟩, q⟩
  | bl b =>
    cases rv
    exact PySem.P.repr_of_bool ⟨.str _, H, I.tok _, ⟨_, rfl⟩, q⟩
  | int i =>
    obtain ⟨t, rfl⟩ := rv
    exact PySem.P.repr_of_int (of_decide_eq_true hs) ⟨.str _, H, I.tok _, ⟨_, rfl⟩, q⟩
  | str x =>
    obtain ⟨t, rfl⟩ := rv
    exact PySem.P.repr_of_str ⟨.str _, H, I.tok _, ⟨_, rfl⟩, q⟩ hz
  | lst e h =>
    obtain ⟨as, R, n⟩ := reads_of I h0 (.lst e h) rv
    cases rv
    exact repr_of_reads' R hs (fun _ => n) hg (by have := hr.units; omega) (fun _ _ z => z) (fun h' u tk k => ⟨.str _, H, I.kept (t' := tk) k, ⟨_, rfl⟩, q⟩) hz
  | tup e h =>
    obtain ⟨as, R, n⟩ := reads_of I h0 (.tup e h) rv
    cases rv
    exact repr_of_reads' R hs (fun _ => n) hg (by have := hr.units; omega) (fun _ _ z => z) (fun h' u tk k => ⟨.str _, H, I.kept (t' := tk) k, ⟨_, rfl⟩, q⟩) hz
  | dct e h1 h2 =>
    obtain ⟨as, R, n⟩ := reads_of I h0 (.dct e h1 h2) rv
    cases rv
    exact repr_of_reads' R hs (fun _ => n) hg (by have := hr.units; omega) (fun _ _ z => z) (fun h' u tk k => ⟨.str _, H, I.kept (t' := tk) k, ⟨_, rfl⟩, q⟩) hz
end Ls
end
section
set_option Elab.async false
set_option linter.all false
set_option maxRecDepth 100000
set_option maxHeartbeats 4000000
namespace Ls
open PySem PySem.Spec PyProof.Rows L2 LamX

/-! ### heard(lambda: ..): what is wished of an exception may hang on the hearer's slots -/
section
variable {X : Cx} {pins : List (Addr × Obj)} {σ : L2.St} {H : Hp} {s : Shared}
theorem pe_actS {CXg : CXT} {Eg : XK} {Ng : List Str} {qg : Str} {sg : Scope} {g f c' : Addr} {cdg pm ctv : Value} {params : Arguments} {body : PySem.Expr} {scope : Scope} {k i : Nat} {a : Str} {pn : List (Addr × Obj)} {xe : Value → Shared → Prop} {W : WX} {tb : XK → TE} {p1 p2 : Pos}
    (I : Inv X pins σ H s) (L : LamS X.env.scope scope) (hf : s.heap.get? f = some (PySem.W.kla_obj "<lambda>" (X.env.qual ++ "<lambda>") params body scope (cloFrom X.env.cells scope.names []) pm c' ctv)) (hfn : H f = none) (hfr : f ∉ frs X.stack)
    (hbind : bindArgs (PySem.W.kla_fn "<lambda>" (X.env.qual ++ "<lambda>") params body scope (cloFrom X.env.cells scope.names []) pm (.ref c') ctv) ⟨[], []⟩ = pure [])
    (tk : Takes ((cxOf CXg X.prog X.w X.K X.mg X.base Ng qg sg g cdg X.A X.stack s H Eg).tr pn xe) W) (hr : Room (k + 1) (X.A.deeper (envOfC qg sg s.heap.objs.size g cdg)))
    (hbody : ∀ (A : Around) (outer : List Env) (s : Shared) (H : Hp) (E : XK), Room k (A.deeper (lamEnv X scope s.heap.objs.size f c')) → PE (lamCx X A outer s H E scope f c') body (tb E))
    (hN : Ng[i]? = some a) (hv : Vis sg a) (hd : (a == ("__debug__" : Str)) = false := by decide) (hcd : (a == ("__classdict__" : Str)) = false := by decide) :
    PE ((cxOf CXg X.prog X.w X.K X.mg X.base Ng qg sg g cdg X.A X.stack s H Eg).tr pn xe) (.Call (.Name a p1) [] [] p2)
      (fun σZ HZ Q => σZ[i]? = some (some (.ref f)) ∧ HZ c' = some (CodeO c' (X.env.qual ++ "<lambda>")) ∧ tb (fun cls d H' => W cls d σZ H') σ HZ Q) := by
  refine ⟨fun pinsZ sZ σZ HZ Q IZ h => ?_⟩
  obtain ⟨hs, hc, ht⟩ := h
  -- the same with the wish at these very slots: the library's rule over a wish of its own
  refine wpAny_Call_Name_kw (thn ((pe_var (pos := p1) (i := i) hN hv hd hcd).run pinsZ sZ σZ HZ (fun v H1 => v = .ref f ∧ H1 = HZ) IZ ⟨.ref f, hs, rfl, rfl⟩) fun u s1 ⟨v, H1, I1, r1, q1⟩ => ?_)
  obtain ⟨ev, eH⟩ := q1
  subst ev
  rw [eH] at I1
  obtain rfl : u = Value.ref f := r1
  have of1 := I1.base.keep f _ hf hfn hfr (fun z => nomatch (show f ∈ ([] : List Addr) from z))
  refine PySem.W.callWith_F0 ⟨_, _, _, _, of1⟩ ?_
  have un : Un (frs X.stack) [] H HZ s.heap s1.heap := I1.base
  obtain ⟨⟨oc, vs, t, hoc, hdc, hvc⟩, _, _⟩ := I1.hok c' _ hc
  have rc : codeAny (model X.prog X.w) (X.A.deeper (envOfC qg sg s.heap.objs.size g cdg)) (.call (.ref f) ⟨[], []⟩) (CR (L2.CX X.prog X.w) (envOfC qg sg s.heap.objs.size g cdg :: X.stack) X.prog X.w HZ s1 Q (fun cls d H' => W cls d σZ H')) s1 := by
    refine PySem.W.kla_callFunE hr.depth of1 rfl L.co L.gen rfl ⟨c', oc, vs, t, rfl, hoc, hdc, hvc⟩ ?_
    rw [hbind]
    refine wpAny_pure (wpAny_newFunctionEnv (fun y hy => (L.own y hy).2) (fun y hy => absurd hy (by simp)) (fun h₁ hns hsb => ⟨I1.nolimit.fresh _ hsb, ?_⟩) L.kind)
    show codeAny _ _ (.expr body (lamEnv X scope s1.heap.objs.size f c')) _ _
    have J := lam_start2 (E := fun cls d H' => W cls d σZ H') (f := f) (c' := c') (tk := s1.toks + ([] : List (Str × Value)).length) I L I1.env0 hr.hd un hns fun b o e => hsb.extBut b o (Nat.ne_of_lt (Heap.lt_size e)) (Heap.get?_push_of_some _ e)
    refine PySem.W.kla_codeExpr (wpAny_mono ((hbody _ _ s1 HZ _ (hr.deeper _)).run [] _ _ HZ Q J ht) (fun v s' hq => ?_) fun e s' hq => hq)
    obtain ⟨w', H', J', rv, q⟩ := hq
    exact ⟨w', H', J'.os, J'.bare, J'.base, J'.hok, rv, q⟩
  refine wpAny_call (codeAny_mono rc fun r s' hq => ?_)
  match r, hq with
  | .error e, hq => exact tk e s' (XE.of_call I1 (fun cls d H' h => h) hq)
  | .ok (.ret u), hq => exact I1.after hq
end
/-- the def that calls what it got; TT: what it makes of the lambda's reading -/
def GivesP (P : Program) (w : World) (K : PySem.W.Frag) (mg : Str → Option Value) (base : Heap) (A : Around) (stack : List Env) (Ng : List Str) (x : Str) (sg : Scope) (g : Addr) (cdg : Value) (bg : List Stmt) (a : Str) (q : Str) (TT : (XK → Hp → VK → Prop) → Hp → VK → Prop) : Prop :=
  ∀ (f c' : Addr) (s : Shared) (H : Hp) (Q : VK) (tl : XK → Hp → VK → Prop),
    (∀ (W : WX) (pn : List (Addr × Obj)) (xe : Value → Shared → Prop) (p1 p2 : Pos), Takes ((cxOf C8.CX0 P w K mg base Ng x sg g cdg A stack s H C8.E0).tr pn xe) W →
      PE ((cxOf C8.CX0 P w K mg base Ng x sg g cdg A stack s H C8.E0).tr pn xe) (.Call (.Name a p1) [] [] p2) (fun σZ HZ Q => σZ[0]? = some (some (.ref f)) ∧ HZ c' = some (CodeO c' q) ∧ tl (fun cls d H' => W cls d σZ H') HZ Q)) →
    H c' = some (CodeO c' q) → TT tl H Q →
    ∃ t, PSs (cxOf C8.CX0 P w K mg base Ng x sg g cdg A stack s H C8.E0).nox bg t ∧ t { nx := fun _ H' => Q .non H', rt := Q } (L2.start Ng [.ref f]) H
def GivesS (X : Cx) (Ng : List Str) (x : Str) (sg : Scope) (g : Addr) (cdg : Value) (bg : List Stmt) (a : Str) (q : Str) (TT : (XK → Hp → VK → Prop) → Hp → VK → Prop) : Prop :=
  GivesP X.prog X.w X.K X.mg X.base X.A X.stack Ng x sg g cdg bg a q TT
section
variable {X : Cx}
/-- x(lambda: body) -/
theorem pe_lamS {T : List (Addr × Str)} {TT : (XK → Hp → VK → Prop) → Hp → VK → Prop} {x a : Str} {g c P : Addr} {k : Nat} {st : Stmt} {fd : FuncData} {Ng : List Str}
    {params : Arguments} {body : PySem.Expr} {scope : Scope} {t : XK → TE} {p lpos pos : Pos} (F : Fun X.K x x st g fd) (hg : Gl X x) (hm : X.mg x = some (.ref g))
    (hb : L2.Binds X.K fd [a] []) (Sg : FnScope Ng [a] (defScope st)) (hNg : Ng[0]? = some a) (hva : Vis (defScope st) a)
    (hG : ∀ cdv, GivesS X Ng x (defScope st) g cdv (defBody st) a (X.env.qual ++ "<lambda>") TT)
    (TB : TabB X.base X.mg c P) (hcode : X.env.code = .ref c) (hmT : (P, X.env.qual ++ "<lambda>") ∈ T) (hu : ∀ p ∈ T, p.1 = P → p.2 = X.env.qual ++ "<lambda>") (hr : Room (k + 2) X.A) (L : LamS X.env.scope scope) (hdef : defaultsOf params X.env = ([], []))
    (hbind : ∀ (q : Str) (cl : List (Str × Addr)) (pm cv ctv : Value), bindArgs (PySem.W.kla_fn "<lambda>" q params body scope cl pm cv ctv) ⟨[], []⟩ = pure [])
    (hbody : ∀ (A : Around) (outer : List Env) (s : Shared) (H : Hp) (E : XK) (f c' : Addr), Room k (A.deeper (lamEnv X scope s.heap.objs.size f c')) → PE (lamCx X A outer s H E scope f c') body (t E))
    (hdb : (x == ("__debug__" : Str)) = false := by decide) (hd : (a == ("__debug__" : Str)) = false := by decide) (hcd : (a == ("__classdict__" : Str)) = false := by decide) :
    PE X (.Call (.Name x p) [.Lambda params body scope lpos] [] pos) (tLam T TT t) := by
  obtain ⟨oc, od, kV, doc, pm, an, cdv, ct, osl, rfl, lk, hcg⟩ := F.ex
  refine ⟨fun pins s σ H Q I h => ?_⟩
  obtain ⟨hT, h⟩ := h
  refine wpAny_Call_Name_kw (ld_glob I hg hm ?_ hdb)
  refine PySem.W.callWith_K (h₀ := X.base) I.ok.mod.kin F.kp ?_ (by rfl) (by rfl)
  show wpAny _ _ (spliced ((false, eval (.Lambda params body scope lpos) X.env) :: backTo pos (starEach [] X.env))) _ _ s
  refine Calls.spliced_cons (lam_make2 I TB hcode hmT hu hT hdef (L.has I.ok) fun f c' pm' ctv H1 s' I1 eN T1 hf hfn hfr hco => Calls.spliced_nil ⟨I1.kIn, ?_⟩)
  have rc : codeAny (model X.prog X.w) X.A (.call (.ref g) ⟨[.ref f], []⟩) (CR C8.CX0 X.stack X.prog X.w H1 s' Q C8.E0) s' := by
    refine run_ofS (N := Ng) (ps := [a]) (us := [.ref f]) (vs := [.ref f]) lk hcg Sg hr I1.env0 (hb s' [.ref f] I1.kIn rfl) (.cons rfl .nil) rfl fun hr' => ?_
    obtain ⟨t', ht', hq'⟩ := hG cdv f c' s' H1 Q (fun E H' Q' => t E σ H' Q') (fun W pn xe p1 p2 tk => pe_actS (i := 0) I1 L hf hfn hfr (hbind _ _ _ _ _) tk hr' (fun A outer s H E hr2 => hbody A outer s H E f c' hr2) hNg hva hd hcd) hco (h H1 eN T1)
    exact ⟨t', ht'.nox, hq'⟩
  refine wpAny_call (codeAny_mono rc fun r s2 hq => ?_)
  match r, hq with
  | .error e, hq => exact (show False from hq).elim
  | .ok (.ret u), hq => exact I1.after hq
end
end Ls
end
section
set_option Elab.async false
set_option linter.all false
set_option maxRecDepth 100000
set_option maxHeartbeats 4000000
namespace Ls
open PySem PySem.Spec PyProof.Rows L2

theorem atI_at {α : Type} {xs : List α} {i : Int} {j : Nat} {v : α} (e : i = (j : Int)) (h : xs[j]? = some v) : atI xs i = some v := by
  rw [e]
  exact atI_nat h
theorem Paired.at_ {α β : Type} {F : α → β → Prop} : ∀ {l₁ : List α} {l₂ : List β} {i : Nat} {a : α}, Paired F l₁ l₂ → l₁[i]? = some a → ∃ b, l₂[i]? = some b ∧ F a b
  | _, _, _, _, .nil, h => by simp at h
  | _, _, 0, _, .cons r _, h => by simp at h; subst h; exact ⟨_, rfl, r⟩
  | _, _, i + 1, a, .cons _ t, h => by
    obtain ⟨b, h1, h2⟩ := Paired.at_ (i := i) (a := a) t (by simpa using h)
    exact ⟨b, by simpa using h1, h2⟩
theorem ext_free {H H' : Hp} (e : Ext H H') {a : Addr} (h : H' a = none) : H a = none := by
  cases q : H a with
  | none => rfl
  | some o => rw [e a o q] at h; cases h

/-! ### what is seen of a heap: without the places S, without the tables of code objects -/
def vis (S : List Addr) (H : Hp) : Hp := fun b => if b ∈ S then none else match H b with | some (.tbl _) => none | o => o
theorem vis_some {S : List Addr} {H : Hp} {b : Addr} {o : HO} (h : vis S H b = some o) : b ∉ S ∧ H b = some o ∧ ∀ ps, o ≠ .tbl ps := by
  unfold vis at h
  by_cases e : b ∈ S
  · rw [if_pos e] at h
    cases h
  · rw [if_neg e] at h
    cases q : H b with
    | none => rw [q] at h; cases h
    | some u =>
      rw [q] at h
      cases u <;> first | (cases h; done) | (cases h; exact ⟨e, rfl, fun ps z => nomatch z⟩)
theorem vis_at {S : List Addr} {H : Hp} {b : Addr} {o : HO} (h : b ∉ S) (q : H b = some o) (n : ∀ ps, o ≠ .tbl ps) : vis S H b = some o := by
  unfold vis
  rw [if_neg h, q]
  cases o <;> first | rfl | exact absurd rfl (n _)
theorem vis_ext {S : List Addr} {H : Hp} : Ext (vis S H) H := fun a o e => (vis_some e).2.1
theorem vis_mono {S : List Addr} {H H' : Hp} (e : Ext H H') : Ext (vis S H) (vis S H') := fun a o h => by
  obtain ⟨h1, h2, h3⟩ := vis_some h
  exact vis_at h1 (e a o h2) h3
theorem vis_keep {p c : Addr} {S : List Addr} {H H' : Hp} (k : Keep p c H H') (hp : p ∈ S) (hc : c ∈ S) : Ext (vis S H) (vis S H') := fun a o e => by
  obtain ⟨h1, h2, h3⟩ := vis_some e
  exact vis_at h1 (k a o h2 (fun z => h1 (by rw [z]; exact hp)) fun z => h1 (by rw [z]; exact hc)) h3
theorem vis_extN {S : List Addr} {H H' : Hp} (k : LamX.ExtN H H') : Ext (vis S H) (vis S H') := fun a o e => by
  obtain ⟨h1, h2, h3⟩ := vis_some e
  exact vis_at h1 (k a o h2 h3) h3
theorem vis_new {S : List Addr} {H H' : Hp} (h : ∀ b ∈ S, H b ≠ none) : ∀ {a : Addr} {o : HO}, nw H H' a = some o → (∀ ps, o ≠ .tbl ps) → vis S H' a = some o := fun {a o} e n => by
  obtain ⟨h1, h2⟩ := nw_some e
  exact vis_at (fun z => h a z h1) h2 n
theorem tabs_keep {T : List (Addr × Str)} {p c : Addr} {H H' : Hp} (t : LamX.Tabs T H) (k : Keep p c H H') {xs ys : List V} (hp : H p = some (.lst xs)) (hc : H c = some (.lst ys)) : LamX.Tabs T H' := fun q hq => by
  obtain ⟨ps, h1, h2, h3⟩ := t q hq
  have n : ∀ {b : Addr} {o : HO}, H b = some o → (∀ zs, o ≠ .lst zs) → H' b = some o := fun {b o} e n => k b o e (fun z => by
      rw [z, hp] at e
      exact n xs (Option.some.inj e).symm) fun z => by
      rw [z, hc] at e
      exact n ys (Option.some.inj e).symm
  refine ⟨ps, n h1 (fun zs z => by cases z), h2, fun pos cv hcv => ?_⟩
  obtain ⟨c', e1, e2⟩ := h3 pos cv hcv
  exact ⟨c', e1, n e2 (fun zs z => by unfold LamX.CodeO at z; cases z)⟩

theorem tabs_upd {T : List (Addr × Str)} {p : Addr} {H : Hp} {o : HO} (t : LamX.Tabs T H) {xs : List V} (hp : H p = some (.lst xs)) : LamX.Tabs T (upd H p o) := tabs_keep (c := p) t Keep.upd1 hp hp
theorem tabs_upd2 {T : List (Addr × Str)} {p : Addr} {H : Hp} {o : HO} (t : LamX.Tabs T H) {kvs : List (Key × V)} (hp : H p = some (.dK kvs)) : LamX.Tabs T (upd H p o) := fun q hq => by
  obtain ⟨ps, h1, h2, h3⟩ := t q hq
  refine ⟨ps, ?_, h2, fun pos cv hcv => ?_⟩
  · rw [upd_ne fun z => by rw [z, hp] at h1; cases h1]
    exact h1
  · obtain ⟨c', e1, e2⟩ := h3 pos cv hcv
    refine ⟨c', e1, ?_⟩
    rw [upd_ne fun z => by rw [z, hp] at e2; unfold LamX.CodeO at e2; cases e2]
    exact e2
/-! ### own errors with fields, by one word -/
/-- the __init__ of an error class at C that keeps its arguments under the names fs -/
def spX (C : Addr) (fs : List Str) : Sp := fun vs H Q _ => ∃ (a : Addr) (ys : List V), vs = .ref a :: ys ∧ ys.length = fs.length ∧ H a = some (exo a C none) ∧
  ∀ (dx : Addr) (H' : Hp), H dx = none → dx ≠ a → H' a = some (exo a C (some dx)) → H' dx = some (exd dx (fs.zip ys).reverse) → (∀ b, b ≠ a → b ≠ dx → H' b = H b) → Q .non H'
section
variable (P : Program) (w : World) (K : PySem.W.Frag) (mg : Str → Option Value) (base : Heap)
structure Xer (C : Addr) (x : Str) (fs : List Str) : Prop where
  m : mg x = some (.ref C)
  oex : OexC K C
  ex : ∃ fI fd ps, PySem.W.findIn K (.ref C) "__init__" = some (some (.ref fI)) ∧ PySem.W.typeIn K (.ref fI) = some (.type "function") ∧ FnOk P w K mg base CX0 1 fI fd ps (spX C fs) ∧ Binds K fd ps []
end
theorem pa_weak {X : Cx} {es : List PySem.Expr} {ta : TA} (h : PA X es ta) : PA X es (fun σ H Q => ∃ Q0 : List V → Hp → Prop, ta σ H Q0 ∧ ∀ ys H1, Q0 ys H1 → Q ys H1) :=
  ⟨fun pos pins s σ H Q I ⟨Q0, h0, k⟩ => thn (h.run pos pins s σ H Q0 I h0) fun us s1 ⟨vs, H1, I1, r, q⟩ => ⟨vs, H1, I1, r, k _ _ q⟩⟩
section
variable {X : Cx} {C : Addr} {x : Str} {fs : List Str} {p pos : Pos} {e : PySem.Expr} {es : List PySem.Expr} {ta : TA}
theorem pmk_err (c : Xer X.prog X.w X.K X.mg X.base C x fs) (hr : Room 2 X.A) (hg : Gl X x) (ha : PA X (e :: es) ta)
    (hdb : (x == ("__debug__" : Str)) = false := by decide) (he : starEach (e :: es) X.env = (false, eval e X.env) :: starEach es X.env := by rfl) (hpl : (backTo pos (starEach es X.env)).any (·.1) = false := by rfl) :
    PMk X (.Call (.Name x p) (e :: es) [] pos) (fun σ H Q => ta σ H fun ys H1 => ys.length = fs.length ∧ ys.length ≤ 1000 ∧ ∀ d, H1 d = none → Q (.ref C) (some d) (upd H1 d (.xd (fs.zip ys).reverse))) := by
  obtain ⟨fI, fd, ps, iC, tI, F, hb⟩ := c.ex
  have h := pmk_oex (dvs := []) (ds := []) (p := p) (pos := pos) c.oex iC tI F hr hb .nil pass0 hg c.m (pa_weak ha) hdb he hpl
  intro pins s σ H Q I hq
  refine h pins s σ H Q I ?_
  refine ⟨_, hq, fun ys H1 ⟨hl, hz, k⟩ => ?_⟩
  refine ⟨hz, fun a na => ⟨a, ys ++ [], by simp, by simpa using hl, upd_same, fun dx H2 n1 n2 h1 h2 h3 => ⟨rfl, dx, _, h1, h2, ?_, ?_⟩⟩⟩
  · rw [upd_ne n2] at n1
    exact n1
  · rw [upd_ne n2] at n1
    have eH : upd (del H2 a) dx (.xd (fs.zip (ys ++ [])).reverse) = upd H1 dx (.xd (fs.zip ys).reverse) := by
      rw [List.append_nil]
      funext b
      by_cases hb : b = dx
      · rw [hb, upd_same, upd_same]
      · rw [upd_ne hb, upd_ne hb]
        by_cases ha : b = a
        · rw [ha, del_same, na]
        · rw [del_ne ha, h3 b ha hb, upd_ne ha]
    rw [eH]
    exact k dx n1
end

/-! ### what passes on in a def's body, in a lambda's, in an __init__ that says super() -/
section
variable {P : Program} {w : World} {K : PySem.W.Frag} {mg : Str → Option Value} {base : Heap} {N : List Str} {qual : Str} {scope : Scope} {f cc : Addr} {cd : Value} {A : Around} {outer : List Env} {s : Shared} {H : Hp} {E : XK}
theorem tkC : Takes (cxOf (L2.CX P w) P w K mg base N qual scope f cd A outer s H E) (fun cls d _ H => E cls d H) := takes_of rfl rfl rfl rfl
theorem passC : Passes (L2.CX P w) (cxOf (L2.CX P w) P w K mg base N qual scope f cd A outer s H E) E := passes_call tkC fun _ _ _ _ h => h
theorem tkS : Takes (cxS (L2.CX P w) P w K mg base N qual scope f cd cc A outer s H E) (fun cls d _ H => E cls d H) := takes_of rfl rfl rfl rfl
theorem passS : Passes (L2.CX P w) (cxS (L2.CX P w) P w K mg base N qual scope f cd cc A outer s H E) E := passes_call tkS fun _ _ _ _ h => h
theorem passN {X : Cx} : Passes (L2.CX P w) X (fun _ _ _ => False) := fun _ _ _ _ _ _ _ h => by
  obtain ⟨_, _, _, _, _, _, _, _, _, _, _, _, z⟩ := h
  exact z.elim
theorem tkL {X : Cx} {c' : Addr} : Takes (LamX.lamCx X A outer s H E scope f c') (fun cls d _ H => E cls d H) := takes_of rfl rfl rfl rfl
theorem passLm {X : Cx} {c' : Addr} : Passes (L2.CX X.prog X.w) (LamX.lamCx X A outer s H E scope f c') E := passes_call tkL fun _ _ _ _ h => h
end
/-! ### plain data: its type, its truth as a name -/
def tyN : PyData → String
  | .none => "NoneType"
  | .bool _ => "bool"
  | .int _ => "int"
  | .str _ => "str"
  | .list _ => "list"
  | .tuple _ => "tuple"
  | .dict _ => "dict"
theorem tyX_of {K : PySem.W.Frag} {H : Hp} {v : V} {d : PyData} (h : TV H v d) : TyX K H v (.type (tyN d)) := by
  cases h with
  | non => exact .base .non
  | bl b => exact .base (.bl b)
  | int i => exact .base (.int i)
  | str x => exact .base (.str x)
  | lst e _ => exact .base (.lst e)
  | tup e _ => exact .base (.tup e)
  | dct e _ _ => exact .base (.dK e)
def isStrD : PyData → Bool
  | .str _ => true
  | _ => false
theorem kit_str {K : PySem.W.Frag} (d : PyData) : PySem.W.kitOne K (.type (tyN d)) (.type "str") = some (isStrD d) := by
  have k1 : kitB "NoneType" "str" = some false := by decide +kernel
  have k2 : kitB "bool" "str" = some false := by decide +kernel
  have k3 : kitB "int" "str" = some false := by decide +kernel
  have k4 : kitB "str" "str" = some true := by decide +kernel
  have k5 : kitB "list" "str" = some false := by decide +kernel
  have k6 : kitB "tuple" "str" = some false := by decide +kernel
  have k7 : kitB "dict" "str" = some false := by decide +kernel
  cases d <;> first | exact kit_ty k1 | exact kit_ty k2 | exact kit_ty k3 | exact kit_ty k4 | exact kit_ty k5 | exact kit_ty k6 | exact kit_ty k7
theorem strD {d : PyData} (h : isStrD d = true) : ∃ z, d = .str z := by
  cases d <;> first | exact ⟨_, rfl⟩ | cases h
theorem tv_str {H : Hp} {v : V} {z : Str} (h : TV H v (.str z)) : v = .str z := by
  cases h
  rfl
/-- texts within are short -/
def SmD (d : PyData) : Prop := ∀ z, d = .str z → z.length ≤ 1000
/-- a def that closes over __class__ -/
structure FunS (K : PySem.W.Frag) (x qual : Str) (st : Stmt) (f : Addr) (fd : FuncData) (cda cc : Addr) : Prop where
  ex : ∃ (oc : Value) (od : Option Addr) (kV doc pm : Value) (an : Option Addr) (ct : Value) (osl : Array (Option Value)),
    fd = PySem.W.ksFn x qual (defArgs st) (defBody st) (defScope st) .none kV doc pm an (.ref cda) ct cc ∧ K.lookup f = some ⟨oc, od, .func fd, osl⟩ ∧ PySem.W.codeIn K (.ref cda) qual = true
  kp : PySem.W.keepIn K (.ref f) = true

/-! ### a comprehension that makes one item a turn; what is kept may hang on the turn -/
section
variable {J : It} {n : Nat} {G : Hp → Prop} {Y : Nat → Hp → V → Hp → Prop} {g : TG} {te : TE} {vs : List Nat} {σ : L2.St} {H1 : Hp} {D : Addr} {Qd : Hp → Prop}
theorem lc_mapI (w : Walk J n G Y) (S : List Addr) (hS : D ∈ S) (Iv : Nat → Hp → Prop) (R : Nat → V → Hp → Prop) (hn : n ≤ 100000) (hm : ∀ j y H H', Ext H H' → R j y H → R j y H')
    (hIv : ∀ i H o, Iv i H → Iv i (upd H D o)) (h0 : Iv 0 (upd H1 D (.lst []))) (hG : ∀ i H, Ext (hid S H1) (hid S H) → Iv i H → G H)
    (hs : ∀ i x H H' acc (C : VK), i < n → Ext (hid S H1) (hid S H) → Iv i H → H D = some (.lst acc) → Y i H x H' → (∀ y H4, H4 D = some (.lst acc) → Ext (hid S H) (hid S H4) → Iv (i + 1) H4 → R i y (hid S H4) → C y H4) →
      g x (wipe σ vs) H' fun σ2 H2 => wipe σ2 vs = wipe σ vs ∧ te σ2 H2 C)
    (hd : ∀ H ys, Ext (hid S H1) (hid S H) → Iv n H → H D = some (.lst ys) → ys.length = n → (∀ j y, ys[j]? = some y → R j y (hid S H)) → Qd H) :
    ∃ W : Nat → Nat → Hp → Prop, (∃ m, W 0 m (upd H1 D (.lst []))) ∧ ∀ i m H, W i m H →
      (J.stop i H ∧ Qd H) ∨ (J.go i H ∧ ∃ Nx : Hp → Prop, (∀ H', Nx H' → ∃ m', m' < m ∧ W (i + 1) m' H') ∧ ∀ x H', J.yld i H x H' → g x (wipe σ vs) H' fun σ2 H2 => wipe σ2 vs = wipe σ vs ∧ tYes σ2 H2 fun b H3 =>
        if b = true then te σ2 H3 fun y H4 => ∃ acc, H4 D = some (.lst acc) ∧ acc.length < sizeLine ∧ Nx (upd H4 D (.lst (acc ++ [y]))) else Nx H3) := by
  refine lc_it w (fun i H => ∃ ys : List V, H D = some (.lst ys) ∧ ys.length = i ∧ Ext (hid S H1) (hid S H) ∧ Iv i H ∧ ∀ j y, ys[j]? = some y → R j y (hid S H))
    ⟨[], upd_same, rfl, by rw [hid_upd hS]; exact Ext.rfl', h0, fun j y e => by simp at e⟩ (fun i H _ ⟨_, _, _, e, iv, _⟩ => hG i H e iv) ?_ ?_
  · rintro i x H H' hi ⟨ys, hD, hl, e, iv, r⟩ y
    refine hs i x H H' ys _ hi e iv hD y fun v H4 h4 e4 iv4 r4 => ?_
    refine ⟨ys, h4, Nat.lt_of_le_of_lt (show ys.length ≤ 100000 by omega) (by decide), ys ++ [v], upd_same, by rw [List.length_append, hl]; rfl, by rw [hid_upd hS]; exact e.trans e4, hIv _ _ _ iv4, fun j z hz => ?_⟩
    rw [hid_upd hS]
    by_cases hj : j < ys.length
    · rw [List.getElem?_append_left hj] at hz
      exact hm j z _ _ e4 (r j z hz)
    · rw [List.getElem?_append_right (by omega)] at hz
      have : j = i := by
        cases q : j - ys.length with
        | zero => omega
        | succ k => rw [q] at hz; simp at hz
      subst this
      rw [hl] at hz
      simp at hz
      subst hz
      exact r4
  · rintro H ⟨ys, hD, hl, e, iv, r⟩
    exact hd H ys e iv hD hl r
end

/-! ### C.m(a = v), m a classmethod -/
section
variable (P : Program) (w : World) (K : PySem.W.Frag) (mg : Str → Option Value) (base : Heap) (CX : CXT) (k : Nat)
structure ClmK (C : Addr) (m a : Str) (sp : Sp) : Prop where
  ex : ∃ mc p g fd c, ClX.CRead K C mc ∧ ClX.CMet K C mc m p g ∧ FnOk P w K mg base CX k g fd [c, a] sp ∧ ∀ (s : Shared) (u : Value), BindsTo s fd ⟨[.ref C], [(a, u)]⟩ [(c, .ref C), (a, u)]
end
section
variable {X : Cx} {CX : CXT} {k : Nat} {C : Addr} {sp : Sp} {E : XK} {m a : Str} {pos apos : Pos} {o : PySem.Expr} {kws : List Keyword} {ta : TE} {tk : TA} {pl : Sem Bool}
theorem pe_clmk (c : ClmK X.prog X.w X.K X.mg X.base CX k C m a sp) (hr : Room k X.A) (ho : PE X o ta) (hx : Passes CX X E) (hkw : PK X kws tk)
    (hall : (backToKw pos (keywordEach kws X.env)).all (·.1.isSome) = true := by rfl) (hks : (backToKw pos (keywordEach kws X.env)).filterMap (·.1) = [a] := by rfl)
    (hpl : ((backTo pos (starEach [] X.env)).any (·.1) || (backToKw pos (keywordEach kws X.env)).any (·.1.isNone)) = false := by rfl)
    (ht : eval (.Call (.Attribute o m apos) [] kws pos) X.env = (do
      let ov ← eval o X.env
      standAt apos.atName
      let (f, first) ← holding [ov] (getMethod ov m pl)
      callWith pos f first (backTo pos (starEach [] X.env)) (backToKw pos (keywordEach kws X.env))) := by rfl) :
    PE X (.Call (.Attribute o m apos) [] kws pos) (fun σ H Q => ta σ H fun x H1 => x = .ref C ∧ tk σ H1 fun zs H2 => ∃ z, zs = [z] ∧ sp [.ref C, z] H2 Q E) := by
  obtain ⟨mc, p, g, fd, cn, r, c, F, hb⟩ := c.ex
  refine ⟨fun pins s σ H Q I h => ?_⟩
  refine PySem.W.methodCall_KW (pl := pl) (thn (ho.run pins s σ H _ I h) fun u s1 ⟨x, H1, I1, rx, ex, q⟩ => ?_) ht
  subst ex
  obtain rfl : u = Value.ref C := rx
  refine ClX.getmethcm_ok I1 r c fun s2 I2 => ?_
  refine PySem.W.callWith_of (P := PySem.W.MethP X.K s1.heap.objs.size g (.ref C)) hpl (PySem.W.keeps_M c.fi) (evalArgs_kw2_nil hall ?_)
  refine thn (hkw.run pos _ s2 σ H1 _ I2 q) fun ws s3 ⟨zs, H2, I3, rz, z, ez, q3⟩ => ?_
  subst ez
  refine ⟨⟨ClX.pin_at I3, I3.kIn⟩, ?_⟩
  rw [hks]
  obtain ⟨u, rfl, ru⟩ := vals1 rz
  have r2 : Vals [V.ref C, z] [Value.ref C, u] := .cons rfl (.cons ru .nil)
  have run := F.run X.A X.stack s3 H2 ⟨[.ref C], [(a, u)]⟩ [.ref C, u] [.ref C, z] Q E hr I3.env0 (hb s3 u) r2 q3
  have z2 : wpAny (model X.prog X.w) X.A (call (.ref s1.heap.objs.size) [] [(a, u)]) (EP X ((s1.heap.objs.size, PySem.W.methodObj (.ref g) (.ref C)) :: pins) σ Q) X.xe s3 := by
    refine wpAny_call (PySem.W.method_call (ClX.pin_at I3) (codeAny_mono run fun res s' hq => ?_))
    match res, hq with
    | .error e, hq => exact hx _ σ H2 s3 e s' I3 hq
    | .ok (.ret u), hq => exact I3.after hq
  exact thn z2 fun _ _ y => ClX.unpinE y
end

mutual
theorem tv_vis {H : Hp} : ∀ {v : V} {d : PyData}, TV H v d → TV (vis [] H) v d
  | _, _, .non => .non
  | _, _, .bl b => .bl b
  | _, _, .int i => .int i
  | _, _, .str x => .str x
  | _, _, .lst q h => .lst (vis_at (by simp) q fun _ z => by cases z) (tvs_vis h)
  | _, _, .tup q h => .tup (vis_at (by simp) q fun _ z => by cases z) (tvs_vis h)
  | _, _, .dct q h1 h2 => .dct (vis_at (by simp) q fun _ z => by cases z) (tvs_vis h1) (tvs_vis h2)
theorem tvs_vis {H : Hp} : ∀ {vs : List V} {ds : List PyData}, TVs H vs ds → TVs (vis [] H) vs ds
  | _, _, .nil => .nil
  | _, _, .cons h hs => .cons (tv_vis h) (tvs_vis hs)
end
end Ls
end
section
set_option Elab.async false
set_option linter.all false
set_option maxRecDepth 100000
set_option maxHeartbeats 4000000
namespace Ls
open PySem PySem.Spec PyProof.Rows L2
open TL
/-! ### a text cut at one sign -/
theorem pre1 (s c : Nat) (r : List Nat) : pre [s] (c :: r) = decide (c = s) := by
  show ((c :: r).take 1 == [s]) = _
  by_cases h : c = s
  · subst h
    simp
  · have : ¬ [c] = [s] := fun e => h (List.cons.inj e).1
    simp [h]
theorem spl1_ne (s : Nat) : ∀ (l acc : List Nat), spl [s] 0 acc l ≠ []
  | [], acc => by rw [spl_nil]; simp
  | c :: r, acc => by
    by_cases h : c = s
    · rw [spl_hit (by rw [pre1, decide_eq_true h])]
      simp
    · rw [spl_miss (by rw [pre1, decide_eq_false h])]
      exact spl1_ne s r _
theorem joinL_cons (S a : List Nat) : ∀ {l : List (List Nat)}, l ≠ [] → joinL S (a :: l) = a ++ (S ++ joinL S l)
  | [], h => absurd rfl h
  | b :: r, _ => rfl
theorem spl1_join (s : Nat) : ∀ (l acc : List Nat), joinL [s] (spl [s] 0 acc l) = acc ++ l
  | [], acc => by
    rw [spl_nil, List.append_nil]
    rfl
  | c :: r, acc => by
    by_cases h : c = s
    · rw [spl_hit (by rw [pre1, decide_eq_true h])]
      show joinL [s] (acc :: spl [s] 0 [] r) = _
      rw [joinL_cons _ _ (spl1_ne s r []), spl1_join s r []]
      subst h
      simp
    · rw [spl_miss (by rw [pre1, decide_eq_false h]), spl1_join s r (acc ++ [c])]
      simp
theorem spl1_free (s : Nat) : ∀ (l acc : List Nat), s ∉ acc → ∀ p ∈ spl [s] 0 acc l, s ∉ p
  | [], acc, ha, p, hp => by
    rw [spl_nil] at hp
    rw [List.mem_singleton.mp hp]
    exact ha
  | c :: r, acc, ha, p, hp => by
    by_cases h : c = s
    · rw [spl_hit (by rw [pre1, decide_eq_true h])] at hp
      rcases List.mem_cons.mp hp with e | e
      · rw [e]
        exact ha
      · exact spl1_free s r [] (by simp) p e
    · rw [spl_miss (by rw [pre1, decide_eq_false h])] at hp
      exact spl1_free s r _ (by simp [ha, Ne.symm h]) p hp
theorem spl1_sub (s : Nat) : ∀ (l acc : List Nat), ∀ p ∈ spl [s] 0 acc l, p.length ≤ acc.length + l.length ∧ ∀ c ∈ p, c ∈ acc ∨ c ∈ l
  | [], acc, p, hp => by
    rw [spl_nil] at hp
    rw [List.mem_singleton.mp hp]
    exact ⟨Nat.le_refl _, fun c h => .inl h⟩
  | c :: r, acc, p, hp => by
    by_cases h : c = s
    · rw [spl_hit (by rw [pre1, decide_eq_true h])] at hp
      rcases List.mem_cons.mp hp with e | e
      · rw [e]
        exact ⟨by omega, fun c h => .inl h⟩
      · obtain ⟨h1, h2⟩ := spl1_sub s r [] p e
        refine ⟨by simp at h1 ⊢; omega, fun c h => (h2 c h).elim (fun z => absurd z (by simp)) fun z => .inr (by simp [z])⟩
    · rw [spl_miss (by rw [pre1, decide_eq_false h])] at hp
      obtain ⟨h1, h2⟩ := spl1_sub s r _ p hp
      refine ⟨by simp at h1 ⊢; omega, fun c' h => (h2 c' h).elim (fun z => ?_) fun z => .inr (by simp [z])⟩
      rcases List.mem_append.mp z with z | z
      · exact .inl z
      · exact .inr (by simp at z; simp [z])
section
variable {x y : Str} {s : Nat}
theorem split_tl (ey : tl y = [s]) (hk : y.cps.all (· < 256) = true) : (Txt.split x y).map tl = spl [s] 0 [] (tl x) := by
  rw [split_spl x y (by rw [ey]; simp) (kind_ok hk), ey]
theorem split_back (ey : tl y = [s]) (hk : y.cps.all (· < 256) = true) : Txt.join y (Txt.split x y) = x := by
  refine ext_tl ?_
  rw [join_eq, tl_join, ey, split_tl ey hk, spl1_join]
  rfl
theorem split_free (ey : tl y = [s]) (hk : y.cps.all (· < 256) = true) {p : Str} (hp : p ∈ Txt.split x y) : s ∉ tl p := by
  have h : tl p ∈ (Txt.split x y).map tl := List.mem_map.mpr ⟨p, hp, rfl⟩
  rw [split_tl ey hk] at h
  exact spl1_free s _ _ (by simp) _ h
theorem split_sub (ey : tl y = [s]) (hk : y.cps.all (· < 256) = true) {p : Str} (hp : p ∈ Txt.split x y) : p.length ≤ x.length ∧ ∀ c ∈ tl p, c ∈ tl x := by
  have h : tl p ∈ (Txt.split x y).map tl := List.mem_map.mpr ⟨p, hp, rfl⟩
  rw [split_tl ey hk] at h
  obtain ⟨h1, h2⟩ := spl1_sub s _ _ _ h
  refine ⟨?_, fun c hc => (h2 c hc).elim (fun z => absurd z (by simp)) fun z => z⟩
  rw [len_tl p, len_tl x]
  simpa using h1
theorem split_ne (ey : tl y = [s]) (hk : y.cps.all (· < 256) = true) : Txt.split x y ≠ [] := fun e => by
  have h := split_tl (x := x) ey hk
  rw [e] at h
  exact spl1_ne s _ _ h.symm
end
theorem sp_tl : tl (" " : Str) = [32] := by decide +kernel
theorem sp_kd : (" " : Str).cps.all (· < 256) = true := by decide +kernel
theorem split2 {z a b : Str} (h : Txt.split z " " = [a, b]) : z = a ++ " " ++ b := by
  have e := split_back (x := z) sp_tl sp_kd
  rw [h, join_eq] at e
  exact e.symm
theorem split_two {a b : Str} (ha : (32 : Nat) ∉ tl a) (hb : (32 : Nat) ∉ tl b) : Txt.split (a ++ " " ++ b) " " = [a, b] := by
  have e : a ++ " " ++ b = Txt.join " " [a, b] := by rw [join_eq]; rfl
  rw [e]
  exact split_join sp_tl sp_kd (by simp) (by
    intro p hp
    rcases List.mem_cons.mp hp with rfl | hp
    · exact ha
    · rw [List.mem_singleton.mp hp]; exact hb)
/-! ### short texts of plain signs -/
def OkS (n : Nat) (z : Str) : Prop := z.length ≤ n ∧ ∀ c ∈ tl z, c < 256
theorem OkS.mono {n m : Nat} {z : Str} (h : OkS n z) (l : n ≤ m) : OkS m z := ⟨Nat.le_trans h.1 l, h.2⟩
theorem OkS.append {n m : Nat} {a b : Str} (h : OkS n a) (k : OkS m b) : OkS (n + m) (a ++ b) := ⟨by
  rw [Str.length_append]
  exact Nat.add_le_add h.1 k.1, fun c hc => by
  rw [tl_append] at hc
  rcases List.mem_append.mp hc with hc | hc
  · exact h.2 c hc
  · exact k.2 c hc⟩
theorem OkS.part {n : Nat} {x y p : Str} {s : Nat} (h : OkS n x) (ey : tl y = [s]) (hk : y.cps.all (· < 256) = true) (hp : p ∈ Txt.split x y) : OkS n p :=
  let ⟨h1, h2⟩ := split_sub ey hk hp
  ⟨Nat.le_trans h1 h.1, fun c hc => h.2 c (h2 c hc)⟩
/-- plain data that repr can show -/
structure Shw (n : Nat) (d : PyData) : Prop where
  sh : d.showable = true
  dp : d.depth ≤ 20
  ln : d.shown.length ≤ n
theorem Shw.str {n : Nat} {z : Str} (h : OkS n z) : Shw (10 * n + 2) (.str z) := ⟨rfl, Nat.zero_le _, by
  have := StrLaws.reprText_len z fun c hc => Nat.lt_trans (h.2 c hc) (by decide)
  show (reprText z).length ≤ _
  have := h.1
  omega⟩
theorem Shw.mono {n m : Nat} {d : PyData} (h : Shw n d) (l : n ≤ m) : Shw m d := ⟨h.sh, h.dp, Nat.le_trans h.ln l⟩
theorem Shw.list1 {n : Nat} {a : PyData} (ha : Shw n a) (hd : a.depth < 20) : Shw (n + 5) (.list [a]) := ⟨by
  show (a.showable && true) = true
  rw [ha.sh]
  rfl, by
  show max a.depth 0 + 1 ≤ 20
  omega, by
  have := listText_len_le [a.shown]
  have := ha.ln
  show (listText [a.shown]).length ≤ _
  simp at *
  omega⟩
theorem Shw.tup1 {n : Nat} {a : PyData} (ha : Shw n a) (hd : a.depth < 20) : Shw (n + 5) (.tuple [a]) := ⟨by
  show (a.showable && true) = true
  rw [ha.sh]
  rfl, by
  show max a.depth 0 + 1 ≤ 20
  omega, by
  have := tupleText_len_le [a.shown]
  have := ha.ln
  show (tupleText [a.shown]).length ≤ _
  simp at *
  omega⟩
theorem Shw.list2 {n m : Nat} {a b : PyData} (ha : Shw n a) (hb : Shw m b) (hd : a.depth < 20) (hd2 : b.depth < 20) : Shw (n + m + 7) (.list [a, b]) := ⟨by
  show (a.showable && (b.showable && true)) = true
  rw [ha.sh, hb.sh]
  rfl, by
  show max a.depth (max b.depth 0) + 1 ≤ 20
  omega, by
  have := listText_len_le [a.shown, b.shown]
  have := ha.ln
  have := hb.ln
  show (listText [a.shown, b.shown]).length ≤ _
  simp at *
  omega⟩
theorem Shw.tup2 {n m : Nat} {a b : PyData} (ha : Shw n a) (hb : Shw m b) (hd : a.depth < 20) (hd2 : b.depth < 20) : Shw (n + m + 7) (.tuple [a, b]) := ⟨by
  show (a.showable && (b.showable && true)) = true
  rw [ha.sh, hb.sh]
  rfl, by
  show max a.depth (max b.depth 0) + 1 ≤ 20
  omega, by
  have := tupleText_len_le [a.shown, b.shown]
  have := ha.ln
  have := hb.ln
  show (tupleText [a.shown, b.shown]).length ≤ _
  simp at *
  omega⟩

theorem joinL_nil : ∀ l : List (List Nat), joinL [] l = l.flatten
  | [] => rfl
  | [a] => by simp [joinL]
  | a :: b :: r => by
    rw [joinL_cons _ _ (by simp), joinL_nil (b :: r)]
    simp
/-- single signs put together -/
theorem join_signs {cs : List Nat} : tl (Txt.join "" (cs.map fun c => (⟨#[c]⟩ : Str))) = cs := by
  have e0 : tl ("" : Str) = [] := by decide +kernel
  rw [join_eq, tl_join, e0, joinL_nil, List.map_map]
  have : ∀ l : List Nat, (l.map (tl ∘ fun c => (⟨#[c]⟩ : Str))).flatten = l := fun l => by
    induction l with
    | nil => rfl
    | cons c r ih =>
      rw [List.map_cons, List.flatten_cons, ih]
      rfl
  exact this cs
end Ls
end
section
set_option Elab.async false
set_option linter.all false
set_option maxRecDepth 100000
set_option maxHeartbeats 4000000
namespace Ls
open PySem PySem.Spec PyProof.Rows L2
open TL
/-! ### z[::-1], z a text -/
def revS (z : Str) : Str := ⟨z.cps.toList.reverse.toArray⟩
theorem tl_revS (z : Str) : tl (revS z) = (tl z).reverse := by simp [revS, tl]
theorem len_revS (z : Str) : (revS z).length = z.length := by
  show (z.cps.toList.reverse.toArray).size = z.cps.size
  simp
def tRevS (te : TE) : TE := fun σ H Q => te σ H fun x H1 => ∃ z, x = .str z ∧ z.length ≤ sizeLine ∧ Q (.str (revS z)) H1
theorem pe_revS {X : Cx} {e : PySem.Expr} {te : TE} {k : Nat} {p1 p2 p3 pos : Pos} (he : PE X e te) : PE X (.Subscript e (.Slice none none (some (.UnaryOp .USub (.Constant (.int 1) k p1) p2)) p3) pos) (tRevS te) := by
  refine ⟨fun pins s σ H Q I h => ?_⟩
  refine Subscript_ (thn (he.run pins s σ H _ I h) fun v s1 ⟨x, H1, I1, r1, q1⟩ => ?_)
  obtain ⟨z, ex, hz, q⟩ := q1
  subst ex
  obtain ⟨t, rfl⟩ := r1
  have hst : PO X (some (.UnaryOp .USub (.Constant (.int 1) k p1) p2)) (tPart (tUn (rU fun i => .int (-i)) (tC (.int 1)))) := po_some (pe_un un_neg pe_int)
  refine wpAny_Slice (thn (po_none.run pins s1 σ H1 (fun o H2 => o = none ∧ H2 = H1) I1 ⟨rfl, rfl⟩) fun vl s2 ⟨l, H2, I2, pl, el, e2⟩ => ?_)
  subst el e2
  refine thn (po_none.run pins s2 σ H2 (fun o H3 => o = none ∧ H3 = H2) I2 ⟨rfl, rfl⟩) fun vu s3 ⟨u, H3, I3, pu, eu, e3⟩ => ?_
  subst eu e3
  refine thn (hst.run pins s3 σ H3 (fun o H4 => o = some (-1) ∧ H4 = H3) I3 ⟨1, rfl, -1, rfl, rfl, rfl⟩) fun vs s4 ⟨o, H4, I4, ps, eo, e4⟩ => ?_
  subst eo e4
  have I5 : Inv X pins σ H4 { s4 with heap := s4.heap.push { cls := .type "slice", data := .fields #[vl, vu, vs] } } := I4.kept (t' := s4.toks) fun b ob q => Heap.get?_push_of_some _ q
  show wpAny (model X.prog X.w) X.A (subscriptTail e (.Slice none none (some (.UnaryOp .USub (.Constant (.int 1) k p1) p2)) p3) (.str z t) (.ref s4.heap.objs.size)) (EP X pins σ Q) X.xe { s4 with heap := s4.heap.push { cls := .type "slice", data := .fields #[vl, vu, vs] } }
  obtain ⟨l, rfl, hl⟩ := IsPart.raw pl
  obtain ⟨u, rfl, hu⟩ := IsPart.raw pu
  obtain ⟨st, rfl, hs⟩ := IsPart.raw ps
  refine tail_any (ops := [.ref s4.heap.objs.size, .str z t]) (typeIs_str _ _ _) F.slot_str_getitem.lookup ?_ (by with_unfolding_all rfl)
  refine wpAny_getItem_str_slice (l := l) (u := u) (st := st) ⟨_, Heap.get?_push_size _ rfl, rfl, rfl⟩ (by rw [hs]; rfl) ?_
  unfold sliceMade slicePicked
  rw [hs, hl, hu]
  have e1 : Builtin.Str.strSliceIndices none none ((some (-1 : Int)).getD 1) z.length = (List.range z.cps.size).reverse := by
    show sliceRange ((z.cps.size : Int) - 1) (-1) (-1) = _
    rw [PySem.W.krv_sliceRange, PySem.W.krv_range]
  rw [e1, if_neg (by simp), List.filterMap_reverse, PySem.W.krv_all]
  refine ⟨?_, .str _, H4, I5.tok _, ⟨_, rfl⟩, q⟩
  show (revS z).length ≤ sizeLine
  rw [len_revS]
  exact hz
end Ls
end
section
set_option Elab.async false
set_option linter.all false
set_option maxRecDepth 100000
set_option maxHeartbeats 4000000
/-! A list comprehension whose element (or a test) calls what may raise: the error goes on in the def's own frame. lcX_core goes the way of HandS.Comp's lc_core, the errors kept. -/
namespace Ls
open PySem PySem.Spec PyProof.Rows L2

/-- the block's context, what a callee within may let out said by E -/
abbrev cxB (X : Cx) (E : XK) (s : Shared) (H : Hp) (scope : Scope) (cenv : Env) (fp : List Addr) : Cx :=
  { X.blk s H scope cenv fp with xe := fun u s' => ∃ (pins : List (Addr × Obj)) (σ : L2.St) (H1 : Hp) (s1 : Shared), Inv (X.blk s H scope cenv fp) pins σ H1 s1 ∧ L2.CX X.prog X.w X.stack H1 s1 E u s' }
theorem inv_of_B {X : Cx} {E : XK} {s0 : Shared} {H0 : Hp} {scope : Scope} {cenv : Env} {fp : List Addr} {pins : List (Addr × Obj)} {σ : L2.St} {H : Hp} {s : Shared} (I : Inv (cxB X E s0 H0 scope cenv fp) pins σ H s) : Inv (X.blk s0 H0 scope cenv fp) pins σ H s :=
  ⟨⟨I.ok.mod, I.ok.kind, I.ok.glob, I.ok.blt, I.ok.above, I.ok.inj, I.ok.has, I.ok.cab, I.ok.hd, I.ok.frames, I.ok.stk, I.ok.exf, I.ok.bs, I.ok.bsz, I.ok.noex, I.ok.exfs, I.ok.funs, I.ok.frf⟩, I.os, I.bare, I.base, I.loc, I.cell, I.free, I.freeC, I.pin, I.hok, I.len⟩
theorem inv_to_B {X : Cx} {E : XK} {s0 : Shared} {H0 : Hp} {scope : Scope} {cenv : Env} {fp : List Addr} {pins : List (Addr × Obj)} {σ : L2.St} {H : Hp} {s : Shared} (I : Inv (X.blk s0 H0 scope cenv fp) pins σ H s) : Inv (cxB X E s0 H0 scope cenv fp) pins σ H s :=
  ⟨⟨I.ok.mod, I.ok.kind, I.ok.glob, I.ok.blt, I.ok.above, I.ok.inj, I.ok.has, I.ok.cab, I.ok.hd, I.ok.frames, I.ok.stk, I.ok.exf, I.ok.bs, I.ok.bsz, I.ok.noex, I.ok.exfs, I.ok.funs, I.ok.frf⟩, I.os, I.bare, I.base, I.loc, I.cell, I.free, I.freeC, I.pin, I.hok, I.len⟩
theorem passB {X : Cx} {E : XK} {s0 : Shared} {H0 : Hp} {scope : Scope} {cenv : Env} {fp : List Addr} : Passes (L2.CX X.prog X.w) (cxB X E s0 H0 scope cenv fp) E := fun pins σ H s u s' I c => ⟨pins, σ, H, s, inv_of_B I, c⟩

/-- noted at the def's frame -/
theorem sky_note {M : Model} {A : Around} {E₁ : Value → Shared → Prop} {B : Heap} {s : Shared} {env : Env} {outer : List Env} {L a : Addr} {Z : Obj → Prop} {Q : Unit → Shared → Prop} (hZ : HandSPX.Steady Z) (hfr : A.frames = some (env :: outer)) (hf : env.frame = some L)
    (x : Sky B (env :: outer) a Z L s.heap) (hQ : ∀ h', HandSPX.HeldZ B (env :: outer) a Z L h' → s.heap.UpToSlots h' → Q () { s with heap := h' }) :
    wpAny M A (noteFrame (.ref a) env) Q E₁ s := by
  rcases x with ⟨hB, hn, hl, oe, vs, he, hz, hd, h1⟩ | fl | hh
  · exact HandSPX.look_newZ hZ hfr hl hf he hB hn hd h1 hz hQ
  · exact HandSPX.looks_onZ hZ hfr hf fl hQ
  · exact HandSPX.againZ hf hh.2.2.2 (hQ s.heap hh (Heap.UpToSlots.refl _))

section
variable {X : Cx} {E : XK} {pins : List (Addr × Obj)} {σ : L2.St} {H : Hp} {s s' : Shared} {cenv : Env} {u : Value} {m : Str → Option Value}
/-- an error in the def's air, met in a comprehension's block: it goes on in the def's frame -/
theorem fails_B (hs : X.stack = X.env :: X.outer) (hf : X.env.frame = some X.env.locals) (tk : Takes X (fun cls d _ H => E cls d H)) (hcf : cenv.frame = X.env.frame)
    (I : Inv X pins σ H s) (f : ∀ H' : Hp, H' cenv.locals = none → FpOk X pins H' cenv.locals) (c : L2.CX X.prog X.w X.stack H s E u s')
    (hn : s.heap.Ns cenv.locals m) (nC : H cenv.locals = none) :
    notedBy (model X.prog X.w) X.A cenv (CompFails (model X.prog X.w) X.A X.xe cenv) u s' := by
  obtain ⟨a, B, H', cls, d, rfl, fl, hok, ub, na, os, ag, hE⟩ := c
  have hx : XE X (fun cls d _ H => E cls d H) (.ref a) s' := XE.of_call (σ := σ) I (fun _ _ _ h => h) ⟨a, B, H', cls, d, rfl, fl, hok, ub, na, os, ag, hE⟩
  have hfr : X.A.frames = some (X.env :: X.outer) := by rw [I.ok.frames, hs]
  have oC := f H nC
  have nst : cenv.locals ∉ frs X.stack := fun hm => by
    rcases List.mem_cons.mp (I.stkSub _ hm) with z | z
    · exact oC.2.1 z
    · exact oC.2.2.1 z
  -- the block stands
  have hn' : s'.heap.Ns cenv.locals m := by
    obtain ⟨oL, es, ep, hoL, r⟩ := hn
    exact ⟨oL, es, ep, fl.1 _ _ (ub.keep _ _ hoL nC nst), r⟩
  have nC' : H' cenv.locals = none := by
    obtain ⟨oL, es, ep, hoL, r⟩ := hn
    exact ub.free _ _ hoL nC
  obtain ⟨G, g1, g2⟩ := restrict s'.heap fun b => ((B.get? b).isSome || decide (b ∈ frs X.stack)) && !decide (b = cenv.locals)
  have st : B.StaysIn s'.heap := fl.1
  have gB : ∀ b o, B.get? b = some o → b ≠ cenv.locals → G.get? b = some o := fun b o e hb => by
    rw [g1 b (by simp [e, hb])]
    exact st b o e
  have gF : ∀ b, b ∈ frs X.stack → G.get? b = s'.heap.get? b := fun b hb => g1 b (by
    have : b ≠ cenv.locals := fun e => nst (e ▸ hb)
    simp [hb, this])
  have og : ∀ b o, G.get? b = some o → s'.heap.get? b = some o ∧ ((B.get? b).isSome = true ∨ b ∈ frs X.stack) ∧ b ≠ cenv.locals := fun b o e => by
    cases q : (((B.get? b).isSome || decide (b ∈ frs X.stack)) && !decide (b = cenv.locals)) with
    | false => rw [g2 b q] at e; cases e
    | true =>
      rw [g1 b q] at e
      simp only [Bool.and_eq_true, Bool.or_eq_true, decide_eq_true_eq, Bool.not_eq_true', decide_eq_false_iff_not] at q
      exact ⟨e, q.1, q.2⟩
  have oC' := f H' nC'
  have J : Inv X pins σ H' { s with heap := G, gens := s'.gens, drawn := s'.drawn, toks := s'.toks } := by
    refine I.call (ch := [cenv.locals]) ⟨fun b o e n hb hc => gB b o (ub.keep b o e n hb) (by simpa using hc), fun b o e n hb hc => ?_, fun b o e n _ => ub.free b o e n, fun b o e hc => ?_, ub.tups, ub.frzs, ub.tbls⟩ ?_ ag (fun b z => ?_)
    · obtain ⟨sl, q⟩ := ub.slot b o e hb
      exact ⟨sl, by rw [gF b hb]; exact q⟩
    · by_cases hb : b ∈ frs X.stack
      · obtain ⟨sl, q⟩ := ub.slot b o e hb
        exact ⟨_, by rw [gF b hb]; exact q⟩
      · obtain ⟨o', q⟩ := ub.there b o e hb
        exact ⟨o', gB b o' q (by simpa using hc)⟩
    · exact fun b o q => (hok b o q).stay (fun c u hc r => gB c u r fun z => by
        rcases hc with hc | hc
        · rw [hc] at z
          rw [z, nC'] at q
          cases q
        · rw [z, nC'] at hc
          cases hc) (fun _ r => r) fun _ _ r => r
    · have e : b = cenv.locals := by simpa using z
      subst e
      exact ⟨oC.2.2.2.1, oC.2.1, oC.2.2.2.2.1, oC.2.2.2.2.2⟩
  have sky : Sky B X.stack a (Zc cls d) X.env.locals s'.heap := .inr (.inl fl)
  show wpAny _ _ (noteFrame (.ref a) cenv) _ _ s'
  rw [noteFrame_env _ hcf]
  rw [hs] at sky
  refine sky_note Zc.steady hfr hf sky fun h1 hh up1 => ?_
  obtain ⟨b1, b0, f1, t1⟩ := hh
  refine ⟨m, hn'.upToSlots up1, fun h2 m2 hn2 sb => ?_⟩
  -- the ground without the block
  have B' := PySem.W.hideAll B [cenv.locals]
  have bB : ∀ b o, (PySem.W.hideAll B [cenv.locals]).get? b = some o → B.get? b = some o ∧ b ≠ cenv.locals := fun b o e => ⟨PySem.W.of_hideAll _ e, fun z => by
    rw [z, PySem.W.hideAll_none _ (by simp)] at e
    cases e⟩
  have nB : ∀ b, B.get? b = none → (PySem.W.hideAll B [cenv.locals]).get? b = none := fun b e => by
    cases q : (PySem.W.hideAll B [cenv.locals]).get? b with
    | none => rfl
    | some o =>
      rw [(bB b o q).1] at e
      cases e
  have b2 : (PySem.W.hideAll B [cenv.locals]).StaysIn h2 := fun b o e => (sb.2 b (bB b o e).2).trans (b1 b o (bB b o e).1)
  have f2 : h2.FunFrames (PySem.W.hideAll B [cenv.locals]) (X.env :: X.outer) := funFrames_none (Heap.FunFrames.sameBut sb hn2 f1) fun L hL => nB L (f1.mem hL).1
  obtain ⟨oe, vs, T, oT, ts, he, hz, hd, e1, hnT, hTe, hT, hdT, h3⟩ := t1
  have ns : ∀ b o vs, h1.get? b = some o → o.data = .fields vs → b ≠ cenv.locals := fun b o vs e q z => by
    obtain ⟨oL, es, ep, hoL, hdL, r⟩ := hn'.upToSlots up1
    rw [z, hoL] at e
    cases e
    rw [hdL] at q
    cases q
  have t2 : HandSPX.TracedZ h2 (PySem.W.hideAll B [cenv.locals]) a (Zc cls d) (rawInt X.env.locals) :=
    ⟨oe, vs, T, oT, ts, (sb.2 _ (ns _ _ _ he hd)).trans he, hz, hd, e1, nB _ hnT, hTe, (sb.2 _ (ns _ _ _ hT hdT)).trans hT, hdT, h3⟩
  unfold PySem.passOn
  refine wpAny_bind (wpAny_field ((sb.2 _ (ns _ _ _ he hd)).trans he) hd e1 ?_)
  rw [if_neg (show ¬ ((Value.ref T == Value.none) = true) from by simp)]
  rw [hcf, hf]
  refine wpAny_bind (HandSPX.setFlight_onZ (l := X.env :: X.outer) ⟨b2, nB _ b0, f2, t2⟩ fun h4 hh4 up4 => wpAny_throw ?_)
  refine tk _ _ ⟨a, PySem.W.hideAll B [cenv.locals], _, pins, σ, H', cls, d, rfl, J, fun b o e hb => ?_, fun b o e hd => ?_, .inr (.inr (by rw [hs]; exact hh4)), na, os, ag, hE⟩
  · obtain ⟨e', h, hc⟩ := og b o e
    rcases h with h | h
    · obtain ⟨o', q⟩ := Option.isSome_iff_exists.mp h
      have z := st b o' q
      rw [e'] at z; cases z
      exact PySem.W.hideAll_get _ q (by simpa using hc)
    · exact absurd h hb
  · obtain ⟨e', _, hc⟩ := og b o e
    obtain ⟨sl1, q1⟩ := up1 b o e' hd
    have q2 := (sb.2 b hc).trans q1
    have q3 := up4 b { o with slots := sl1 } q2 hd
    exact q3
end

section
variable {X : Cx} {E : XK}
theorem lcX_core {pins : List (Addr × Obj)} {s : Shared} {σ : L2.St} {H : Hp} {Q : VK} {elt tg iter : PySem.Expr} {ifs : List PySem.Expr} {scope : Scope} {own : List (Str × Nat)} {pos pos' : Pos} {wi : TI} {g : TG} {tt : TT} {te : TE} {use : Option (Value → Sem Unit)} {Qf : Value → Shared → Prop}
    (hst : X.stack = X.env :: X.outer) (hfr : X.env.frame = some X.env.locals) (tk : Takes X (fun cls d _ H => E cls d H))
    (hc : X.calm = true) (hN : X.N.Nodup) (I : Inv X pins σ H s) (hi : PI X tg iter wi) (ok : BlkOk X.N X.env.scope scope own)
    (hg : ∀ (s : Shared) (H : Hp) (C : Addr) (cl : List (Str × Addr)) (fp : List Addr), PG (cxB X E s H scope (compEnvC scope cl C X.env) fp) tg g) (ht : ∀ (s : Shared) (H : Hp) (C : Addr) (cl : List (Str × Addr)) (fp : List Addr), PTs (cxB X E s H scope (compEnvC scope cl C X.env) fp) ifs tt)
    (he : ∀ (s : Shared) (H : Hp) (C : Addr) (cl : List (Str × Addr)) (fp : List Addr), PE (cxB X E s H scope (compEnvC scope cl C X.env) fp) elt te) (hs : ∀ x, foldedSetIterable iter X.env x = pure x)
    (h : tLc wi g tt te (own.map (·.2)) σ H Q)
    (hRR : ∀ D (ce : Env) s' m H', Inv X pins σ H' s' → Q (.ref D) H' → s'.heap.Ns ce.locals m → FpOk X pins H' ce.locals → compEnds (model X.prog X.w) X.A X.xe use Qf (.ref D) ce (.ok .next) s') :
    wpAny (model X.prog X.w) X.A (comprehension (.ListComp elt [⟨tg, iter, ifs, 0⟩] scope pos) scope X.env pos' (newList []) false (eval iter X.env) use) Qf X.xe s := by
  have hfree : ∀ y ∈ scope.names, y.2 = .free → ∃ c, X.env.cells.lookup y.1 = some c := fun y hy e => by
    rcases ok.free y hy e with k | k
    · exact I.ok.has _ (.inl k)
    · exact I.ok.has _ (.inr k)
  refine comprehension_at (use := use) rfl hs (closure_ok hfree) ok.kind (fun y hy e => by rw [ok.uniq y hy, e])
    (thn (hi.run pins s σ H _ I h) fun xv s1 hx => thn hx fun itv s2 h2 => ?_)
  obtain ⟨it, fp, tn, J, H2, e, I2, T, st2, f2, q⟩ := h2
  subst e
  refine wpAny_newObj_type (newEnv_comp ?_) (by show 0 ≤ sizeLine; decide)
  generalize hD : s2.heap.objs.size = D
  have hDn : H2 D = none := I2.hok.fresh (Nat.le_of_eq hD)
  obtain ⟨W, ⟨m0, w0⟩, turn⟩ := q D hDn
  generalize hs3 : ({ s2 with heap := s2.heap.push { cls := .type "list", data := .seq ([] : List Value).toArray } } : Shared) = s3
  have I3 : Inv X pins σ (upd H2 D (.lst [])) s3 := by
    rw [← hs3]
    refine I2.laid (t' := s2.toks) (fun b o e => Heap.get?_push_of_some _ e) (Nat.le_of_eq hD) ⟨Nat.zero_le _, [], 0, .nil, ?_⟩
    rw [← hD]
    exact Heap.get?_push_size _ rfl
  have h3 : s3.heap = s2.heap.push { cls := .type "list", data := .seq ([] : List Value).toArray } := by rw [← hs3]
  have sz : ∀ b ∈ fp, b < s2.heap.objs.size := fun b hb => by
    obtain ⟨o, e, _⟩ := T.obj _ _ st2 b hb
    exact Heap.lt_size e
  have f3 : ∀ b ∈ fp, FpOk X pins (upd H2 D (.lst [])) b ∧ b < s3.heap.objs.size := fun b hb => by
    have hlt := sz b hb
    refine ⟨⟨?_, (f2 b hb).2⟩, by rw [h3, Heap.size_push]; exact Nat.lt_succ_of_lt hlt⟩
    rw [upd_ne (by rw [← hD]; exact Nat.ne_of_lt hlt)]
    exact (f2 b hb).1
  have st3 : tn 0 s3.heap := T.keep _ _ _ st2 fun b _ o e => by rw [h3]; exact Heap.get?_push_of_some _ e
  have I4 := block_start I3 ok hN f3
  have pg := hg s3 (upd H2 D (.lst [])) s3.heap.objs.size (cellsFrom (s3.heap.objs.size + 1) scope.names (cloFrom X.env.cells scope.names [])) fp
  have pt := ht s3 (upd H2 D (.lst [])) s3.heap.objs.size (cellsFrom (s3.heap.objs.size + 1) scope.names (cloFrom X.env.cells scope.names [])) fp
  have pe := he s3 (upd H2 D (.lst [])) s3.heap.objs.size (cellsFrom (s3.heap.objs.size + 1) scope.names (cloFrom X.env.cells scope.names [])) fp
  show codeAny _ _ (.compStart (.ListComp elt [⟨tg, iter, ifs, 0⟩] scope pos) 0 (.ref it) (.ref D) (compEnvC scope (cellsFrom (s3.heap.objs.size + 1) scope.names (cloFrom X.env.cells scope.names [])) s3.heap.objs.size X.env)) (compEnds (model X.prog X.w) X.A X.xe use Qf (.ref D) (compEnvC scope (cellsFrom (s3.heap.objs.size + 1) scope.names (cloFrom X.env.cells scope.names [])) s3.heap.objs.size X.env)) { s3 with heap := pushCells (s3.heap.push { cls := .type "dict", data := .dict #[] }) scope.names }
  have nfp : ∀ b ∈ fp, (upd H2 D (.lst [])) b = none := fun b hb => (f3 b hb).1.1
  generalize hce : compEnvC scope (cellsFrom (s3.heap.objs.size + 1) scope.names (cloFrom X.env.cells scope.names [])) s3.heap.objs.size X.env = ce at I4 pg pt pe ⊢
  have cL : ce.locals = s3.heap.objs.size := by subst hce; rfl
  have cF : ce.frame = X.env.frame := by subst hce; rfl
  generalize hH3 : upd H2 D (.lst []) = H3 at I3 I4 pg pt pe w0 nfp f3
  generalize hs4 : ({ s3 with heap := pushCells (s3.heap.push { cls := .type "dict", data := .dict #[] }) scope.names } : Shared) = s4 at I4 ⊢
  have st4 : tn 0 s4.heap := T.keep _ _ _ st3 fun b _ o e => by rw [← hs4]; exact pushCells_keeps _ _ _ _ (Heap.get?_push_of_some _ e)
  have stat : ∀ {σ' : L2.St} {H' : Hp} {s' : Shared}, Inv (X.blk s3 H3 scope ce fp) [] σ' H' s' → (∀ b ∈ fp, H' b = none) → ∀ b ∈ fp, FpOk (X.blk s3 H3 scope ce fp) [] H' b := fun {σ' H' s'} I' hn b hb =>
    ⟨hn b hb, (I'.ok.exf b hb).1, I'.ok.exfs b hb, .inl hb, fun x c e => (I'.ok.exf b hb).2 x c e, fun p hp => absurd (show p ∈ ([] : List (Addr × Obj)) ++ [] from hp) (by simp)⟩
  -- back in the def's context
  have back : ∀ {pn' : List (Addr × Obj)} {σ' : L2.St} {H' : Hp} {s' : Shared}, Inv (X.blk s3 H3 scope ce fp) pn' σ' H' s' → Inv X pins σ H' s' := fun {pn' σ' H' s'} I6 =>
    I3.call' (ch := fp) I6.os I6.base I6.hok I6.bare fun b hb => ⟨(f3 b hb).1.2.2.2.1, (f3 b hb).1.2.1, (f3 b hb).1.2.2.2.2.1, (f3 b hb).1.2.2.2.2.2⟩
  -- an error in the block
  have err : ∀ (u : Value) (s' : Shared), (cxB X E s3 H3 scope ce fp).xe u s' → notedBy (model X.prog X.w) X.A ce (fun e s' => compEnds (model X.prog X.w) X.A X.xe use Qf (.ref D) ce (.error e) s') u s' := fun u s' x => by
    obtain ⟨pn', σ', H', s1, I', c⟩ := x
    obtain ⟨m, hn, _⟩ := I'.loc
    have hn : s1.heap.Ns ce.locals m := hn
    have z := fails_B (cenv := ce) hst hfr tk cF (back I') (fun H'' n => by rw [cL] at n ⊢; exact I3.fpOk (Nat.le_refl _) n) c hn I'.free
    unfold notedBy at z ⊢
    refine wpAny_mono z (fun _ s'' q => ?_) fun _ s'' q => ?_ <;> (cases use <;> exact q)
  have loop : codeAny (model X.prog X.w) X.A (.compLoop (.ListComp elt [⟨tg, iter, ifs, 0⟩] scope pos) 0 (.ref it) (.ref D) ce) (compEnds (model X.prog X.w) X.A X.xe use Qf (.ref D) ce) s4 := by
    refine compLoop_any (fun n s' => ∃ i H', Inv (X.blk s3 H3 scope ce fp) [] (wipe σ (own.map (·.2))) H' s' ∧ tn i s'.heap ∧ (∀ b ∈ fp, H' b = none) ∧ W i n H') ?_ m0 ⟨0, H3, I4, st4, nfp, w0⟩
    rintro n s5 ⟨i, H5, I5, st5, n5, w5⟩
    rcases turn i n H5 w5 with ⟨stop, qq⟩ | ⟨go, Nx, hNx, step⟩
    · have td := T.done (X.blk s3 H3 scope ce fp) rfl rfl rfl hc i [] s5 _ H5 (fun _ _ => False) I5 (stat I5 n5) st5 stop
      refine thnF td fun r s6 ⟨hr, I6⟩ => ?_
      subst hr
      have nC : H5 ce.locals = none := I6.free
      obtain ⟨m, hn, _⟩ := I6.loc
      have hn : s6.heap.Ns ce.locals m := hn
      exact hRR D ce s6 m H5 (back I6) qq hn (by rw [cL] at nC ⊢; exact I3.fpOk (Nat.le_refl _) nC)
    · have ti := T.item (X.blk s3 H3 scope ce fp) rfl rfl rfl hc i [] s5 _ H5 (fun _ _ => False) I5 (stat I5 n5) st5 go
      refine thnF ti fun r s6 ⟨u, hr, h6⟩ => ?_
      subst hr
      refine thnF h6 fun _ s7 ⟨x, H7, I7, r7, y7, st7, n7⟩ => ?_
      have I7' := I7.pinned (stat I7 n7) (T.obj _ _ st7)
      refine wpAny_mono (pg.run _ s7 _ H7 x u _ (inv_to_B I7') r7 (step x H7 y7)) (fun _ s8 ⟨σ8, H8, I8, hw8, q8⟩ => ?_) err
      refine wpAny_mono (pt.run _ s8 σ8 H8 _ I8 q8) (fun b s9 ⟨H9, I9, q9⟩ => ?_) err
      have fin : ∀ {s' : Shared} {H' : Hp}, Inv (X.blk s3 H3 scope ce fp) ([] ++ pinsAt fp s7.heap) σ8 H' s' → Nx H' → ∃ m, m < n ∧ ∃ i H', Inv (X.blk s3 H3 scope ce fp) [] (wipe σ (own.map (·.2))) H' s' ∧ tn i s'.heap ∧ (∀ b ∈ fp, H' b = none) ∧ W i m H' := fun {s' H'} I' nx => by
        obtain ⟨m', hm, w'⟩ := hNx H' nx
        have pin' : ∀ b ∈ fp, ∀ o, s7.heap.get? b = some o → s'.heap.get? b = some o ∧ H' b = none := fun b hb o e =>
          let z := I'.pin (b, o) (List.mem_append_right _ (List.mem_append_right _ (mem_pinsAt hb e)))
          ⟨z.1, z.2.1⟩
        have hl : (wipe σ (own.map (·.2))).length = σ8.length := by rw [← hw8, wipe_length]
        refine ⟨m', hm, i + 1, H', (I'.unpinned (pins := [])).weak hl (fun j v e => ?_), T.keep _ _ _ st7 fun b hb o e => (pin' b hb o e).1, fun b hb => ?_, w'⟩
        · rw [← hw8] at e
          exact (wipe_some e).1
        · obtain ⟨o, e, _⟩ := T.obj _ _ st7 b hb
          exact (pin' b hb o e).2
      cases b with
      | false =>
        simp only [Bool.false_eq_true, if_false] at q9 ⊢
        exact fin (inv_of_B I9) q9
      | true =>
        simp only [if_true] at q9 ⊢
        refine wpAny_mono (pe.run _ s9 σ8 H9 _ I9 q9) (fun z s10 ⟨yv, H10, I10, r10, acc, hD10, hz10, nx⟩ => ?_) err
        exact app_ok (X := X.blk s3 H3 scope ce fp) (inv_of_B I10) hD10 hz10 r10 fun s11 I11 => fin I11 nx
  exact codeAny_compStart_list loop (T.self X.A 0 _ _ _ st4 loop)

/-- [elt for ..], the element may raise what E says -/
theorem pe_lcX {elt tg iter : PySem.Expr} {ifs : List PySem.Expr} {scope : Scope} {own : List (Str × Nat)} {pos : Pos} {wi : TI} {g : TG} {tt : TT} {te : TE} (hst : X.stack = X.env :: X.outer) (hfr : X.env.frame = some X.env.locals) (tk : Takes X (fun cls d _ H => E cls d H))
    (hc : X.calm = true) (hN : X.N.Nodup) (hi : PI X tg iter wi) (ok : BlkOk X.N X.env.scope scope own)
    (hg : ∀ (s : Shared) (H : Hp) (C : Addr) (cl : List (Str × Addr)) (fp : List Addr), PG (cxB X E s H scope (compEnvC scope cl C X.env) fp) tg g) (ht : ∀ (s : Shared) (H : Hp) (C : Addr) (cl : List (Str × Addr)) (fp : List Addr), PTs (cxB X E s H scope (compEnvC scope cl C X.env) fp) ifs tt)
    (he : ∀ (s : Shared) (H : Hp) (C : Addr) (cl : List (Str × Addr)) (fp : List Addr), PE (cxB X E s H scope (compEnvC scope cl C X.env) fp) elt te) (hs : ∀ x, foldedSetIterable iter X.env x = pure x := by intro _; rfl) :
    PE X (.ListComp elt [⟨tg, iter, ifs, 0⟩] scope pos) (tLc wi g tt te (own.map (·.2))) := by
  refine ⟨fun pins s σ H Q I h => ?_⟩
  rw [eval_ListComp]
  refine lcX_core hst hfr tk hc hN I hi ok hg ht he hs h fun D ce s' m H' I' q hn f => ⟨m, hn, fun h'' sb => ?_⟩
  obtain ⟨f0, f1, f2, f3, f4, f5⟩ := f
  exact ⟨.ref D, H', I'.turned (t' := s'.toks) (fun b o hb e => (sb.2 b hb).trans e) f0 f1 f3 f4 f5, rfl, q⟩
/-- y = [elt for ..] on one line -/
theorem ps_setLcX {i : Nat} {y : Str} {py : Pos} {elt tg iter : PySem.Expr} {ifs : List PySem.Expr} {scope : Scope} {own : List (Str × Nat)} {pos spos : Pos} {wi : TI} {g : TG} {tt : TT} {te : TE} (hst : X.stack = X.env :: X.outer) (hfr : X.env.frame = some X.env.locals) (tk : Takes X (fun cls d _ H => E cls d H))
    (hc : X.calm = true) (hN : X.N.Nodup) (hy : X.N[i]? = some y) (hyl : X.env.scope.names.lookup y = some .local)
    (hsw : swapsWith (.ListComp elt [⟨tg, iter, ifs, 0⟩] scope pos) (some (.Name y py)) spos.line X.env = pure true) (hi : PI X tg iter wi) (ok : BlkOk X.N X.env.scope scope own)
    (hg : ∀ (s : Shared) (H : Hp) (C : Addr) (cl : List (Str × Addr)) (fp : List Addr), PG (cxB X E s H scope (compEnvC scope cl C X.env) fp) tg g) (ht : ∀ (s : Shared) (H : Hp) (C : Addr) (cl : List (Str × Addr)) (fp : List Addr), PTs (cxB X E s H scope (compEnvC scope cl C X.env) fp) ifs tt)
    (he : ∀ (s : Shared) (H : Hp) (C : Addr) (cl : List (Str × Addr)) (fp : List Addr), PE (cxB X E s H scope (compEnvC scope cl C X.env) fp) elt te) (hs : ∀ x, foldedSetIterable iter X.env x = pure x := by intro _; rfl) :
    PS X (.Assign [.Name y py] (.ListComp elt [⟨tg, iter, ifs, 0⟩] scope pos) spos) (tAsg (tLc wi g tt te (own.map (·.2))) (gName i)) := by
  refine ⟨fun pins s σ H D I h => ?_⟩
  rw [exec_Assign_Name_used _ _ _ _ hsw]
  refine wpAny_bind (wpAny_standAt (wpAny_bind ?_))
  show wpAny _ X.A (do let _ ← comprehension (.ListComp elt [⟨tg, iter, ifs, 0⟩] scope pos) scope X.env (firstIterPos [⟨tg, iter, ifs, 0⟩] pos) (newList []) false (eval iter X.env) (some (assign (.Name y py) X.env))) _ _ s
  have h : tLc wi g tt te (own.map (·.2)) σ H (fun x H1 => gName i x σ H1 D.nx) := h
  refine wpAny_bind (thn (lcX_core (Qf := fun _ s' => SP X pins D .next s') hst hfr tk hc hN I hi ok hg ht he hs h fun L ce s' m H' I' q hn f => ?_) fun _ s' hq => wpAny_pure (wpAny_pure hq))
  show wpAny _ _ (assign (.Name y py) X.env (.ref L)) _ _ _
  refine wpAny_assign_Name (store_ok2 (v := V.ref L) I' hN hy (.inl hyl) rfl (fun s2 I2 ⟨a, sb, ha⟩ => ?_) (.inr hyl))
  obtain ⟨f0, f1, f2, f3, f4, f5⟩ := f
  have haC : ce.locals ≠ a := by
    rcases ha with z | z
    · rw [z]; exact f1
    · exact fun e => f4 y a z e.symm
  refine ⟨m, hn.sameBut sb haC, fun h3 sb3 => ?_⟩
  exact ⟨_, H', I2.turned (t' := s2.toks) (fun b o hb e => (sb3.2 b hb).trans e) f0 f1 f3 f4 f5, q⟩
end
end Ls
end
section
set_option Elab.async false
set_option linter.all false
set_option maxRecDepth 100000
set_option maxHeartbeats 4000000
namespace K95
open PySem PySem.Spec PyProof.Rows L2 Ls
open C8 (pss_cut tCut)
def top (i : Nat) : Stmt := PySem.Challenge.pw_loopstow_k95_plan_texts_refused.main.body.getD i (.Pass ⟨0, 0, 0, 0⟩)
def bns : List Str := ["len", "int", "abs", "list", "str", "isinstance", "all", "enumerate", "range", "tuple", "super", "repr"]
def lettersS : Str := "abcdefghijklmnopqrstuvwxyz"
/-- what the top has left, for the defs -/
structure Tx (K : PySem.W.Frag) (mg : Str → Option Value) (CM CL CA CS CF CE CT mw : Addr) (tL tN : Tok) : Prop where
  bn : ∀ x ∈ bns, mg x = none
  m_LETTERS : mg "LETTERS" = some (.str lettersS tL)
  m_LONGEST_NAME : mg "LONGEST_NAME" = some (.int 6 tN)
  m_MOVE_WORDS : mg "MOVE_WORDS" = some (.ref mw)
  m_Move : mg "Move" = some (.ref CM)
  m_StowError : mg "StowError" = some (.ref CE)
  m_BadText : mg "BadText" = some (.ref CT)

/-! ### the pen -/
abbrev kC : Key := Sum.inr "cells"
abbrev kR : Key := Sum.inr "rest"
abbrev kS : Key := Sum.inr "seed"
abbrev kN : Key := Sum.inr "count"
structure PenS (kvs : List (Key × V)) (c : Addr) (r sd ct : Int) : Prop where
  len : kvs.length ≤ 4
  vc : valV kvs kC = some (.ref c)
  vr : valV kvs kR = some (.int r)
  vs : valV kvs kS = some (.int sd)
  vn : valV kvs kN = some (.int ct)
theorem PenS.putR {kvs : List (Key × V)} {c : Addr} {r sd ct : Int} (h : PenS kvs c r sd ct) (r' : Int) : PenS (putK kvs kR (.int r')) c r' sd ct :=
  ⟨by rw [len_put h.vr]; exact h.len, val_other (by decide +kernel) h.vc, val_same, val_other (by decide +kernel) h.vs, val_other (by decide +kernel) h.vn⟩
theorem PenS.putS {kvs : List (Key × V)} {c : Addr} {r sd ct : Int} (h : PenS kvs c r sd ct) (r' : Int) : PenS (putK kvs kS (.int r')) c r r' ct :=
  ⟨by rw [len_put h.vs]; exact h.len, val_other (by decide +kernel) h.vc, val_other (by decide +kernel) h.vr, val_same, val_other (by decide +kernel) h.vn⟩
theorem PenS.putN {kvs : List (Key × V)} {c : Addr} {r sd ct : Int} (h : PenS kvs c r sd ct) (r' : Int) : PenS (putK kvs kN (.int r')) c r sd r' :=
  ⟨by rw [len_put h.vn]; exact h.len, val_other (by decide +kernel) h.vc, val_other (by decide +kernel) h.vr, val_other (by decide +kernel) h.vs, val_same⟩
theorem PenS.small {kvs : List (Key × V)} {c : Addr} {r sd ct : Int} (h : PenS kvs c r sd ct) : kvs.length < sizeLine := small1000 (Nat.le_trans h.len (by decide))
/-- a pen stands at p, its cells at c -/
def PenAt (H : Hp) (p c : Addr) : Prop := ∃ (kvs : List (Key × V)) (ns : List Int) (r sd ct : Int), H p = some (.dK kvs) ∧ PenS kvs c r sd ct ∧ H c = some (.lst (ns.map V.int)) ∧ 0 ≤ r
theorem dg {H : Hp} {p : Addr} {kvs : List (Key × V)} {k : Key} {v : V} (hp : H p = some (.dK kvs)) (hv : valV kvs k = some v) : DGet H p (kV k) (some v) := hv ▸ DGet.k hp
def spDraw : Sp := fun vs H Q _ => ∃ (p c : Addr) (many : Int), vs = [.ref p, .int many] ∧ PenAt H p c ∧ 0 < many ∧ many < 1073741824 ∧
  ∀ (j : Int) (H' : Hp), 0 ≤ j → j < many → PenAt H' p c → Keep p c H H' → Q (.int j) H'
section
variable {P : Program} {w : World} {K : PySem.W.Frag} {mg : Str → Option Value} {base : Heap} {CM CL CA CS CF CE CT mw : Addr} {tL tN : Tok}
abbrev s__law_draw : Stmt := top 28
abbrev N__law_draw : List Str := ["_law_pen_here", "_law_many", "_law_cell", "_law_digit"]
theorem sc__law_draw : FnScope N__law_draw ["_law_pen_here", "_law_many"] (defScope s__law_draw) := ⟨rfl, rfl, rfl, by decide +kernel, rfl, by decide +kernel, by decide +kernel⟩
theorem ok_draw {f : Addr} {fd : FuncData} (F : Fun K "_law_draw" "_law_draw" s__law_draw f fd) (T : Tx K mg CM CL CA CS CF CE CT mw tL tN) : FnOk P w K mg base CX0 1 f fd ["_law_pen_here", "_law_many"] spDraw := by
  refine F.ok sc__law_draw (fun vs H Q E h => ?_) (fun cdv A outer s H vs Q E hr h => ?_)
  · obtain ⟨p, c, many, rfl, _⟩ := h
    rfl
  · obtain ⟨p, c, many, rfl, hpen, m0, m1, k⟩ := h
    have hu := hu_of hr
    refine ⟨_, (pss_cut (ps_if ((pw_and (pt_cmpR op_eq (pe_dget hu (pv 0) pe_str (fun _ _ => rfl)) pe_int (nomark _)) (pw_and1 (pt_cmpR (op_neNil hr) (pe_dget hu (pv 0) pe_str (fun _ _ => rfl)) (pe_lst pa_nil) (nomark _))))).pt (pss_cons (ps_set (i := 2) sc__law_draw.nd rfl (by first | exact Or.inl rfl | exact Or.inr rfl) (pe_callB call_abs (by rfl) (T.bn _ (by decide +kernel)) (by decide +kernel) (pa_cons (pe_callTy call_int1 (by rfl) (T.bn _ (by decide +kernel)) (by decide +kernel) (pa_cons (pe_bm PySem.F.plainAttrs_list PySem.F.slot_list_pop PySem.F.type_list_pop mt_popAt (pe_dget hu (pv 0) pe_str (fun _ _ => rfl)) (pa_cons pe_int pa_nil)) pa_nil)) pa_nil)))
      (pss_cons (ps_dput hu (pv 0) pe_str (pv 2) rfl)
      (pss_one (ps_dput hu (pv 0) pe_str (pe_op op_mod (pe_callTy call_int1 (by rfl) (T.bn _ (by decide +kernel)) (by decide +kernel) (pa_cons (pe_op op_add (pe_op op_mul (pe_callTy call_int1 (by rfl) (T.bn _ (by decide +kernel)) (by decide +kernel) (pa_cons (pe_dget hu (pv 0) pe_str (fun _ _ => rfl)) pa_nil)) pe_int) (pv 2)) pa_nil)) pe_int) rfl)))) pss_nil)
      (pss_cons (ps_if (pt_cmpR op_gt (pe_dget hu (pv 0) pe_str (fun _ _ => rfl)) pe_int (nomark _)) (pss_cons (ps_set (i := 3) sc__law_draw.nd rfl (by first | exact Or.inl rfl | exact Or.inr rfl) (pe_op op_mod (pe_callTy call_int1 (by rfl) (T.bn _ (by decide +kernel)) (by decide +kernel) (pa_cons (pe_dget hu (pv 0) pe_str (fun _ _ => rfl)) pa_nil)) (pv 1)))
      (pss_cons (ps_dput hu (pv 0) pe_str (pe_op op_fdiv (pe_callTy call_int1 (by rfl) (T.bn _ (by decide +kernel)) (by decide +kernel) (pa_cons (pe_dget hu (pv 0) pe_str (fun _ _ => rfl)) pa_nil)) (pv 1)) rfl)
      (pss_one (ps_ret (pv 3))))) pss_nil)
      (pss_cons (ps_dput hu (pv 0) pe_str (pe_op op_add (pe_callTy call_int1 (by rfl) (T.bn _ (by decide +kernel)) (by decide +kernel) (pa_cons (pe_dget hu (pv 0) pe_str (fun _ _ => rfl)) pa_nil)) pe_int) rfl)
      (pss_cons (ps_dput hu (pv 0) pe_str (pe_op op_mod (pe_callTy call_int1 (by rfl) (T.bn _ (by decide +kernel)) (by decide +kernel) (pa_cons (pe_op op_add (pe_op op_mul (pe_callTy call_int1 (by rfl) (T.bn _ (by decide +kernel)) (by decide +kernel) (pa_cons (pe_dget hu (pv 0) pe_str (fun _ _ => rfl)) pa_nil)) pe_int) (pe_op op_mul pe_int (pe_callTy call_int1 (by rfl) (T.bn _ (by decide +kernel)) (by decide +kernel) (pa_cons (pe_dget hu (pv 0) pe_str (fun _ _ => rfl)) pa_nil)))) pa_nil)) pe_int) rfl)
      (pss_one (ps_ret (pe_op op_mod (pe_callTy call_int1 (by rfl) (T.bn _ (by decide +kernel)) (by decide +kernel) (pa_cons (pe_op op_fdiv (pe_callTy call_int1 (by rfl) (T.bn _ (by decide +kernel)) (by decide +kernel) (pa_cons (pe_dget hu (pv 0) pe_str (fun _ _ => rfl)) pa_nil)) pe_int) pa_nil)) (pv 1)))))))), ?_⟩
    obtain ⟨kvs, ns, r, sd, ct, hp, S, hc, hr0⟩ := hpen
    have npc : p ≠ c := ne_of hp hc (by intro z; cases z)
    -- behind the first if: the pen again, with the same cells' place
    refine ⟨fun σ' H' => ∃ x, σ' = [some (.ref p), some (.int many), x, none] ∧ PenAt H' p c ∧ Keep p c H H', ?_, ?_⟩
    · refine ⟨_, rfl, p, _, rfl, dg (k := kR) hp S.vr, rfl, _, rfl, ?_⟩
      refine ite2 (fun _ => ?_) (fun _ => ?_)
      · refine ⟨_, rfl, p, _, rfl, dg (k := kC) hp S.vc, (by show 0 ≤ sizeLine; decide), fun l hl => ?_⟩
        have npl : p ≠ l := ne_of_none hp hl
        have ncl : c ≠ l := ne_of_none hc hl
        refine ⟨c, l, _, rfl, rfl, by rw [upd_ne ncl]; exact hc, upd_same, _, rfl, ?_⟩
        have hp1 : (upd H l (.lst [])) p = some (.dK kvs) := by rw [upd_ne npl]; exact hp
        have hc1 : (upd H l (.lst [])) c = some (.lst (ns.map V.int)) := by rw [upd_ne ncl]; exact hc
        cases ns with
        | nil =>
          refine iteF ?_
          exact ⟨_, rfl, ⟨kvs, [], r, sd, ct, hp1, S, hc1, hr0⟩, Keep.new hl⟩
        | cons n ns =>
          refine iteT ?_
          refine ⟨_, rfl, p, _, rfl, dg (k := kC) hp1 S.vc, .inl ⟨rfl, _, SqL.of hc1⟩, c, _, 0, 0, .int n, rfl, rfl, hc1, by decide, by decide, by simp [seqIndex?], rfl, ?_⟩
          refine .inl ⟨n, rfl, n, rfl, ?_⟩
          have hp2 : (upd (upd H l (.lst [])) c (.lst (ns.map V.int))) p = some (.dK kvs) := by rw [upd_ne npc]; exact hp1
          have hn : 0 ≤ (if n < 0 then -n else n) := by split <;> omega
          refine ⟨_, rfl, _, rfl, p, _, rfl, DPut.k (k := kR) hp2 S.small, ?_⟩
          have S3 := S.putR (if n < 0 then -n else n)
          refine ⟨_, rfl, p, _, rfl, dg (k := kS) upd_same S3.vs, .inl ⟨_, rfl, _, _, rfl, rfl, .inr ⟨by decide, by decide⟩, _, rfl, _, _, rfl, rfl, .inl ⟨_, rfl, _, _, rfl, rfl, (by show (0 : Int) < 2147483587; decide), ?_⟩⟩⟩
          refine ⟨_, rfl, p, _, rfl, DPut.k (k := kS) upd_same S3.small, ?_⟩
          refine ⟨_, rfl, ⟨_, ns, _, _, ct, upd_same, S3.putS _, ?_, hn⟩, ?_⟩
          · rw [upd_ne npc.symm, upd_ne npc.symm, upd_same]; rfl
          · intro b o e h1 h2
            rw [upd_ne h1, upd_ne h1, upd_ne h2, upd_ne (ne_of_none e hl)]
            exact e
      · exact ⟨_, rfl, ⟨kvs, ns, r, sd, ct, hp, S, hc, hr0⟩, Keep.refl⟩
    · rintro σ' H1 ⟨x, rfl, ⟨kvs, ns, r, sd, ct, hp, S, hc, hr0⟩, kp⟩
      refine ⟨_, rfl, p, _, rfl, dg (k := kR) hp S.vr, _, _, rfl, rfl, _, rfl, ?_⟩
      refine ite2 (fun hpos => ?_) (fun _ => ?_)
      · have hpos' : 0 < r := by simpa using hpos
        refine ⟨_, rfl, p, _, rfl, dg (k := kR) hp S.vr, .inl ⟨_, rfl, _, rfl, _, _, rfl, rfl, m0, ?_⟩⟩
        refine ⟨_, rfl, p, _, rfl, dg (k := kR) hp S.vr, .inl ⟨_, rfl, _, rfl, _, _, rfl, rfl, ⟨m0, m1⟩, ?_⟩⟩
        refine ⟨_, rfl, p, _, rfl, DPut.k (k := kR) hp S.small, ?_⟩
        refine ⟨_, rfl, k _ _ (Int.emod_nonneg _ (by omega)) (Int.emod_lt_of_pos _ m0) ⟨_, ns, _, sd, ct, upd_same, S.putR _, by rw [upd_ne npc.symm]; exact hc, Int.ediv_nonneg (by omega) (by omega)⟩ (kp.trans Keep.upd1)⟩
      · refine ⟨_, rfl, p, _, rfl, dg (k := kN) hp S.vn, .inl ⟨_, rfl, _, _, rfl, rfl, ?_⟩⟩
        refine ⟨_, rfl, p, _, rfl, DPut.k (k := kN) hp S.small, ?_⟩
        have S1 := S.putN (ct + 1)
        refine ⟨_, rfl, p, _, rfl, dg (k := kS) upd_same S1.vs, .inl ⟨_, rfl, _, _, rfl, rfl, .inr ⟨by decide, by decide⟩, ?_⟩⟩
        refine ⟨_, rfl, p, _, rfl, dg (k := kN) upd_same S1.vn, .inl ⟨_, rfl, _, _, rfl, rfl, .inl ⟨by decide, by decide⟩, _, _, rfl, rfl, .inl ⟨_, rfl, _, _, rfl, rfl, (by show (0 : Int) < 2147483587; decide), ?_⟩⟩⟩
        refine ⟨_, rfl, p, _, rfl, DPut.k (k := kS) upd_same S1.small, ?_⟩
        refine ⟨_, rfl, p, _, rfl, dg (k := kS) upd_same (S1.putS _).vs, .inl ⟨_, rfl, _, _, rfl, rfl, ⟨by decide, by decide⟩, .inl ⟨_, rfl, _, rfl, _, _, rfl, rfl, m0, ?_⟩⟩⟩
        refine k _ _ (Int.emod_nonneg _ (by omega)) (Int.emod_lt_of_pos _ m0) ⟨_, ns, r, _, _, upd_same, S1.putS _, ?_, hr0⟩ (kp.trans (Keep.upd1.trans Keep.upd1))
        rw [upd_ne npc.symm, upd_ne npc.symm]
        exact hc
end
end K95
end
section
set_option Elab.async false
set_option autoImplicit false
set_option linter.all false
set_option maxRecDepth 100000
set_option maxHeartbeats 4000000
namespace K95
open PySem PySem.Spec PyProof.Rows L2 Ls
open C8 (pss_cut tCut)
open TL

/-! ### the data -/
def W4 : List Str := ["load", "again", "store", "forget"]
def isName (z : Str) : Bool := decide (1 ≤ z.length) && (decide (z.length ≤ 6) && (tl z).all fun c => decide (c ∈ tl lettersS))
def textM (m : Str × Str) : Str := m.1 ++ " " ++ m.2
def Good (m : Str × Str) : Prop := m.1 ∈ W4 ∧ isName m.2 = true
theorem name_len {z : Str} (h : isName z = true) : 1 ≤ z.length ∧ z.length ≤ 6 := by
  unfold isName at h
  simp only [Bool.and_eq_true, decide_eq_true_eq] at h
  exact ⟨h.1, h.2.1⟩
theorem name_sub {z : Str} (h : isName z = true) : ∀ c ∈ tl z, c ∈ tl lettersS := by
  unfold isName at h
  simp only [Bool.and_eq_true, decide_eq_true_eq, List.all_eq_true] at h
  exact h.2.2
theorem name_no {z : Str} (h : isName z = true) {c : Nat} (hc : c ∉ tl lettersS) : c ∉ tl z := fun hm => hc (name_sub h c hm)
theorem w4_cases {w : Str} (h : w ∈ W4) : w = "load" ∨ w = "again" ∨ w = "store" ∨ w = "forget" := by simpa [W4] using h
theorem w4_name {w : Str} (h : w ∈ W4) : isName w = true := by
  rcases w4_cases h with rfl | rfl | rfl | rfl <;> decide +kernel
/-- the fields of a move -/
def flds (w n : Str) : List (Str × V) := putF "name" (.str n) (putF "word" (.str w) [])
theorem nwn : ¬ (("word" : Str) = "name") := by decide +kernel
theorem flds_word (w n : Str) : (flds w n).lookup ("word" : Str) = some (.str w) := by
  unfold flds
  rw [lookup_putF, if_neg nwn, lookup_putF, if_pos rfl]
theorem flds_name (w n : Str) : (flds w n).lookup ("name" : Str) = some (.str n) := by
  unfold flds
  rw [lookup_putF, if_pos rfl]
def clsOf (CL CA CS CF : Addr) (w : Str) : Addr := if w = "load" then CL else if w = "again" then CA else if w = "store" then CS else CF
/-- a move stands at a -/
def MoveAt (cl : Str → Addr) (H : Hp) (a : Addr) (m : Str × Str) : Prop := ∃ dx, H a = some (.ins (cl m.1) dx (flds m.1 m.2))
theorem MoveAt.mono {cl : Str → Addr} {H H' : Hp} {a : Addr} {m : Str × Str} (e : Ext H H') (h : MoveAt cl H a m) : MoveAt cl H' a m := let ⟨dx, q⟩ := h; ⟨dx, e _ _ q⟩
/-- what the top says of a class of moves -/
structure ClT (K : PySem.W.Frag) (CM C fs fe : Addr) : Prop where
  cl : Cls K C
  nW : NoAttr K C "word"
  nN : NoAttr K C "name"
  ha : PySem.W.findIn K (.ref C) "__class__" = some (some (.builtin "object.__class__"))
  hn : PySem.W.specialIn K (.builtin "object.__class__") "__get__" = some (some (.builtin "getset_descriptor.__get__"))
  htk : PySem.W.takesIn K (.builtin "object.__class__") = some true
  hm : PySem.W.mroIn K C (.type "object") = some true
  kit : PySem.W.kitOne K (.ref C) (.ref CM) = some true
  st : PySem.W.findIn K (.ref C) "__str__" = some (some (.ref fs))
  eq : PySem.W.findIn K (.ref C) "__eq__" = some (some (.ref fe))

section
variable {P : Program} {w : World} {K : PySem.W.Frag} {mg : Str → Option Value} {base : Heap} {CM CL CA CS CF CE CT mw : Addr} {tL tN : Tok}
/-! ### is_name -/
def spName : Sp := fun vs H Q _ => ∃ z : Str, vs = [.str z] ∧ z.length ≤ 100000 ∧ ∀ H', Ext H H' → Q (.bl (isName z)) H'
abbrev s_is_name : Stmt := top 8
abbrev N_is_name : List Str := ["value", "letter"]
theorem sc_is_name : FnScope N_is_name ["value"] (defScope s_is_name) := ⟨rfl, rfl, rfl, by decide +kernel, rfl, by decide +kernel, by decide +kernel⟩
theorem ok_name {f : Addr} {fd : FuncData} (F : Fun K "is_name" "is_name" s_is_name f fd) (T : Tx K mg CM CL CA CS CF CE CT mw tL tN) : FnOk P w K mg base CX0 1 f fd ["value"] spName := by
  refine F.ok sc_is_name (fun vs H Q E h => ?_) (fun cdv A outer s H vs Q E hr h => ?_)
  · obtain ⟨z, rfl, _⟩ := h
    rfl
  · obtain ⟨z, rfl, hz, k⟩ := h
    refine ⟨_, (pss_cons (ps_if ((pw_or (pt_not (pt_val (pe_callB call_isi (by rfl) (T.bn _ (by decide +kernel)) (by decide +kernel) (pa_cons (pv 0) (pa_cons (pe_gty (T := "str") (by rfl) (T.bn _ (by decide +kernel)) (by decide +kernel)) pa_nil))))) (pw_or1 (pt_not (pt_chain op_le op_le pe_int (pe_callB call_len_str (by rfl) (T.bn _ (by decide +kernel)) (by decide +kernel) (pa_cons (pv 0) pa_nil)) (pe_gint (by rfl) T.m_LONGEST_NAME)))))).pt (pss_one (ps_ret pe_bl)) pss_nil)
      (pss_one (ps_ret (pe_callB (cr_all rfl) (by rfl) (T.bn _ (by decide +kernel)) (by decide +kernel) (pa_cons (pe_lc (own := [("letter", 1)]) rfl sc_is_name.nd (pi_str (pv 0)) (blkOk_by (own := [("letter", 1)]) (N := N_is_name) (sc := defScope s_is_name) (by decide +kernel)) (fun _ _ _ _ _ => (pg_name (i := 1) sc_is_name.nd rfl (by first | exact Or.inl rfl | exact Or.inr rfl))) (fun _ _ _ _ _ => pts_nil) (fun _ _ _ _ _ => (pe_cmpR op_in_sign (pv 1) (pe_gstr (by rfl) T.m_LETTERS) rfl))) pa_nil))))), ?_⟩
    have hzl : z.length ≤ sizeLine := Nat.le_trans hz (by decide)
    refine ⟨_, rfl, _, _, _, _, true, rfl, .ty "str", .base (.str z), kit_ty (by decide +kernel), _, rfl, ?_⟩
    refine iteF ?_
    refine ⟨_, rfl, z, rfl, hzl, _, _, rfl, rfl, ?_⟩
    by_cases h1 : 1 ≤ z.length
    · refine ⟨true, by simp; omega, ?_⟩
      refine iteT ?_
      refine ⟨_, _, rfl, rfl, ?_⟩
      by_cases h6 : z.length ≤ 6
      · refine ⟨true, by simp; omega, ?_⟩
        refine iteF ?_
        -- the signs
        refine ⟨_, rfl, z, rfl, fun D hD => ?_⟩
        refine lc_map walk_str [D] (by simp) (fun _ => True) (fun i y _ => ∃ c, z.cps[i]? = some c ∧ y = .bl (decide (c ∈ tl lettersS))) (by have : z.length = z.cps.size := rfl; omega) (fun _ _ _ _ _ h => h) (fun _ _ _ => trivial) trivial (fun _ _ _ => trivial) ?_ ?_
        · rintro i x H1 H2 acc C hi e _ hD1 ⟨rfl, c, hc, rfl⟩ hC
          refine ⟨rfl, _, rfl, c, _, rfl, rfl, hC _ _ hD1 Ext.rfl' trivial ⟨c, hc, rfl⟩⟩
        · intro H1 ys e _ hD1 hl hy
          have hys : ys = ((tl z).map fun c => decide (c ∈ tl lettersS)).map V.bl := by
            refine List.ext_getElem? fun j => ?_
            cases q : ys[j]? with
            | none =>
              have : ys.length ≤ j := List.getElem?_eq_none_iff.mp q
              symm
              rw [List.getElem?_eq_none_iff]
              simp
              have : z.cps.size ≤ j := by omega
              exact this
            | some y =>
              obtain ⟨c, hc, rfl⟩ := hy j y q
              have hc' : (tl z)[j]? = some c := by rw [← hc]; simp [tl]
              simp [List.getElem?_map, hc']
          subst hys
          refine ⟨D, _, rfl, SqL.of hD1, ?_⟩
          have e1 : isName z = (((tl z).map fun c => decide (c ∈ tl lettersS)).all id) := by
            unfold isName
            rw [decide_eq_true h1, decide_eq_true h6, Bool.true_and, Bool.true_and, List.all_map]
            rfl
          rw [← e1]
          refine k _ fun b o q => ?_
          have := e b o (by rw [hid_at (by simpa using ne_of_none q hD)]; exact q)
          exact (hid_some this).2
      · refine ⟨false, by simp; omega, ?_⟩
        refine iteT ?_
        have e1 : isName z = false := by unfold isName; rw [decide_eq_false h6, Bool.false_and, Bool.and_false]
        have := k H Ext.rfl'
        rw [e1] at this
        exact this
    · refine ⟨false, by simp; omega, ?_⟩
      refine iteF ?_
      refine ⟨false, rfl, ?_⟩
      refine iteT ?_
      have e1 : isName z = false := by unfold isName; rw [decide_eq_false h1, Bool.false_and]
      have := k H Ext.rfl'
      rw [e1] at this
      exact this
end
end K95
end
section
set_option Elab.async false
set_option autoImplicit false
set_option linter.all false
set_option maxRecDepth 100000
set_option maxHeartbeats 4000000
namespace K95
open PySem PySem.Spec PyProof.Rows L2 Ls
open C8 (pss_cut tCut)
open TL
section
variable {P : Program} {w : World} {K : PySem.W.Frag} {mg : Str → Option Value} {base : Heap} {CM CL CA CS CF CE CT mw : Addr} {tL tN : Tok}
/-! ### Move.__init__ -/
def spMI (K : PySem.W.Frag) : Sp := fun vs H Q _ => ∃ (x C dx : Addr) (wd n : Str), vs = [.ref x, .str wd, .str n] ∧ H x = some (.ins C dx []) ∧ Cls K C ∧ NoAttr K C "word" ∧ NoAttr K C "name" ∧ isName n = true ∧
  ∀ H', H' x = some (.ins C dx (flds wd n)) → (∀ b o, H b = some o → b ≠ x → H' b = some o) → Q .non H'
abbrev s_Move_init : Stmt := inClass (top 10) 0
abbrev N_Move_init : List Str := ["self", "word", "name"]
theorem sc_Move_init : FnScope N_Move_init ["self", "word", "name"] (defScope s_Move_init) := ⟨rfl, rfl, rfl, by decide +kernel, rfl, by decide +kernel, by decide +kernel⟩
theorem ok_MI {f : Addr} {fd : FuncData} (F : Fun K "__init__" "Move.__init__" s_Move_init f fd) (T : Tx K mg CM CL CA CS CF CE CT mw tL tN) (c_is_name : Cal P w K mg base CX0 1 "is_name" spName) : FnOk P w K mg base CX0 2 f fd ["self", "word", "name"] (spMI K) := by
  refine F.ok sc_Move_init (fun vs H Q E h => ?_) (fun cdv A outer s H vs Q E hr h => ?_)
  · obtain ⟨x, C, dx, wd, n, rfl, _⟩ := h
    rfl
  · obtain ⟨x, C, dx, wd, n, rfl, hx, cl, nW, nN, hn, k⟩ := h
    refine ⟨_, (pss_cons (ps_if (pt_not (pt_val (pe_cal c_is_name (hr.mono (by decide)) (by rfl) pass0 (pa_cons (pv 2) pa_nil)))) (pss_one ps_never) pss_nil)
      (pss_cons (ps_fld (pv 0) (pv 1) rfl)
      (pss_one (ps_fld (pv 0) (pv 2) rfl)))), ?_⟩
    refine ⟨_, rfl, n, rfl, Nat.le_trans (name_len hn).2 (by decide), fun H1 e1 => ⟨_, rfl, ?_⟩⟩
    rw [hn]
    refine iteF ?_
    have hx1 := e1 _ _ hx
    refine ⟨_, rfl, _, rfl, x, C, dx, _, rfl, hx1, cl, nW, (by show 0 < 1000; decide), ?_⟩
    refine ⟨_, rfl, _, rfl, x, C, dx, _, rfl, upd_same, cl, nN, (by show 1 < 1000; decide), ?_⟩
    refine k _ upd_same fun b o q hb => ?_
    rw [upd_ne hb, upd_ne hb]
    exact e1 b o q
/-! ### Load, Again, Store, Forget: __init__ -/
/-- the word of the class is written; the rest is Move's -/
def spCI (K : PySem.W.Frag) (wd : Str) (C : Addr) : Sp := fun vs H Q _ => ∃ (x dx : Addr) (n : Str), vs = [.ref x, .str n] ∧ H x = some (.ins C dx []) ∧ isName n = true ∧
  ∀ H', H' x = some (.ins C dx (flds wd n)) → (∀ b o, H b = some o → b ≠ x → H' b = some o) → Q .non H'
structure FunS (K : PySem.W.Frag) (x qual : Str) (st : Stmt) (f : Addr) (fd : FuncData) (cda cc : Addr) : Prop where
  ex : ∃ (oc : Value) (od : Option Addr) (kV doc pm : Value) (an : Option Addr) (ct : Value) (osl : Array (Option Value)),
    fd = PySem.W.ksFn x qual (defArgs st) (defBody st) (defScope st) .none kV doc pm an (.ref cda) ct cc ∧ K.lookup f = some ⟨oc, od, .func fd, osl⟩ ∧ PySem.W.codeIn K (.ref cda) qual = true
  kp : PySem.W.keepIn K (.ref f) = true
abbrev s_Load_init : Stmt := inClass (top 12) 0
abbrev s_Again_init : Stmt := inClass (top 13) 0
abbrev s_Store_init : Stmt := inClass (top 14) 0
abbrev s_Forget_init : Stmt := inClass (top 15) 0
abbrev N_CI : List Str := ["self", "name"]
theorem sc_Load_init : ScS N_CI ["self", "name"] (defScope s_Load_init) := ⟨rfl, rfl, rfl, by decide +kernel, rfl, by decide +kernel, by decide +kernel, by decide +kernel⟩
theorem ok_Load_init {f fMI cda cc C : Addr} {fd : FuncData} (F : FunS K "__init__" "Load.__init__" s_Load_init f fd cda cc) (cl : Cls K C) (nW : NoAttr K C "word") (nN : NoAttr K C "name") (S : SupT P K mg C C cc cda "__init__" fMI) (M : FnR P w K mg base CX0 2 fMI (spMI K)) :
    FnOk P w K mg base CX0 3 f fd ["self", "name"] (spCI K "load" C) := by
  obtain ⟨oc, od, kV, doc, pm, an, ct, osl, rfl, lk, hcd⟩ := F.ex
  refine fn_super (N := N_CI) lk hcd sc_Load_init rfl rfl rfl rfl rfl rfl (by decide) (fun vs H Q E h => ?_) (fun A outer s H vs Q E hr h => ?_) (fun _ => rfl) (fun _ => rfl) (fun _ => rfl) (fun _ => rfl) (fun _ => rfl)
  · obtain ⟨x, dx, n, rfl, _⟩ := h
    rfl
  · obtain ⟨x, dx, n, rfl, hx, hn, k⟩ := h
    refine ⟨x, C, C, dx, fMI, [], [.str n], _, _, spMI K, CX0, E0, rfl, hx, S, pa_cons pe_str (pa_cons (pv 1) pa_nil), M, pass0, pss_nil, ?_⟩
    exact ⟨_, rfl, x, C, dx, "load", n, rfl, hx, cl, nW, nN, hn, fun H' h1 h2 => k H' h1 h2⟩
theorem sc_Again_init : ScS N_CI ["self", "name"] (defScope s_Again_init) := ⟨rfl, rfl, rfl, by decide +kernel, rfl, by decide +kernel, by decide +kernel, by decide +kernel⟩
theorem ok_Again_init {f fMI cda cc C : Addr} {fd : FuncData} (F : FunS K "__init__" "Again.__init__" s_Again_init f fd cda cc) (cl : Cls K C) (nW : NoAttr K C "word") (nN : NoAttr K C "name") (S : SupT P K mg C C cc cda "__init__" fMI) (M : FnR P w K mg base CX0 2 fMI (spMI K)) :
    FnOk P w K mg base CX0 3 f fd ["self", "name"] (spCI K "again" C) := by
  obtain ⟨oc, od, kV, doc, pm, an, ct, osl, rfl, lk, hcd⟩ := F.ex
  refine fn_super (N := N_CI) lk hcd sc_Again_init rfl rfl rfl rfl rfl rfl (by decide) (fun vs H Q E h => ?_) (fun A outer s H vs Q E hr h => ?_) (fun _ => rfl) (fun _ => rfl) (fun _ => rfl) (fun _ => rfl) (fun _ => rfl)
  · obtain ⟨x, dx, n, rfl, _⟩ := h
    rfl
  · obtain ⟨x, dx, n, rfl, hx, hn, k⟩ := h
    refine ⟨x, C, C, dx, fMI, [], [.str n], _, _, spMI K, CX0, E0, rfl, hx, S, pa_cons pe_str (pa_cons (pv 1) pa_nil), M, pass0, pss_nil, ?_⟩
    exact ⟨_, rfl, x, C, dx, "again", n, rfl, hx, cl, nW, nN, hn, fun H' h1 h2 => k H' h1 h2⟩
theorem sc_Store_init : ScS N_CI ["self", "name"] (defScope s_Store_init) := ⟨rfl, rfl, rfl, by decide +kernel, rfl, by decide +kernel, by decide +kernel, by decide +kernel⟩
theorem ok_Store_init {f fMI cda cc C : Addr} {fd : FuncData} (F : FunS K "__init__" "Store.__init__" s_Store_init f fd cda cc) (cl : Cls K C) (nW : NoAttr K C "word") (nN : NoAttr K C "name") (S : SupT P K mg C C cc cda "__init__" fMI) (M : FnR P w K mg base CX0 2 fMI (spMI K)) :
    FnOk P w K mg base CX0 3 f fd ["self", "name"] (spCI K "store" C) := by
  obtain ⟨oc, od, kV, doc, pm, an, ct, osl, rfl, lk, hcd⟩ := F.ex
  refine fn_super (N := N_CI) lk hcd sc_Store_init rfl rfl rfl rfl rfl rfl (by decide) (fun vs H Q E h => ?_) (fun A outer s H vs Q E hr h => ?_) (fun _ => rfl) (fun _ => rfl) (fun _ => rfl) (fun _ => rfl) (fun _ => rfl)
  · obtain ⟨x, dx, n, rfl, _⟩ := h
    rfl
  · obtain ⟨x, dx, n, rfl, hx, hn, k⟩ := h
    refine ⟨x, C, C, dx, fMI, [], [.str n], _, _, spMI K, CX0, E0, rfl, hx, S, pa_cons pe_str (pa_cons (pv 1) pa_nil), M, pass0, pss_nil, ?_⟩
    exact ⟨_, rfl, x, C, dx, "store", n, rfl, hx, cl, nW, nN, hn, fun H' h1 h2 => k H' h1 h2⟩
theorem sc_Forget_init : ScS N_CI ["self", "name"] (defScope s_Forget_init) := ⟨rfl, rfl, rfl, by decide +kernel, rfl, by decide +kernel, by decide +kernel, by decide +kernel⟩
theorem ok_Forget_init {f fMI cda cc C : Addr} {fd : FuncData} (F : FunS K "__init__" "Forget.__init__" s_Forget_init f fd cda cc) (cl : Cls K C) (nW : NoAttr K C "word") (nN : NoAttr K C "name") (S : SupT P K mg C C cc cda "__init__" fMI) (M : FnR P w K mg base CX0 2 fMI (spMI K)) :
    FnOk P w K mg base CX0 3 f fd ["self", "name"] (spCI K "forget" C) := by
  obtain ⟨oc, od, kV, doc, pm, an, ct, osl, rfl, lk, hcd⟩ := F.ex
  refine fn_super (N := N_CI) lk hcd sc_Forget_init rfl rfl rfl rfl rfl rfl (by decide) (fun vs H Q E h => ?_) (fun A outer s H vs Q E hr h => ?_) (fun _ => rfl) (fun _ => rfl) (fun _ => rfl) (fun _ => rfl) (fun _ => rfl)
  · obtain ⟨x, dx, n, rfl, _⟩ := h
    rfl
  · obtain ⟨x, dx, n, rfl, hx, hn, k⟩ := h
    refine ⟨x, C, C, dx, fMI, [], [.str n], _, _, spMI K, CX0, E0, rfl, hx, S, pa_cons pe_str (pa_cons (pv 1) pa_nil), M, pass0, pss_nil, ?_⟩
    exact ⟨_, rfl, x, C, dx, "forget", n, rfl, hx, cl, nW, nN, hn, fun H' h1 h2 => k H' h1 h2⟩

/-! ### move_of -/
def spOf (cl : Str → Addr) : Sp := fun vs H Q _ => ∃ m : Str × Str, vs = [.str m.1, .str m.2] ∧ Good m ∧ ∀ a H', Ext H H' → MoveAt cl (nw H H') a m → Q (.ref a) H'
abbrev s_move_of : Stmt := top 16
abbrev N_move_of : List Str := ["word", "name"]
theorem sc_move_of : FnScope N_move_of ["word", "name"] (defScope s_move_of) := ⟨rfl, rfl, rfl, by decide +kernel, rfl, by decide +kernel, by decide +kernel⟩
theorem make_step {H : Hp} {x dx C : Addr} (nx : H x = none) (ndx : H dx = none) (ne : dx ≠ x) {H2 : Hp} {fs : List (Str × V)} (h1 : H2 x = some (.ins C dx fs)) (h2 : ∀ b o, (upd (upd H dx (.own x)) x (.ins C dx [])) b = some o → b ≠ x → H2 b = some o) :
    Ext H H2 ∧ nw H H2 x = some (.ins C dx fs) := by
  refine ⟨fun b o q => h2 b o ?_ (ne_of_none q nx), by rw [nw_at nx]; exact h1⟩
  rw [upd_ne (ne_of_none q nx), upd_ne (ne_of_none q ndx)]
  exact q
theorem ok_of {f : Addr} {fd : FuncData} (F : Fun K "move_of" "move_of" s_move_of f fd) (T : Tx K mg CM CL CA CS CF CE CT mw tL tN)
    (c_Load : Mkc P w K mg base CX0 3 CL "Load" (spCI K "load" CL)) (c_Again : Mkc P w K mg base CX0 3 CA "Again" (spCI K "again" CA)) (c_Store : Mkc P w K mg base CX0 3 CS "Store" (spCI K "store" CS)) (c_Forget : Mkc P w K mg base CX0 3 CF "Forget" (spCI K "forget" CF)) :
    FnOk P w K mg base CX0 5 f fd ["word", "name"] (spOf (clsOf CL CA CS CF)) := by
  refine F.ok sc_move_of (fun vs H Q E h => ?_) (fun cdv A outer s H vs Q E hr h => ?_)
  · obtain ⟨m, rfl, _⟩ := h
    rfl
  · obtain ⟨⟨wd, n⟩, rfl, ⟨hw, hn⟩, k⟩ := h
    refine ⟨_, (pss_cons (ps_if (pt_cmpR op_eq (pv 0) pe_str (nomark _)) (pss_one (ps_ret (pe_mkc c_Load (hr.mono (by decide)) (by rfl) pass0 (pa_cons (pv 1) pa_nil)))) pss_nil)
      (pss_cons (ps_if (pt_cmpR op_eq (pv 0) pe_str (nomark _)) (pss_one (ps_ret (pe_mkc c_Again (hr.mono (by decide)) (by rfl) pass0 (pa_cons (pv 1) pa_nil)))) pss_nil)
      (pss_one (ps_ret (pe_ifExp (pt_cmpR op_eq (pv 0) pe_str (nomark _)) (pe_mkc c_Store (hr.mono (by decide)) (by rfl) pass0 (pa_cons (pv 1) pa_nil)) (pe_mkc c_Forget (hr.mono (by decide)) (by rfl) pass0 (pa_cons (pv 1) pa_nil))))))), ?_⟩
    refine ⟨_, rfl, rfl, _, rfl, ?_⟩
    rcases w4_cases hw with rfl | rfl | rfl | rfl
    · refine iteT ?_
      refine ⟨_, rfl, fun x dx nx ndx ne => ⟨x, dx, n, rfl, upd_same, hn, fun H2 h1 h2 => ⟨rfl, ?_⟩⟩⟩
      obtain ⟨e, q⟩ := make_step nx ndx ne h1 h2
      exact k x H2 e ⟨dx, q⟩
    · refine iteNo (strNo (by dsimp only; decide +kernel)) ?_
      refine ⟨_, rfl, rfl, _, rfl, ?_⟩
      refine iteT ?_
      refine ⟨_, rfl, fun x dx nx ndx ne => ⟨x, dx, n, rfl, upd_same, hn, fun H2 h1 h2 => ⟨rfl, ?_⟩⟩⟩
      obtain ⟨e, q⟩ := make_step nx ndx ne h1 h2
      exact k x H2 e ⟨dx, q⟩
    · refine iteNo (strNo (by dsimp only; decide +kernel)) ?_
      refine ⟨_, rfl, rfl, _, rfl, ?_⟩
      refine iteNo (strNo (by dsimp only; decide +kernel)) ?_
      refine ⟨_, rfl, rfl, _, rfl, ?_⟩
      refine iteT ?_
      refine ⟨_, rfl, fun x dx nx ndx ne => ⟨x, dx, n, rfl, upd_same, hn, fun H2 h1 h2 => ⟨rfl, ?_⟩⟩⟩
      obtain ⟨e, q⟩ := make_step nx ndx ne h1 h2
      exact k x H2 e ⟨dx, q⟩
    · refine iteNo (strNo (by dsimp only; decide +kernel)) ?_
      refine ⟨_, rfl, rfl, _, rfl, ?_⟩
      refine iteNo (strNo (by dsimp only; decide +kernel)) ?_
      refine ⟨_, rfl, rfl, _, rfl, ?_⟩
      refine iteNo (strNo (by dsimp only; decide +kernel)) ?_
      refine ⟨_, rfl, fun x dx nx ndx ne => ⟨x, dx, n, rfl, upd_same, hn, fun H2 h1 h2 => ⟨rfl, ?_⟩⟩⟩
      obtain ⟨e, q⟩ := make_step nx ndx ne h1 h2
      exact k x H2 e ⟨dx, q⟩
end
end K95
end
section
set_option Elab.async false
set_option autoImplicit false
set_option linter.all false
set_option maxRecDepth 100000
set_option maxHeartbeats 4000000
namespace K95
open PySem PySem.Spec PyProof.Rows L2 Ls
open C8 (pss_cut tCut)
open TL
/-! ### words and texts -/
theorem sp_tl : tl (" " : Str) = [32] := by decide +kernel
theorem sp_notin : (32 : Nat) ∉ tl lettersS := by decide +kernel
theorem split_two {a b : Str} (ha : (32 : Nat) ∉ tl a) (hb : (32 : Nat) ∉ tl b) : Txt.split (a ++ " " ++ b) " " = [a, b] := by
  have e : a ++ " " ++ b = Txt.join " " [a, b] := by rw [join_eq]; rfl
  rw [e]
  exact split_join sp_tl (by decide +kernel) (by simp) (by
    intro p hp
    rcases List.mem_cons.mp hp with rfl | hp
    · exact ha
    · rw [List.mem_singleton.mp hp]; exact hb)
theorem split_text {m : Str × Str} (h : Good m) : Txt.split (textM m) " " = [m.1, m.2] := split_two (name_no (w4_name h.1) sp_notin) (name_no h.2 sp_notin)
theorem len_text {m : Str × Str} (h : Good m) : (textM m).length ≤ 13 := by
  unfold textM
  rw [Str.length_append, Str.length_append]
  have h1 := (name_len (w4_name h.1)).2
  have h2 := (name_len h.2).2
  have h3 : (" " : Str).length = 1 := by decide +kernel
  omega
section
variable {P : Program} {w : World} {K : PySem.W.Frag} {mg : Str → Option Value} {base : Heap} {CM CL CA CS CF CE CT mw : Addr} {tL tN : Tok}
/-! ### Move.read -/
def spRead (cl : Str → Addr) : Sp := fun vs H Q _ => ∃ (c : V) (m : Str × Str), vs = [c, .str (textM m)] ∧ Good m ∧ ∀ a H', Ext H H' → MoveAt cl (nw H H') a m → Q (.ref a) H'
abbrev s_Move_read : Stmt := inClass (top 10) 1
abbrev N_Move_read : List Str := ["cls", "text", "words"]
theorem sc_Move_read : FnScope N_Move_read ["cls", "text"] (defScope s_Move_read) := ⟨rfl, rfl, rfl, by decide +kernel, rfl, by decide +kernel, by decide +kernel⟩
theorem in_w4 {wd : Str} (h : wd ∈ W4) : inV (.str wd) ([.str "load", .str "again", .str "store", .str "forget"] : List V) = true := by
  rcases w4_cases h with rfl | rfl | rfl | rfl <;> decide +kernel
theorem ok_read {f : Addr} {fd : FuncData} (F : Fun K "read" "Move.read" s_Move_read f fd) (T : Tx K mg CM CL CA CS CF CE CT mw tL tN)
    (c_is_name : Cal P w K mg base CX0 1 "is_name" spName) (c_move_of : Cal P w K mg base CX0 5 "move_of" (spOf (clsOf CL CA CS CF))) :
    FnOk P w K mg base CX0 6 f fd ["cls", "text"] (spRead (clsOf CL CA CS CF)) := by
  refine F.ok sc_Move_read (fun vs H Q E h => ?_) (fun cdv A outer s H vs Q E hr h => ?_)
  · obtain ⟨c, m, rfl, _⟩ := h
    rfl
  · obtain ⟨c, m, rfl, hg, k⟩ := h
    refine ⟨_, (pss_cons (ps_set (i := 2) sc_Move_read.nd rfl (by first | exact Or.inl rfl | exact Or.inr rfl) (pe_ifExp (pt_val (pe_callB call_isi (by rfl) (T.bn _ (by decide +kernel)) (by decide +kernel) (pa_cons (pv 1) (pa_cons (pe_gty (T := "str") (by rfl) (T.bn _ (by decide +kernel)) (by decide +kernel)) pa_nil)))) (pe_split (pv 1) pe_str) (pe_lst pa_nil)))
      (pss_cons (ps_if ((pw_or (pt_cmpR op_ne (pe_callB call_len_seq (by rfl) (T.bn _ (by decide +kernel)) (by decide +kernel) (pa_cons (pv 2) pa_nil)) pe_int (nomark _)) (pw_or (pt_cmpR op_notIn_seq (pe_ix ix_list (pv 2) pe_int (fun _ _ => rfl)) (pe_tup (pa_cons pe_str (pa_cons pe_str (pa_cons pe_str (pa_cons pe_str pa_nil))))) rfl) (pw_or1 (pt_not (pt_val (pe_cal c_is_name (hr.mono (by decide)) (by rfl) pass0 (pa_cons (pe_ix ix_list (pv 2) pe_int (fun _ _ => rfl)) pa_nil)))))))).pt (pss_one ps_never) pss_nil)
      (pss_one (ps_ret (pe_cal c_move_of (hr.mono (by decide)) (by rfl) pass0 (pa_cons (pe_ix ix_list (pv 2) pe_int (fun _ _ => rfl)) (pa_cons (pe_ix ix_list (pv 2) pe_int (fun _ _ => rfl)) pa_nil))))))), ?_⟩
    refine ⟨_, rfl, _, _, _, _, true, rfl, .ty "str", .base (.str _), kit_ty (by decide +kernel), _, rfl, ?_⟩
    refine iteT ?_
    refine ⟨_, rfl, ⟨_, rfl⟩, _, _, rfl, rfl, (by decide +kernel), Nat.le_trans (Nat.add_le_add_right (len_text hg) 2) (by decide), fun l hl => ?_⟩
    rw [split_text hg]
    have hL : (upd H l (.lst ([m.1, m.2].map V.str))) l = some (.lst [.str m.1, .str m.2]) := upd_same
    have hE : Ext H (upd H l (.lst ([m.1, m.2].map V.str))) := Ext.upd hl
    generalize (upd H l (.lst ([m.1, m.2].map V.str))) = H1 at hL hE
    refine ⟨_, rfl, l, _, rfl, .inl (SqL.of hL), rfl, _, rfl, ?_⟩
    refine iteF ?_
    refine ⟨_, rfl, l, _, 0, .str m.1, rfl, rfl, SqL.of hL, atI_nat (j := 0) rfl, (by show 4 ≤ sizeLine; decide), fun t ht => ?_⟩
    have hL2 : (upd H1 t (.tup [.str "load", .str "again", .str "store", .str "forget"])) l = some (.lst [.str m.1, .str m.2]) := by rw [upd_ne (ne_of_none hL ht)]; exact hL
    refine ⟨t, _, rfl, .inr (SqT.of upd_same), rfl, rfl, _, rfl, ?_⟩
    have hE2 : Ext H (upd H1 t (.tup [.str "load", .str "again", .str "store", .str "forget"])) := hE.trans (Ext.upd ht)
    generalize (upd H1 t (.tup [.str "load", .str "again", .str "store", .str "forget"])) = H2 at hL2 hE2
    rw [in_w4 hg.1]
    refine iteF ?_
    refine ⟨_, rfl, l, _, 1, .str m.2, rfl, rfl, SqL.of hL2, atI_nat (j := 1) rfl, m.2, rfl, Nat.le_trans (name_len hg.2).2 (by decide), fun H3 e3 => ⟨_, rfl, ?_⟩⟩
    rw [hg.2]
    refine iteF ?_
    have hL3 := e3 _ _ hL2
    have hE3 := hE2.trans e3
    refine ⟨_, rfl, l, _, 0, .str m.1, rfl, rfl, SqL.of hL3, atI_nat (j := 0) rfl, _, rfl, l, _, 1, .str m.2, rfl, rfl, SqL.of hL3, atI_nat (j := 1) rfl, m, rfl, hg, fun a H4 e4 hm => ?_⟩
    exact k a H4 (hE3.trans e4) (hm.mono (nw_back hE3))
/-! ### Move.__eq__ and Move.__str__ -/
def ReqM (cl : Str → Addr) : Addr → Addr → Hp → Prop := fun a b H => ∃ m : Str × Str, MoveAt cl H a m ∧ MoveAt cl H b m ∧ Good m
abbrev s_Move_eq : Stmt := inClass (top 10) 2
abbrev N_Move_eq : List Str := ["self", "other"]
theorem sc_Move_eq : FnScope N_Move_eq ["self", "other"] (defScope s_Move_eq) := ⟨rfl, rfl, rfl, by decide +kernel, rfl, by decide +kernel, by decide +kernel⟩
theorem ok_eq {f fs fe : Addr} {fd : FuncData} (F : Fun K "__eq__" "Move.__eq__" s_Move_eq f fd) (T : Tx K mg CM CL CA CS CF CE CT mw tL tN) (TC : ∀ wd ∈ W4, ClT K CM (clsOf CL CA CS CF wd) fs fe) :
    FnOk P w K mg base CX0 1 f fd ["self", "other"] (spEq (ReqM (clsOf CL CA CS CF))) := by
  refine F.ok sc_Move_eq (fun vs H Q E h => ?_) (fun cdv A outer s H vs Q E hr h => ?_)
  · obtain ⟨a, b, rfl, _⟩ := h
    rfl
  · obtain ⟨a, b, rfl, ⟨m, ⟨dx, ha⟩, ⟨dy, hb⟩, hg⟩, k⟩ := h
    have C := TC m.1 hg.1
    refine ⟨_, (pss_one (ps_ret (pe_and (pe_callB call_isi (by rfl) (T.bn _ (by decide +kernel)) (by decide +kernel) (pa_cons (pv 1) (pa_cons (pe_gref (by rfl) T.m_Move) pa_nil))) (pe_and (pe_cmpR op_eq (pe_fld (pv 0) rfl) (pe_fld (pv 1) rfl) (nomark _)) (pe_one (pe_cmpR op_eq (pe_fld (pv 0) rfl) (pe_fld (pv 1) rfl) (nomark _))))))), ?_⟩
    refine ⟨_, rfl, _, _, _, _, true, rfl, .own CM, .base (.ins hb C.cl C.ha C.hn C.htk C.hm), C.kit, _, rfl, ?_⟩
    refine iteT ?_
    refine ⟨_, rfl, a, _, dx, _, _, rfl, ha, C.cl, C.nW, flds_word _ _, _, rfl, b, _, dy, _, _, rfl, hb, C.cl, C.nW, flds_word _ _, rfl, _, rfl, ?_⟩
    refine iteYes (by simp) ?_
    refine ⟨_, rfl, a, _, dx, _, _, rfl, ha, C.cl, C.nN, flds_name _ _, _, rfl, b, _, dy, _, _, rfl, hb, C.cl, C.nN, flds_name _ _, rfl, ?_⟩
    have := k H Ext.rfl'
    rw [decide_eq_true rfl]
    exact this
def spStr (cl : Str → Addr) : Sp := fun vs H Q _ => ∃ (a : Addr) (m : Str × Str), vs = [.ref a] ∧ MoveAt cl H a m ∧ Good m ∧ Q (.str (textM m)) H
abbrev s_Move_str : Stmt := inClass (top 10) 3
abbrev N_Move_str : List Str := ["self"]
theorem sc_Move_str : FnScope N_Move_str ["self"] (defScope s_Move_str) := ⟨rfl, rfl, rfl, by decide +kernel, rfl, by decide +kernel, by decide +kernel⟩
theorem ok_str {f fs fe : Addr} {fd : FuncData} (F : Fun K "__str__" "Move.__str__" s_Move_str f fd) (T : Tx K mg CM CL CA CS CF CE CT mw tL tN) (TC : ∀ wd ∈ W4, ClT K CM (clsOf CL CA CS CF wd) fs fe) :
    FnOk P w K mg base CX0 1 f fd ["self"] (spStr (clsOf CL CA CS CF)) := by
  refine F.ok sc_Move_str (fun vs H Q E h => ?_) (fun cdv A outer s H vs Q E hr h => ?_)
  · obtain ⟨a, m, rfl, _⟩ := h
    rfl
  · obtain ⟨a, m, rfl, ⟨dx, ha⟩, hg, k⟩ := h
    have C := TC m.1 hg.1
    have h1 := (name_len (w4_name hg.1)).2
    have h2 := (name_len hg.2).2
    have h3 : (" " : Str).length = 1 := by decide +kernel
    have h4 : sizeLine = 16777216 := sizeLine_eq
    refine ⟨_, (pss_one (ps_ret (pe_joined (.cons (pe_fmt (pe_fld (pv 0) rfl)) (.cons pe_str (.cons (pe_fmt (pe_fld (pv 0) rfl)) .nil)))))), ?_⟩
    refine ⟨_, rfl, a, _, dx, _, _, rfl, ha, C.cl, C.nW, flds_word _ _, .inl ⟨m.1, rfl, by omega, m.1, rfl, ?_, ?_⟩⟩
    · rw [Str.length_append]
      have : Str.empty.length = 0 := rfl
      omega
    refine ⟨" ", rfl, ?_, ?_⟩
    · rw [Str.length_append, Str.length_append]
      have : Str.empty.length = 0 := rfl
      omega
    refine ⟨_, rfl, a, _, dx, _, _, rfl, ha, C.cl, C.nN, flds_name _ _, .inl ⟨m.2, rfl, by omega, m.2, rfl, ?_, ?_⟩⟩
    · rw [Str.length_append, Str.length_append, Str.length_append]
      have : Str.empty.length = 0 := rfl
      omega
    have e : Str.empty ++ m.1 ++ " " ++ m.2 = textM m := by
      unfold textM
      refine ext_tl ?_
      rw [tl_append, tl_append, tl_append, tl_append, tl_append]
      rfl
    show Q (.str (Str.empty ++ m.1 ++ " " ++ m.2)) H
    rw [e]
    exact k
end
end K95
end
section
set_option Elab.async false
set_option autoImplicit false
set_option linter.all false
set_option maxRecDepth 100000
set_option maxHeartbeats 4000000
namespace K95
open PySem PySem.Spec PyProof.Rows L2 Ls
open TL
/-! ### the texts of plans, in plain Lean -/
def rowT (ts : List Str) : Str := if ts.isEmpty then "-" else Txt.join ", " ts
def planT (rows : List (List Str)) : Str := Txt.join "\n" (rows.map rowT)
/-- the words of a row -/
def wordsOf : List (Str × Str) → List Str
  | [] => []
  | [m] => [m.1, m.2]
  | m :: m2 :: r => m.1 :: (m.2 ++ ",") :: wordsOf (m2 :: r)
def rowW (ms : List (Str × Str)) : List Str := if ms.isEmpty then ["-"] else wordsOf ms
theorem words_ne : ∀ {ms : List (Str × Str)}, ms ≠ [] → wordsOf ms ≠ []
  | [], h => absurd rfl h
  | [_], _ => by simp [wordsOf]
  | _ :: _ :: _, _ => by simp [wordsOf]
theorem words_len : ∀ ms : List (Str × Str), (wordsOf ms).length = 2 * ms.length
  | [] => rfl
  | [_] => rfl
  | _ :: m2 :: r => by
    have := words_len (m2 :: r)
    simp only [wordsOf, List.length_cons] at this ⊢
    omega
theorem words_even : ∀ {ms : List (Str × Str)} {j : Nat} {m : Str × Str}, ms[j]? = some m → (wordsOf ms)[2 * j]? = some m.1
  | [], _, _, h => by simp at h
  | [a], 0, m, h => by simp at h; subst h; rfl
  | [a], j + 1, m, h => by simp at h
  | a :: b :: r, 0, m, h => by simp at h; subst h; rfl
  | a :: b :: r, j + 1, m, h => by
    have := words_even (ms := b :: r) (j := j) (m := m) (by simpa using h)
    show (a.1 :: (a.2 ++ ",") :: wordsOf (b :: r))[2 * j + 1 + 1]? = some m.1
    simpa using this
theorem words_odd : ∀ {ms : List (Str × Str)} {j : Nat} {m : Str × Str}, ms[j]? = some m → (wordsOf ms)[2 * j + 1]? = some (if j + 1 < ms.length then m.2 ++ "," else m.2)
  | [], _, _, h => by simp at h
  | [a], 0, m, h => by simp at h; subst h; rfl
  | [a], j + 1, m, h => by simp at h
  | a :: b :: r, 0, m, h => by simp at h; subst h; simp [wordsOf]
  | a :: b :: r, j + 1, m, h => by
    have := words_odd (ms := b :: r) (j := j) (m := m) (by simpa using h)
    show (a.1 :: (a.2 ++ ",") :: wordsOf (b :: r))[2 * j + 1 + 1 + 1]? = _
    simp only [List.getElem?_cons_succ]
    rw [this]
    have e : (j + 1 < (b :: r).length) = (j + 1 + 1 < (a :: b :: r).length) := by simp
    simp only [e]
theorem cs_tl : tl (", " : Str) = [44, 32] := by decide +kernel
theorem co_tl : tl ("," : Str) = [44] := by decide +kernel
theorem nl_tl : tl ("\n" : Str) = [10] := by decide +kernel
theorem join2 (y a b : Str) (r : List Str) : Str.join y (a :: b :: r) = a ++ y ++ Str.join y (b :: r) := rfl
theorem join_words : ∀ {ms : List (Str × Str)}, ms ≠ [] → Str.join ", " (ms.map textM) = Str.join " " (wordsOf ms)
  | [], h => absurd rfl h
  | [m], _ => rfl
  | m :: m2 :: r, _ => by
    have ih := join_words (ms := m2 :: r) (by simp)
    show Str.join ", " (textM m :: textM m2 :: r.map textM) = Str.join " " (m.1 :: (m.2 ++ ",") :: wordsOf (m2 :: r))
    rw [join2, show textM m2 :: r.map textM = (m2 :: r).map textM from rfl, ih, join2]
    cases e : wordsOf (m2 :: r) with
    | nil => exact absurd e (words_ne (by simp))
    | cons x xs =>
      rw [join2]
      unfold textM
      refine ext_tl ?_
      simp only [tl_append, cs_tl, co_tl, sp_tl, List.append_assoc]
      rfl
theorem mem_joinL {c : Nat} {S : List Nat} (hS : c ∉ S) : ∀ {parts : List (List Nat)}, (∀ p ∈ parts, c ∉ p) → c ∉ joinL S parts
  | [], _ => by simp [joinL]
  | [p], h => by simpa [joinL] using h p (by simp)
  | p :: q :: r, h => by
    have ih := mem_joinL hS (parts := q :: r) (fun z hz => h z (List.mem_cons_of_mem _ hz))
    show c ∉ p ++ (S ++ joinL S (q :: r))
    simp only [List.mem_append, not_or]
    exact ⟨h p (by simp), hS, ih⟩
theorem mem_join {c : Nat} {y : Str} (hS : c ∉ tl y) {parts : List Str} (h : ∀ p ∈ parts, c ∉ tl p) : c ∉ tl (Txt.join y parts) := by
  rw [join_eq, tl_join]
  refine mem_joinL hS fun p hp => ?_
  obtain ⟨z, hz, rfl⟩ := List.mem_map.mp hp
  exact h z hz
theorem words_no {c : Nat} (h1 : c ∉ tl lettersS) (h2 : c ≠ 44) : ∀ {ms : List (Str × Str)}, (∀ m ∈ ms, Good m) → ∀ p ∈ wordsOf ms, c ∉ tl p
  | [], _, p, hp => by simp [wordsOf] at hp
  | [m], h, p, hp => by
    have g := h m (by simp)
    simp only [wordsOf, List.mem_cons, List.not_mem_nil, or_false] at hp
    rcases hp with rfl | rfl
    · exact name_no (w4_name g.1) h1
    · exact name_no g.2 h1
  | m :: m2 :: r, h, p, hp => by
    have g := h m (by simp)
    simp only [wordsOf, List.mem_cons] at hp
    rcases hp with rfl | rfl | hp
    · exact name_no (w4_name g.1) h1
    · rw [tl_append, co_tl]
      simp only [List.mem_append, List.mem_singleton, not_or]
      exact ⟨name_no g.2 h1, h2⟩
    · exact words_no h1 h2 (ms := m2 :: r) (fun z hz => h z (List.mem_cons_of_mem _ hz)) p hp
theorem row_eq {ms : List (Str × Str)} : rowT (ms.map textM) = Txt.join " " (rowW ms) := by
  cases ms with
  | nil => rfl
  | cons m r =>
    show Txt.join ", " ((m :: r).map textM) = Txt.join " " (wordsOf (m :: r))
    rw [join_eq, join_eq]
    exact join_words (by simp)
theorem rowW_no {c : Nat} (h1 : c ∉ tl lettersS) (h2 : c ≠ 44) (h3 : c ≠ 45) {ms : List (Str × Str)} (h : ∀ m ∈ ms, Good m) : ∀ p ∈ rowW ms, c ∉ tl p := by
  intro p hp
  cases ms with
  | nil =>
    have hp' : p ∈ (["-"] : List Str) := hp
    rw [List.mem_singleton.mp hp']
    have : tl ("-" : Str) = [45] := by decide +kernel
    rw [this]
    simpa using h3
  | cons m r => exact words_no h1 h2 h p hp
theorem rowW_ne (ms : List (Str × Str)) : rowW ms ≠ [] := by
  cases ms with
  | nil => simp [rowW]
  | cons m r => exact words_ne (by simp)
/-! sizes -/
theorem sum_le {B : Nat} : ∀ {l : List Str}, (∀ z ∈ l, z.length ≤ B) → (l.map (·.length)).sum ≤ l.length * B
  | [], _ => by simp
  | z :: r, h => by
    have := sum_le (l := r) fun x hx => h x (List.mem_cons_of_mem _ hx)
    have h1 := h z (by simp)
    simp only [List.map_cons, List.sum_cons, List.length_cons, Nat.succ_mul]
    omega
theorem join_le {B : Nat} {y : Str} {l : List Str} (h : ∀ z ∈ l, z.length ≤ B) : (Txt.join y l).length ≤ l.length * B + l.length * y.length := by
  rw [join_eq]
  exact Nat.le_trans (StrLaws.join_length_le y l) (Nat.add_le_add_right (sum_le h) _)
/-! ### a row read word by word -/
abbrev Res := Nat ⊕ List (Str × Str)
def lastC (z : Str) : Bool := decide (V.str (cutS z (some (-1)) none) = V.str ",")
def nameOfW (t : Str) : Str := if lastC t = true then cutS t none (some (-1)) else t
def pre (acc : List (Str × Str)) : Res → Res
  | .inl j => .inl j
  | .inr ms => .inr (acc ++ ms)
theorem pre_pre (a b : List (Str × Str)) (r : Res) : pre a (pre b r) = pre (a ++ b) r := by
  cases r <;> simp [pre]
theorem pre_nil (r : Res) : pre [] r = r := by cases r <;> rfl
def scan : Nat → List Str → Res
  | k, [] => .inl k
  | k, [w] => if w ∈ W4 then .inl (k + 1) else .inl k
  | k, w :: t :: r => if w ∈ W4 then (if isName (nameOfW t) = true then pre [(w, nameOfW t)] (if lastC t = true then scan (k + 2) r else if r.isEmpty = true then .inr [] else .inl (k + 2)) else .inl (k + 1)) else .inl k
def tail (b : Bool) (k : Nat) (r : List Str) : Res := if b = true then scan k r else if r.isEmpty = true then .inr [] else .inl k
theorem scan_nil (k : Nat) : scan k [] = .inl k := by simp [scan]
theorem scan_bad {k : Nat} {w : Str} {r : List Str} (h : w ∉ W4) : scan k (w :: r) = .inl k := by
  cases r with
  | nil => rw [scan, if_neg h]
  | cons t r => rw [scan, if_neg h]
theorem scan_end {k : Nat} {w : Str} (h : w ∈ W4) : scan k [w] = .inl (k + 1) := by rw [scan, if_pos h]
theorem scan_no {k : Nat} {w t : Str} {r : List Str} (h : w ∈ W4) (hn : isName (nameOfW t) = false) : scan k (w :: t :: r) = .inl (k + 1) := by
  rw [scan, if_pos h, if_neg (by rw [hn]; exact Bool.false_ne_true)]
theorem scan_go {k : Nat} {w t : Str} {r : List Str} (h : w ∈ W4) (hn : isName (nameOfW t) = true) : scan k (w :: t :: r) = pre [(w, nameOfW t)] (tail (lastC t) (k + 2) r) := by
  rw [scan, if_pos h, if_pos hn]
  rfl
def rowR (ws : List Str) : Res := if ws.head? = some ("-" : Str) then (if 1 < ws.length then .inl 1 else .inr []) else scan 0 ws
theorem sIx_last (n : Nat) (h : 1 ≤ n) (d : Nat) : HT.sIx n d (some (-1)) = n - 1 := by
  show (if (-1 : Int) < 0 then ((-1 : Int) + (n : Int)).toNat else min (-1 : Int).toNat n) = _
  rw [if_pos (by decide)]
  omega
theorem tl_cut (z : Str) (lo hi : Option Int) : tl (cutS z lo hi) = ((tl z).drop (HT.sIx z.length 0 lo)).take (HT.sIx z.length z.length hi - HT.sIx z.length 0 lo) := rfl
theorem comma_back {t : Str} (h : lastC t = true) : cutS t none (some (-1)) ++ "," = t := by
  have e : cutS t (some (-1)) none = "," := V.str.inj (of_decide_eq_true h)
  have h1 : tl (cutS t (some (-1)) none) = [44] := by rw [e]; exact co_tl
  rw [tl_cut] at h1
  have hl : t.length = (tl t).length := len_tl t
  by_cases h0 : 1 ≤ t.length
  · rw [sIx_last _ h0, HT.sIx_none] at h1
    refine ext_tl ?_
    rw [tl_append, co_tl, tl_cut, sIx_last _ h0, HT.sIx_none, ← h1]
    have e2 : ((tl t).drop (t.length - 1)).take (t.length - (t.length - 1)) = (tl t).drop (t.length - 1) := List.take_of_length_le (by rw [List.length_drop]; omega)
    rw [e2]
    simp
  · have : tl t = [] := List.eq_nil_of_length_eq_zero (by omega)
    rw [this] at h1
    simp at h1
theorem scan_back : ∀ {k : Nat} {ws : List Str} {ms : List (Str × Str)}, scan k ws = .inr ms → wordsOf ms = ws ∧ ms ≠ [] ∧ ∀ m ∈ ms, Good m
  | k, [], ms, h => by rw [scan_nil] at h; cases h
  | k, [w], ms, h => by
    by_cases hw : w ∈ W4
    · rw [scan_end hw] at h; cases h
    · rw [scan_bad hw] at h; cases h
  | k, w :: t :: r, ms, h => by
    by_cases hw : w ∈ W4
    · cases hn : isName (nameOfW t) with
      | false => rw [scan_no hw hn] at h; cases h
      | true =>
        rw [scan_go hw hn] at h
        unfold tail at h
        cases hc : lastC t with
        | true =>
          rw [hc, if_pos rfl] at h
          cases hs : scan (k + 2) r with
          | inl j => rw [hs] at h; cases h
          | inr ms' =>
            rw [hs] at h
            have e : ms = (w, nameOfW t) :: ms' := (Sum.inr.inj h).symm
            subst e
            obtain ⟨h1, h2, h3⟩ := scan_back hs
            have et : nameOfW t ++ "," = t := by
              unfold nameOfW
              rw [if_pos hc]
              exact comma_back hc
            refine ⟨?_, by simp, fun m hm => ?_⟩
            · cases ms' with
              | nil => exact absurd rfl h2
              | cons m2 r2 =>
                show w :: (nameOfW t ++ ",") :: wordsOf (m2 :: r2) = _
                rw [h1, et]
            · rcases List.mem_cons.mp hm with rfl | hm
              · exact ⟨hw, hn⟩
              · exact h3 m hm
        | false =>
          rw [hc, if_neg Bool.false_ne_true] at h
          cases r with
          | cons x r => cases h
          | nil =>
            have e : ms = [(w, nameOfW t)] := (Sum.inr.inj h).symm
            subst e
            have et : nameOfW t = t := by
              unfold nameOfW
              rw [if_neg (by rw [hc]; exact Bool.false_ne_true)]
            refine ⟨?_, by simp, fun m hm => ?_⟩
            · show [w, nameOfW t] = _
              rw [et]
            · rw [List.mem_singleton.mp hm]
              exact ⟨hw, hn⟩
    · rw [scan_bad hw] at h; cases h
theorem row_back {ws : List Str} {ms : List (Str × Str)} (h : rowR ws = .inr ms) : rowW ms = ws ∧ ∀ m ∈ ms, Good m := by
  unfold rowR at h
  by_cases hd : ws.head? = some ("-" : Str)
  · rw [if_pos hd] at h
    by_cases hl : 1 < ws.length
    · rw [if_pos hl] at h; cases h
    · rw [if_neg hl] at h
      have e : ms = [] := (Sum.inr.inj h).symm
      subst e
      refine ⟨?_, by simp⟩
      match ws, hd, hl with
      | [], hd, _ => cases hd
      | [x], hd, _ =>
        have : x = "-" := Option.some.inj hd
        rw [this]
        rfl
      | _ :: _ :: _, _, hl => simp at hl
  · rw [if_neg hd] at h
    obtain ⟨h1, h2, h3⟩ := scan_back h
    refine ⟨?_, h3⟩
    cases ms with
    | nil => exact absurd rfl h2
    | cons m r => exact h1
/-! ### a plan read row by row -/
def planGo : Nat → List (List Str) → (Nat × Nat) ⊕ List (List (Str × Str))
  | _, [] => .inr []
  | i, ws :: r => match rowR ws with
    | .inl j => .inl (i, j)
    | .inr ms => match planGo (i + 1) r with
      | .inl e => .inl e
      | .inr p => .inr (ms :: p)
theorem plan_inr : ∀ {i : Nat} {rows : List (List Str)} {p : List (List (Str × Str))}, planGo i rows = .inr p → p.length = rows.length ∧ ∀ (j : Nat) ws, rows[j]? = some ws → ∃ ms, p[j]? = some ms ∧ rowR ws = .inr ms
  | i, [], p, h => by
    have : p = [] := (Sum.inr.inj h).symm
    subst this
    exact ⟨rfl, fun j ws h => by simp at h⟩
  | i, ws :: r, p, h => by
    rw [planGo] at h
    cases hr : rowR ws with
    | inl j => rw [hr] at h; cases h
    | inr ms =>
      rw [hr] at h
      cases hp : planGo (i + 1) r with
      | inl e => rw [hp] at h; cases h
      | inr p' =>
        rw [hp] at h
        have e : p = ms :: p' := (Sum.inr.inj h).symm
        subst e
        obtain ⟨h1, h2⟩ := plan_inr hp
        refine ⟨by simp [h1], fun j ws' hj => ?_⟩
        cases j with
        | zero =>
          have : ws = ws' := Option.some.inj (by simpa using hj)
          subst this
          exact ⟨ms, rfl, hr⟩
        | succ j =>
          obtain ⟨ms', g1, g2⟩ := h2 j ws' (by simpa using hj)
          exact ⟨ms', by simpa using g1, g2⟩
theorem plan_inl : ∀ {i : Nat} {rows : List (List Str)} {e : Nat × Nat}, planGo i rows = .inl e → ∃ k, e.1 = i + k ∧ (∃ ws, rows[k]? = some ws ∧ rowR ws = .inl e.2) ∧ ∀ (j : Nat) ws, j < k → rows[j]? = some ws → ∃ ms, rowR ws = .inr ms
  | i, [], e, h => by cases h
  | i, ws :: r, e, h => by
    rw [planGo] at h
    cases hr : rowR ws with
    | inl j =>
      rw [hr] at h
      have : e = (i, j) := (Sum.inl.inj h).symm
      subst this
      exact ⟨0, rfl, ⟨ws, rfl, hr⟩, fun j ws hj => absurd hj (by omega)⟩
    | inr ms =>
      rw [hr] at h
      cases hp : planGo (i + 1) r with
      | inr p => rw [hp] at h; cases h
      | inl e' =>
        rw [hp] at h
        have : e = e' := (Sum.inl.inj h).symm
        subst this
        obtain ⟨k, h1, ⟨ws', h2, h3⟩, h4⟩ := plan_inl hp
        refine ⟨k + 1, by omega, ⟨ws', by simpa using h2, h3⟩, fun j ws2 hj hg => ?_⟩
        cases j with
        | zero =>
          have : ws = ws2 := Option.some.inj (by simpa using hg)
          subst this
          exact ⟨ms, hr⟩
        | succ j => exact h4 j ws2 (by omega) (by simpa using hg)
def linesOf (z : Str) : List (List Str) := (Txt.split z "\n").map fun l => Txt.split l " "
def planD : PyData → (Nat × Nat) ⊕ List (List (Str × Str))
  | .str z => planGo 0 (linesOf z)
  | _ => .inl (0, 0)
def textsOf (plan : List (List (Str × Str))) : List (List Str) := plan.map (·.map textM)
theorem nl_kd : ("\n" : Str).cps.all (· < 256) = true := by decide +kernel
theorem plan_back {z : Str} {plan : List (List (Str × Str))} (h : planD (.str z) = .inr plan) : planT (textsOf plan) = z ∧ ∀ ms ∈ plan, ∀ m ∈ ms, Good m := by
  obtain ⟨h1, h2⟩ := plan_inr (show planGo 0 (linesOf z) = .inr plan from h)
  have h3 : plan.map rowW = linesOf z := by
    refine List.ext_getElem? fun j => ?_
    cases q : (linesOf z)[j]? with
    | none =>
      rw [List.getElem?_eq_none_iff] at q ⊢
      rw [List.length_map]
      omega
    | some ws =>
      obtain ⟨ms, g1, g2⟩ := h2 j ws q
      rw [List.getElem?_map, g1]
      exact congrArg some (row_back g2).1
  refine ⟨?_, fun ms hm => ?_⟩
  · unfold planT textsOf
    rw [List.map_map]
    have e1 : plan.map (rowT ∘ fun ms => ms.map textM) = (plan.map rowW).map (Txt.join " ") := by
      rw [List.map_map]
      exact List.map_congr_left fun ms _ => row_eq
    rw [e1, h3]
    unfold linesOf
    rw [List.map_map]
    have e2 : (Txt.split z "\n").map (Txt.join " " ∘ fun l => Txt.split l " ") = Txt.split z "\n" := by
      have : (Txt.join " " ∘ fun l => Txt.split l " ") = id := funext fun l => split_back Ls.sp_tl Ls.sp_kd
      rw [this, List.map_id]
    rw [e2]
    exact split_back nl_tl nl_kd
  · obtain ⟨j, hj⟩ := List.getElem?_of_mem hm
    have hjl : j < (linesOf z).length := by rw [← h1]; exact (List.getElem?_eq_some_iff.mp hj).1
    obtain ⟨ms', g1, g2⟩ := h2 j _ (List.getElem?_eq_getElem hjl)
    rw [hj] at g1
    cases g1
    exact (row_back g2).2
/-! exact lengths -/
theorem joinL_len (S : List Nat) : ∀ {l : List (List Nat)}, l ≠ [] → (joinL S l).length + S.length = (l.map List.length).sum + l.length * S.length
  | [], h => absurd rfl h
  | [a], _ => by simp [joinL]
  | a :: b :: r, _ => by
    have ih := joinL_len S (l := b :: r) (by simp)
    rw [joinL_cons _ _ (by simp), List.map_cons, List.sum_cons, List.length_append, List.length_append]
    simp only [List.length_cons, Nat.succ_mul] at ih ⊢
    omega
theorem join_len {y : Str} {l : List Str} (h : l ≠ []) : (Txt.join y l).length + y.length = (l.map (·.length)).sum + l.length * y.length := by
  have e := joinL_len (tl y) (l := l.map tl) (by simpa using h)
  rw [join_eq, len_tl (Str.join y l), tl_join, len_tl y, e, List.map_map, List.length_map]
  congr 2
/-- the weight of parts -/
def wt (n : Nat) (l : List Str) : Nat := (l.map (·.length)).sum + l.length * n
theorem wt_append (n : Nat) (a b : List Str) : wt n (a ++ b) = wt n a + wt n b := by
  unfold wt
  rw [List.map_append, List.sum_append, List.length_append, Nat.add_mul]
  omega
theorem wt_cons (n : Nat) (x : Str) (b : List Str) : wt n (x :: b) = x.length + n + wt n b := by
  unfold wt
  rw [List.map_cons, List.sum_cons, List.length_cons, Nat.succ_mul]
  omega
theorem wt_nil (n : Nat) : wt n [] = 0 := by simp [wt]
theorem wt_take (n : Nat) (l : List Str) (i : Nat) : wt n (l.take i) ≤ wt n l := by
  have h := wt_append n (l.take i) (l.drop i)
  rw [List.take_append_drop] at h
  omega
theorem wt_drop (n : Nat) (l : List Str) (i : Nat) : wt n (l.drop i) ≤ wt n l := by
  have h := wt_append n (l.take i) (l.drop i)
  rw [List.take_append_drop] at h
  omega
theorem wt_mem (n : Nat) : ∀ {l : List Str} {x : Str}, x ∈ l → x.length + n ≤ wt n l
  | a :: l, x, h => by
    rw [wt_cons]
    rcases List.mem_cons.mp h with rfl | h
    · omega
    · have := wt_mem n h
      omega
theorem wt_set (n : Nat) (x : Str) : ∀ (l : List Str) (i : Nat), wt n (l.set i x) ≤ wt n l + x.length + n
  | [], i => by simp [wt_nil]
  | a :: l, 0 => by
    rw [List.set_cons_zero, wt_cons, wt_cons]
    omega
  | a :: l, i + 1 => by
    rw [List.set_cons_succ, wt_cons, wt_cons]
    have := wt_set n x l i
    omega
theorem wt_len (n : Nat) (l : List Str) (h : 1 ≤ n) : l.length ≤ wt n l := by
  unfold wt
  have := Nat.le_mul_of_pos_right l.length h
  omega
theorem join_wt (y : Str) (l : List Str) : (Txt.join y l).length ≤ wt y.length l := by
  rw [join_eq]
  exact StrLaws.join_length_le y l
theorem split_wt {x y : Str} {s : Nat} (ey : tl y = [s]) (hk : y.cps.all (· < 256) = true) : wt y.length (Txt.split x y) = x.length + y.length := by
  have h := join_len (y := y) (split_ne (x := x) ey hk)
  rw [split_back ey hk] at h
  exact h.symm
/-- the rows of a plan that was read: what show_plan puts together is not long -/
def Fits (rows : List (List Str)) : Prop := (∀ r ∈ rows, wt 2 r ≤ 100000) ∧ wt 1 (rows.map rowT) ≤ 100000
theorem fits_of {plan : List (List (Str × Str))} {z : Str} (h : planT (textsOf plan) = z) (hz : z.length ≤ 90000) : Fits (textsOf plan) := by
  have h1 : ("\n" : Str).length = 1 := by decide +kernel
  have h2 : (", " : Str).length = 2 := by decide +kernel
  have w1 : wt 1 ((textsOf plan).map rowT) ≤ 90001 := by
    by_cases hn : (textsOf plan).map rowT = []
    · rw [hn, wt_nil]; omega
    · have e := join_len (y := "\n") hn
      unfold planT at h
      rw [h, h1] at e
      unfold wt
      omega
  refine ⟨fun r hr => ?_, by omega⟩
  have hm : rowT r ∈ (textsOf plan).map rowT := List.mem_map.mpr ⟨r, hr, rfl⟩
  have hl := wt_mem 1 hm
  cases r with
  | nil => rw [wt_nil]; omega
  | cons a r =>
    have e := join_len (y := ", ") (l := a :: r) (by simp)
    have : rowT (a :: r) = Txt.join ", " (a :: r) := rfl
    rw [← this, h2] at e
    unfold wt at hl ⊢
    unfold wt at w1
    omega
/-- all signs are plain -/
theorem ok_join {n : Nat} {y : Str} {l : List Str} (hy : ∀ c ∈ tl y, c < 256) (h : ∀ p ∈ l, ∀ c ∈ tl p, c < 256) (hw : wt y.length l ≤ n) : OkS n (Txt.join y l) := by
  refine ⟨Nat.le_trans (join_wt y l) hw, ?_⟩
  rw [join_eq, tl_join]
  have : ∀ {S : List Nat} {ps : List (List Nat)}, (∀ c ∈ S, c < 256) → (∀ p ∈ ps, ∀ c ∈ p, c < 256) → ∀ c ∈ joinL S ps, c < 256 := by
    intro S ps hS
    induction ps with
    | nil => intro _ c hc; simp [joinL] at hc
    | cons a r ih =>
      intro hp c hc
      cases r with
      | nil => exact hp a (by simp) c (by simpa [joinL] using hc)
      | cons b r =>
        rw [joinL_cons _ _ (by simp)] at hc
        rcases List.mem_append.mp hc with hc | hc
        · exact hp a (by simp) c hc
        · rcases List.mem_append.mp hc with hc | hc
          · exact hS c hc
          · exact ih (fun p hp' => hp p (List.mem_cons_of_mem _ hp')) c hc
  refine this hy fun p hp => ?_
  obtain ⟨q, hq, rfl⟩ := List.mem_map.mp hp
  exact h q hq
theorem ok_cut {n : Nat} {z : Str} (h : OkS n z) (lo hi : Option Int) : OkS n (cutS z lo hi) := by
  refine ⟨Nat.le_trans (cutS_length z lo hi) h.1, fun c hc => ?_⟩
  rw [tl_cut] at hc
  exact h.2 c (List.mem_of_mem_drop (List.mem_of_mem_take hc))
end K95
end
section
set_option Elab.async false
set_option autoImplicit false
set_option linter.all false
set_option maxRecDepth 100000
set_option maxHeartbeats 4000000
namespace K95
open PySem PySem.Spec PyProof.Rows L2 Ls
open C8 (pss_cut tCut)
open TL
theorem Paired.at_ {α β : Type} {F : α → β → Prop} : ∀ {l₁ : List α} {l₂ : List β} {i : Nat} {a : α}, Paired F l₁ l₂ → l₁[i]? = some a → ∃ b, l₂[i]? = some b ∧ F a b
  | _, _, _, _, .nil, h => by simp at h
  | _, _, 0, _, .cons r _, h => by simp at h; subst h; exact ⟨_, rfl, r⟩
  | _, _, i + 1, a, .cons _ t, h => by
    obtain ⟨b, h1, h2⟩ := Paired.at_ (i := i) (a := a) t (by simpa using h)
    exact ⟨b, by simpa using h1, h2⟩
theorem Paired.len {α β : Type} {F : α → β → Prop} {l₁ : List α} {l₂ : List β} (p : Paired F l₁ l₂) : l₁.length = l₂.length := Paired.length p
theorem Paired.of_get {α β : Type} {F : α → β → Prop} : ∀ {l₁ : List α} {l₂ : List β}, l₁.length = l₂.length → (∀ (i : Nat) a b, l₁[i]? = some a → l₂[i]? = some b → F a b) → Paired F l₁ l₂
  | [], [], _, _ => .nil
  | [], _ :: _, h, _ => by simp at h
  | _ :: _, [], h, _ => by simp at h
  | a :: l, b :: r, h, k => .cons (k 0 a b rfl rfl) (Paired.of_get (by simpa using h) fun i x y h1 h2 => k (i + 1) x y (by simpa using h1) (by simpa using h2))
theorem map_take_succ {α β : Type} (f : α → β) {l : List α} {i : Nat} {a : α} (h : l[i]? = some a) : (l.take (i + 1)).map f = (l.take i).map f ++ [f a] := by
  have hi : i < l.length := (List.getElem?_eq_some_iff.mp h).1
  have e : l[i] = a := (List.getElem?_eq_some_iff.mp h).2
  rw [List.take_succ, h, List.map_append]
  rfl
theorem list_of_get {ys : List V} {r : List Str} (hl : ys.length = r.length) (h : ∀ (j : Nat) (y : V), ys[j]? = some y → ∃ z, r[j]? = some z ∧ y = .str z) : ys = r.map V.str := by
  refine List.ext_getElem? fun j => ?_
  cases q : ys[j]? with
  | none =>
    have : ys.length ≤ j := List.getElem?_eq_none_iff.mp q
    symm
    rw [List.getElem?_eq_none_iff, List.length_map]
    omega
  | some y =>
    obtain ⟨z, hz, rfl⟩ := h j y q
    rw [List.getElem?_map, hz]
    rfl
section
variable {P : Program} {w : World} {K : PySem.W.Frag} {mg : Str → Option Value} {base : Heap} {CM CL CA CS CF CE CT mw : Addr} {tL tN : Tok}
/-! ### show_plan -/
/-- a list or tuple -/
def SeqV (K : PySem.W.Frag) (H : Hp) (v : V) (xs : List V) : Prop := ∃ a, v = .ref a ∧ (SqL K H a xs ∨ SqT K H a xs)
/-- a text, or a move with this text -/
def TextOf (cl : Str → Addr) (H : Hp) (v : V) (z : Str) : Prop := v = .str z ∨ ∃ a m, v = .ref a ∧ MoveAt cl H a m ∧ Good m ∧ z = textM m
def RowAt (cl : Str → Addr) (K : PySem.W.Frag) (H : Hp) (v : V) (ts : List Str) : Prop := ∃ xs, SeqV K H v xs ∧ Paired (TextOf cl H) xs ts
def spShow (cl : Str → Addr) (K : PySem.W.Frag) : Sp := fun vs H Q _ => ∃ (v : V) (xs : List V) (rows : List (List Str)), vs = [v] ∧ SeqV K H v xs ∧ Paired (RowAt cl K H) xs rows ∧ Fits rows ∧
  ∀ H', Ext H H' → Q (.str (planT rows)) H'
abbrev s_show_plan : Stmt := top 21
abbrev N_show_plan : List Str := ["plan", "lines", "moves", "texts", "move"]
theorem sc_show_plan : FnScope N_show_plan ["plan"] (defScope s_show_plan) := ⟨rfl, rfl, rfl, by decide +kernel, rfl, by decide +kernel, by decide +kernel⟩
theorem ok_show {f fs fe : Addr} {fd : FuncData} (F : Fun K "show_plan" "show_plan" s_show_plan f fd) (T : Tx K mg CM CL CA CS CF CE CT mw tL tN) (TC : ∀ wd ∈ W4, ClT K CM (clsOf CL CA CS CF wd) fs fe)
    (hfs : PySem.W.isFn K (.ref fs) = true) (c_str : FnR P w K mg base CX0 1 fs (spStr (clsOf CL CA CS CF))) :
    FnOk P w K mg base CX0 4 f fd ["plan"] (spShow (clsOf CL CA CS CF) K) := by
  refine F.ok sc_show_plan (fun vs H Q E h => ?_) (fun cdv A outer s H vs Q E hr h => ?_)
  · obtain ⟨v, xs, rows, rfl, _⟩ := h
    rfl
  · obtain ⟨v, xs, rows, rfl, ⟨a, rfl, hseq⟩, hrows, hsm, k⟩ := h
    refine ⟨_, (pss_cons (ps_set (i := 1) sc_show_plan.nd rfl (by first | exact Or.inl rfl | exact Or.inr rfl) (pe_lst pa_nil))
      (pss_cons (ps_for PassesOwn.never rfl (pi_seq (pv 0)) (pg_name (i := 2) sc_show_plan.nd rfl (by first | exact Or.inl rfl | exact Or.inr rfl))
      (pss_cons (ps_setLc (i := 3) (own := [("move", 4)]) rfl sc_show_plan.nd rfl rfl (sw_true rfl rfl rfl (by decide +kernel)) (pi_seq (pv 2)) (blkOk_by (own := [("move", 4)]) (N := N_show_plan) (sc := defScope s_show_plan) (by decide +kernel)) (fun _ _ _ _ _ => (pg_name (i := 4) sc_show_plan.nd rfl (by first | exact Or.inl rfl | exact Or.inr rfl))) (fun _ _ _ _ _ => pts_nil) (fun _ _ _ _ _ => (pe_callTy (CallR.or SkE.call_str_str (call_strOwnK (n := 1) hfs c_str hr rfl rfl rfl rfl rfl rfl pass0)) (by rfl) (T.bn _ (by decide +kernel)) (by decide +kernel) (pa_cons (pv 4) pa_nil))))
      (pss_one (ps_expr (pe_bm PySem.F.plainAttrs_list PySem.F.slot_list_append PySem.F.type_list_append mt_append (pv 1) (pa_cons (pe_ifExp (pt_cmpR (op_neNil hr) (pv 3) (pe_lst pa_nil) (nomark _)) (pe_join pe_str (pv 3)) pe_str) pa_nil))))))
      (pss_one (ps_ret (pe_join pe_str (pv 1)))))), ?_⟩
    refine ⟨(by show 0 ≤ sizeLine; decide), fun l hl => ?_⟩
    have hlen := Paired.len hrows
    have hE0 : Ext H (upd H l (.lst [])) := Ext.upd hl
    rcases hseq with hseq | hseq
    case' inl =>
      refine .inl ⟨_, rfl, a, rfl, ⟨_, hseq.ext hE0⟩, for_it (walk_list (xs := xs)) (fun i σ H' => ∃ x2 x3, σ = [some (.ref a), some (.ref l), x2, x3, none] ∧ H' l = some (.lst (((rows.take i).map rowT).map V.str)) ∧ Ext H H') ⟨_, _, rfl, upd_same, hE0⟩ (fun i σ H' _ ⟨_, _, _, _, e⟩ => hseq.ext e) ?_ ?_⟩
    case' inr =>
      refine .inr ⟨_, rfl, a, rfl, ⟨_, hseq.ext hE0⟩, for_it (walk_tup (xs := xs)) (fun i σ H' => ∃ x2 x3, σ = [some (.ref a), some (.ref l), x2, x3, none] ∧ H' l = some (.lst (((rows.take i).map rowT).map V.str)) ∧ Ext H H') ⟨_, _, rfl, upd_same, hE0⟩ (fun i σ H' _ ⟨_, _, _, _, e⟩ => hseq.ext e) ?_ ?_⟩
    all_goals first
      | (-- a turn
         rintro i x σ H1 _ hi ⟨x2, x3, rfl, hL, hE⟩ ⟨rfl, hx⟩
         obtain ⟨r, hr', ys, ⟨b, rfl, hys⟩, hps⟩ := Paired.at_ hrows hx
         have hplen := Paired.len hps
         have hrs := hsm.1 r (List.mem_of_getElem? hr')
         have hrl := wt_len 2 r (by decide)
         rcases hys with hys | hys
         case' inl =>
           refine .inl ⟨_, rfl, b, rfl, ⟨_, hys.ext hE⟩, fun D hD => lc_map (walk_list (xs := ys)) [D] (by simp) (fun H' => H' l = some (.lst (((rows.take i).map rowT).map V.str)) ∧ Ext H H') (fun j y _ => ∃ z, r[j]? = some z ∧ y = .str z) (by omega) (fun _ _ _ _ _ h => h)
             (fun H' o hh => ?_) ?_ (fun H' _ hh => hys.ext hh.2) ?_ ?_⟩
         case' inr =>
           refine .inr ⟨_, rfl, b, rfl, ⟨_, hys.ext hE⟩, fun D hD => lc_map (walk_tup (xs := ys)) [D] (by simp) (fun H' => H' l = some (.lst (((rows.take i).map rowT).map V.str)) ∧ Ext H H') (fun j y _ => ∃ z, r[j]? = some z ∧ y = .str z) (by omega) (fun _ _ _ _ _ h => h)
             (fun H' o hh => ?_) ?_ (fun H' _ hh => hys.ext hh.2) ?_ ?_⟩
         all_goals have nlD : l ≠ D := ne_of_none hL hD
         all_goals first
           | (refine ⟨by rw [upd_ne nlD]; exact hh.1, fun b' o' q => ?_⟩
              rw [upd_ne (ne_of_none (hE b' o' q) hD)]
              exact hh.2 b' o' q)
           | exact ⟨by rw [upd_ne nlD]; exact hL, hE.trans (Ext.upd hD)⟩
           | (rintro j x H2 _ acc C hj e hh hD2 ⟨rfl, hxj⟩ hC
              obtain ⟨z, hz, htx⟩ := Paired.at_ hps hxj
              refine ⟨rfl, _, rfl, ?_⟩
              rcases htx with rfl | ⟨a2, m, rfl, hm, hg, rfl⟩
              · exact .inl ⟨_, rfl, hC _ _ hD2 Ext.rfl' hh ⟨_, hz, rfl⟩⟩
              · obtain ⟨dx, hm'⟩ := id hm
                exact .inr ⟨a2, _, dx, _, rfl, hh.2 _ _ hm', (TC m.1 hg.1).st, a2, m, rfl, hm.mono hh.2, hg, _, rfl, hC _ _ hD2 Ext.rfl' hh ⟨_, hz, rfl⟩⟩)
           | (intro H2 ws e hh hD2 hlw hw
              have hws : ws = r.map V.str := list_of_get (by omega) hw
              subst hws
              refine ⟨_, rfl, .inl ⟨rfl, _, SqL.of hh.1⟩, _, rfl, (by show 0 ≤ sizeLine; decide), fun e2 he2 => ?_⟩
              have hD3 : (upd H2 e2 (.lst [])) D = some (.lst (r.map V.str)) := by rw [upd_ne (ne_of_none hD2 he2)]; exact hD2
              have hL3 : (upd H2 e2 (.lst [])) l = some (.lst (((rows.take i).map rowT).map V.str)) := by rw [upd_ne (ne_of_none hh.1 he2)]; exact hh.1
              refine ⟨D, e2, _, rfl, rfl, hD3, upd_same, _, rfl, ?_⟩
              have hlen3 : (((rows.take i).map rowT).map V.str).length < sizeLine := by
                rw [List.length_map, List.length_map]
                have := List.length_take_le i rows
                have h20 := wt_len 1 (rows.map rowT) (by decide)
                rw [List.length_map] at h20
                have h21 := hsm.2
                exact Nat.lt_of_le_of_lt (show _ ≤ 100000 by omega) (by decide)
              have fin : ∀ (H' : Hp), (upd (upd H2 e2 (.lst [])) l (.lst (((rows.take i).map rowT).map V.str ++ [.str (rowT r)]))) = H' → ∃ x2 x3, [some (V.ref a), some (V.ref l), some (V.ref b), some (V.ref D), none] = [some (V.ref a), some (V.ref l), x2, x3, none] ∧ H' l = some (.lst (((rows.take (i + 1)).map rowT).map V.str)) ∧ Ext H H' := by
                rintro H' rfl
                refine ⟨_, _, rfl, ?_, fun b' o' q => ?_⟩
                · rw [upd_same, map_take_succ rowT hr', List.map_append]
                  rfl
                · have h2 := hh.2 b' o' q
                  rw [upd_ne (ne_of_none q hl), upd_ne (ne_of_none h2 he2)]
                  exact h2
              cases r with
              | nil =>
                refine iteF ?_
                exact ⟨l, _, _, rfl, rfl, hL3, hlen3, fin _ rfl⟩
              | cons z0 r0 =>
                refine iteT ?_
                refine ⟨⟨_, rfl⟩, _, rfl, _, D, z0 :: r0, rfl, rfl, .inl (SqL.of hD3), ?_, l, _, _, rfl, rfl, hL3, hlen3, fin _ rfl⟩
                have h2 : (", " : Str).length = 2 := by decide +kernel
                rw [h2]
                exact Nat.le_trans hrs (by decide)))
      | (-- the end
         rintro σ H1 ⟨x2, x3, rfl, hL, hE⟩
         rw [hlen, List.take_length] at hL
         refine ⟨⟨_, rfl⟩, _, rfl, _, l, rows.map rowT, rfl, rfl, .inl (SqL.of hL), ?_, k H1 hE⟩
         have h2 : ("\n" : Str).length = 1 := by decide +kernel
         rw [h2]
         exact Nat.le_trans hsm.2 (by decide))
end
end K95
end
section
set_option Elab.async false
set_option autoImplicit false
set_option linter.all false
set_option maxRecDepth 100000
set_option maxHeartbeats 4000000
namespace K95
open PySem PySem.Spec PyProof.Rows L2 Ls
open C8 (pss_cut tCut)
open TL
/-- lists of words, new -/
def LinesAt (H : Hp) (l : Addr) (rows : List (List Str)) : Prop := ∃ xs, H l = some (.lst xs) ∧ Paired (fun v ws => ∃ a, v = V.ref a ∧ H a = some (.lst (ws.map V.str))) xs rows
def MovesAt (cl : Str → Addr) (H : Hp) (a : Addr) (ms : List (Str × Str)) : Prop := ∃ xs, H a = some (.lst xs) ∧ Paired (fun v m => ∃ b, v = V.ref b ∧ MoveAt cl H b m) xs ms
def PlanAt (cl : Str → Addr) (H : Hp) (a : Addr) (plan : List (List (Str × Str))) : Prop := ∃ xs, H a = some (.lst xs) ∧ Paired (fun v ms => ∃ b, v = V.ref b ∧ MovesAt cl H b ms) xs plan
theorem Paired.imp {α β : Type} {F G : α → β → Prop} (h : ∀ a b, F a b → G a b) : ∀ {l₁ : List α} {l₂ : List β}, Paired F l₁ l₂ → Paired G l₁ l₂
  | _, _, .nil => .nil
  | _, _, .cons r t => .cons (h _ _ r) (Paired.imp h t)
theorem MovesAt.mono {cl : Str → Addr} {H H' : Hp} {a : Addr} {ms : List (Str × Str)} (e : Ext H H') (h : MovesAt cl H a ms) : MovesAt cl H' a ms :=
  let ⟨xs, q, p⟩ := h; ⟨xs, e _ _ q, Paired.imp (fun _ _ ⟨b, e1, q1⟩ => ⟨b, e1, q1.mono e⟩) p⟩
theorem PlanAt.mono {cl : Str → Addr} {H H' : Hp} {a : Addr} {plan : List (List (Str × Str))} (e : Ext H H') (h : PlanAt cl H a plan) : PlanAt cl H' a plan :=
  let ⟨xs, q, p⟩ := h; ⟨xs, e _ _ q, Paired.imp (fun _ _ ⟨b, e1, q1⟩ => ⟨b, e1, q1.mono e⟩) p⟩
/-- the error BadText(i, j), from a heap that has grown -/
def BadT (CT : Addr) (i j : Int) (H : Hp) (E : XK) : Prop := ∀ dd H', Ext H H' → nw H H' dd = some (.xd [("word", .int j), ("line", .int i)]) → E (.ref CT) (some dd) H'
theorem BadT.ext {CT : Addr} {i j : Int} {H H1 : Hp} {E : XK} (h : BadT CT i j H E) (e : Ext H H1) : BadT CT i j H1 E := fun dd H' e' q => h dd H' (e.trans e') (nw_back e _ _ q)
theorem BadT.at {CT : Addr} {i j : Int} {H H1 : Hp} {E : XK} (h : BadT CT i j H E) (e : Ext H H1) {dd : Addr} (nd : H1 dd = none) : E (.ref CT) (some dd) (upd H1 dd (.xd [("word", .int j), ("line", .int i)])) :=
  h dd _ (e.trans (Ext.upd nd)) (by rw [nw_at (ext_free e nd)]; exact upd_same)
def SmT (d : PyData) : Prop := ∀ z, d = .str z → z.length ≤ 5000
section
variable {P : Program} {w : World} {K : PySem.W.Frag} {mg : Str → Option Value} {base : Heap} {CM CL CA CS CF CE CT mw : Addr} {tL tN : Tok}
/-! ### BadText.__init__ -/
abbrev s_BadText_init : Stmt := inClass (top 4) 0
abbrev N_BT : List Str := ["self", "line", "word"]
theorem sc_BadText_init : ScS N_BT N_BT (defScope s_BadText_init) := ⟨rfl, rfl, rfl, by decide +kernel, rfl, by decide +kernel, by decide +kernel, by decide +kernel⟩
theorem ok_BadText_init {f cda cc C : Addr} {fd : FuncData} (F : Ls.FunS K "__init__" "BadText.__init__" s_BadText_init f fd cda cc) (S : SupE P K mg C C cc cda) (no1 : PySem.W.findIn K (.ref C) "line" = some none) (no2 : PySem.W.findIn K (.ref C) "word" = some none) :
    FnOk P w K mg base CX0 1 f fd N_BT (spX C ["line", "word"]) := by
  obtain ⟨oc, od, kV, doc, pm, an, ct, osl, rfl, lk, hcd⟩ := F.ex
  refine fn_superE (N := N_BT) lk hcd sc_BadText_init rfl rfl rfl rfl rfl (fun vs H Q E h => ?_) (fun A outer s H vs Q E hr h => ?_) (fun _ => rfl) (fun _ => rfl) (fun _ => rfl) (fun _ => rfl) (fun _ => rfl)
  · obtain ⟨a, ys, rfl, hl, _⟩ := h
    simpa using hl
  · obtain ⟨a, ys, rfl, hl, ha, k⟩ := h
    obtain ⟨y, z, rfl⟩ : ∃ y z, ys = [y, z] := by
      match ys, hl with
      | [y, z], _ => exact ⟨y, z, rfl⟩
    refine ⟨a, C, C, [y, z], _, _, rfl, ha, S, pa_cons pe_str pa_nil, pss_cons (ps_ost (pv 0) (pv 1) rfl) (pss_one (ps_ost (pv 0) (pv 2) rfl)), ?_⟩
    refine ⟨(by show 1 ≤ 1000; decide), ha, _, rfl, _, rfl, a, C, rfl, S.oex, no1, .inl ⟨ha, fun dx n ne => ?_⟩⟩
    refine ⟨_, rfl, _, rfl, a, C, rfl, S.oex, no2, .inr ⟨dx, _, upd_same, by rw [upd_ne ne]; exact upd_same, (by show 1 ≤ 900; decide), ?_⟩⟩
    refine k dx _ n ne (by rw [upd_ne ne.symm]; exact upd_same) upd_same fun b h1 h2 => ?_
    rw [upd_ne h2, upd_ne h1, upd_ne h2]
/-! ### lines_of -/
def spLines (CT : Addr) : Sp := fun vs H Q E => ∃ (v : V) (d : PyData), vs = [v] ∧ TV H v d ∧ SmT d ∧ (∀ z, d = .str z → ∀ l H', Ext H H' → LinesAt (nw H H') l (linesOf z) → Q (.ref l) H') ∧ (isStrD d = false → BadT CT 0 0 H E)
abbrev s_lines_of : Stmt := top 18
abbrev N_lines_of : List Str := ["text", "line"]
theorem sc_lines_of : FnScope N_lines_of ["text"] (defScope s_lines_of) := ⟨rfl, rfl, rfl, by decide +kernel, rfl, by decide +kernel, by decide +kernel⟩
theorem ok_lines {f : Addr} {fd : FuncData} (F : Fun K "lines_of" "lines_of" s_lines_of f fd) (T : Tx K mg CM CL CA CS CF CE CT mw tL tN) (x_BadText : Xer P w K mg base CT "BadText" ["line", "word"]) : FnOk P w K mg base (L2.CX P w) 3 f fd ["text"] (spLines CT) := by
  refine F.okX sc_lines_of (fun vs H Q E h => ?_) (fun cdv A outer s H vs Q E hr h => ?_)
  · obtain ⟨v, d, rfl, _⟩ := h
    rfl
  · obtain ⟨v, d, rfl, hv, sm, k, ke⟩ := h
    refine ⟨_, (pss_cons (ps_if (pt_not (pt_val (pe_callB call_isi (by rfl) (T.bn _ (by decide +kernel)) (by decide +kernel) (pa_cons (pv 0) (pa_cons (pe_gty (T := "str") (by rfl) (T.bn _ (by decide +kernel)) (by decide +kernel)) pa_nil))))) (pss_one (ps_raise rfl tkC (pmk_err x_BadText (hr.mono (by decide)) (by rfl) (pa_cons pe_int (pa_cons pe_int pa_nil))))) pss_nil)
      (pss_one (ps_ret (pe_lc (own := [("line", 1)]) rfl sc_lines_of.nd (pi_list (pe_split (pv 0) pe_str)) (blkOk_by (own := [("line", 1)]) (N := N_lines_of) (sc := defScope s_lines_of) (by decide +kernel)) (fun _ _ _ _ _ => (pg_name (i := 1) sc_lines_of.nd rfl (by first | exact Or.inl rfl | exact Or.inr rfl))) (fun _ _ _ _ _ => pts_nil) (fun _ _ _ _ _ => (pe_split (pv 1) pe_str)))))), ?_⟩
    have h4 : sizeLine = 16777216 := sizeLine_eq
    refine ⟨_, rfl, _, _, _, _, isStrD d, rfl, .ty "str", tyX_of hv, kit_str d, _, rfl, ?_⟩
    cases hd : isStrD d with
    | false =>
      refine iteT ?_
      exact ⟨rfl, (by show 2 ≤ 1000; decide), fun dd nd => (ke hd).at Ext.rfl' nd⟩
    | true =>
      refine iteF ?_
      obtain ⟨z, rfl⟩ := strD hd
      cases tv_str hv
      have hz : z.length ≤ 5000 := sm z rfl
      refine ⟨_, rfl, ⟨_, rfl⟩, _, _, rfl, rfl, (by decide +kernel), by omega, fun l0 hl0 => ?_⟩
      generalize hw : Txt.split z "\n" = ls
      have hll : ls.length ≤ 5001 := by
        have h1 := split_wt (x := z) nl_tl nl_kd
        have h2 : ("\n" : Str).length = 1 := by decide +kernel
        rw [h2, hw] at h1
        have := wt_len 1 ls (by decide)
        omega
      have hlp : ∀ p ∈ ls, p.length ≤ 5000 := fun p hp => Nat.le_trans (split_sub (x := z) nl_tl nl_kd (by rw [hw]; exact hp)).1 hz
      refine ⟨l0, rfl, ⟨_, SqL.of upd_same⟩, fun D hD => ?_⟩
      have n0D : l0 ≠ D := ne_of_none upd_same hD
      have hE0 : Ext H (upd H l0 (.lst (ls.map V.str))) := Ext.upd hl0
      have hHD : H D = none := ext_free hE0 hD
      refine lc_map (walk_list (xs := ls.map V.str)) [D] (by simp) (fun H' => H' l0 = some (.lst (ls.map V.str)) ∧ Ext H H')
        (fun j y Hx => ∃ p a, ls[j]? = some p ∧ y = V.ref a ∧ H a = none ∧ Hx a = some (.lst ((Txt.split p " ").map V.str))) (by rw [List.length_map]; omega)
        (fun j y H1 H2 e ⟨ms, a, h1, h2, h3, h4⟩ => ⟨ms, a, h1, h2, h3, e _ _ h4⟩) (fun H' o hh => ⟨by rw [upd_ne n0D]; exact hh.1, fun b o' q => by rw [upd_ne (ne_of_none q hHD)]; exact hh.2 b o' q⟩)
        ⟨by rw [upd_ne n0D]; exact upd_same, hE0.trans (Ext.upd hD)⟩ (fun H' _ hh => SqL.of hh.1) ?_ ?_
      · rintro j x H2 _ acc C hj e hh hD2 ⟨rfl, hxj⟩ hC
        rw [List.getElem?_map] at hxj
        cases q : ls[j]? with
        | none => rw [q] at hxj; cases hxj
        | some p =>
          rw [q] at hxj
          have hx : x = .str p := (Option.some.inj hxj).symm
          subst hx
          have hpl := hlp p (List.mem_of_getElem? q)
          refine ⟨rfl, _, rfl, ⟨_, rfl⟩, _, _, rfl, rfl, (by decide +kernel), by omega, fun a ha => ?_⟩
          have naD : D ≠ a := ne_of_none hD2 ha
          have hHa : H a = none := ext_free hh.2 ha
          refine hC _ _ (by rw [upd_ne naD]; exact hD2) (hid_upd_new ha) ⟨by rw [upd_ne (ne_of_none hh.1 ha)]; exact hh.1, hh.2.trans (Ext.upd ha)⟩ ⟨p, a, q, rfl, hHa, ?_⟩
          rw [hid_at (by simpa using naD.symm)]
          exact upd_same
      · intro H2 ys e hh hD2 hl hy
        rw [List.length_map] at hl
        refine k z rfl D H2 hh.2 ⟨ys, by rw [nw_at hHD]; exact hD2, Paired.of_get (by unfold linesOf; rw [List.length_map, hw]; exact hl) fun i v ws h1 h2 => ?_⟩
        obtain ⟨p, a, g1, g2, g3, g4⟩ := hy i v h1
        unfold linesOf at h2
        rw [List.getElem?_map, hw, g1] at h2
        have : ws = Txt.split p " " := (Option.some.inj h2).symm
        subst this
        exact ⟨a, g2, by rw [nw_at g3]; exact (hid_some g4).2⟩
/-! ### need_words -/
def spNeed (K : PySem.W.Frag) (CT : Addr) : Sp := fun vs H Q E => ∃ (i : Int) (l : Addr) (xs : List V) (a b : Int), vs = [.int i, .ref l, .int a, .int b] ∧ SqL K H l xs ∧ a ≤ xs.length ∧ ((xs.length : Int) ≤ b → Q .non H) ∧ (b < (xs.length : Int) → BadT CT i b H E)
abbrev s_need_words : Stmt := top 19
abbrev N_need_words : List Str := ["at", "words", "least", "most"]
theorem sc_need_words : FnScope N_need_words ["at", "words", "least", "most"] (defScope s_need_words) := ⟨rfl, rfl, rfl, by decide +kernel, rfl, by decide +kernel, by decide +kernel⟩
theorem ok_need {f : Addr} {fd : FuncData} (F : Fun K "need_words" "need_words" s_need_words f fd) (T : Tx K mg CM CL CA CS CF CE CT mw tL tN) (x_BadText : Xer P w K mg base CT "BadText" ["line", "word"]) : FnOk P w K mg base (L2.CX P w) 3 f fd ["at", "words", "least", "most"] (spNeed K CT) := by
  refine F.okX sc_need_words (fun vs H Q E h => ?_) (fun cdv A outer s H vs Q E hr h => ?_)
  · obtain ⟨i, l, xs, a, b, rfl, _⟩ := h
    rfl
  · obtain ⟨i, l, xs, a, b, rfl, hl, ha, k, ke⟩ := h
    refine ⟨_, (pss_cons (ps_if (pt_cmpR op_lt (pe_callB call_len_seq (by rfl) (T.bn _ (by decide +kernel)) (by decide +kernel) (pa_cons (pv 1) pa_nil)) (pv 2) (nomark _)) (pss_one (ps_raise rfl tkC (pmk_err x_BadText (hr.mono (by decide)) (by rfl) (pa_cons (pv 0) (pa_cons (pe_callB call_len_seq (by rfl) (T.bn _ (by decide +kernel)) (by decide +kernel) (pa_cons (pv 1) pa_nil)) pa_nil))))) pss_nil)
      (pss_one (ps_if (pt_cmpR op_gt (pe_callB call_len_seq (by rfl) (T.bn _ (by decide +kernel)) (by decide +kernel) (pa_cons (pv 1) pa_nil)) (pv 3) (nomark _)) (pss_one (ps_raise rfl tkC (pmk_err x_BadText (hr.mono (by decide)) (by rfl) (pa_cons (pv 0) (pa_cons (pv 3) pa_nil))))) pss_nil))), ?_⟩
    refine ⟨_, rfl, l, _, rfl, .inl hl, _, rfl, _, _, rfl, rfl, _, rfl, ?_⟩
    refine iteNo (decide_eq_false (by omega)) ?_
    refine ⟨_, rfl, l, _, rfl, .inl hl, _, rfl, _, _, rfl, rfl, _, rfl, ?_⟩
    by_cases hb : (xs.length : Int) ≤ b
    · refine iteNo (decide_eq_false (by omega)) ?_
      exact k hb
    · refine iteYes (decide_eq_true (by omega)) ?_
      exact ⟨_, rfl, _, rfl, rfl, (by show 2 ≤ 1000; decide), fun dd nd => (ke (by omega)).at Ext.rfl' nd⟩
end
end K95
end
section
set_option Elab.async false
set_option autoImplicit false
set_option linter.all false
set_option maxRecDepth 100000
set_option maxHeartbeats 4000000
namespace K95
open PySem PySem.Spec PyProof.Rows L2 Ls
open C8 (pss_cut tCut)
open TL
theorem eqV_str (a b : Str) : eqV (.str a) (.str b) = decide (b = a) := by
  show (a == b) = _
  by_cases h : b = a
  · subst h
    simp
  · rw [decide_eq_false h]
    exact beq_eq_false_iff_ne.mpr fun e => h e.symm
theorem in_w4q {wd : Str} : inV (.str wd) (W4.map V.str) = decide (wd ∈ W4) := by
  show (eqV (.str "load") (.str wd) || (eqV (.str "again") (.str wd) || (eqV (.str "store") (.str wd) || (eqV (.str "forget") (.str wd) || false)))) = _
  rw [eqV_str, eqV_str, eqV_str, eqV_str]
  simp only [W4, List.mem_cons, List.not_mem_nil, or_false, Bool.decide_or, Bool.or_false]
theorem mapS {ws : List Str} {j : Nat} {p : Str} (h : ws[j]? = some p) : (ws.map V.str)[j]? = some (.str p) := by
  rw [List.getElem?_map, h]
  rfl
theorem drop_at {ws : List Str} {j : Nat} {p : Str} (h : ws[j]? = some p) : ws.drop j = p :: ws.drop (j + 1) := by
  obtain ⟨h1, h2⟩ := List.getElem?_eq_some_iff.mp h
  rw [List.drop_eq_getElem_cons h1, h2]
section
variable {P : Program} {w : World} {K : PySem.W.Frag} {mg : Str → Option Value} {base : Heap} {CM CL CA CS CF CE CT mw : Addr} {tL tN : Tok}
/-! ### read_row -/
/-- the words of a row -/
structure WsOk (ws : List Str) : Prop where
  ne : ws ≠ []
  ln : ws.length ≤ 6000
  sm : ∀ p ∈ ws, p.length ≤ 6000
def spRow (cl : Str → Addr) (CT : Addr) : Sp := fun vs H Q E => ∃ (i : Int) (l : Addr) (ws : List Str), vs = [.int i, .ref l] ∧ H l = some (.lst (ws.map V.str)) ∧ WsOk ws ∧
  (∀ ms, rowR ws = .inr ms → ∀ a H', Ext H H' → MovesAt cl (nw H H') a ms → Q (.ref a) H') ∧ ∀ j, rowR ws = .inl j → BadT CT i j H E
abbrev s_read_row : Stmt := top 24
abbrev N_read_row : List Str := ["at", "words", "moves", "index", "is_open", "name"]
theorem sc_read_row : FnScope N_read_row ["at", "words"] (defScope s_read_row) := ⟨rfl, rfl, rfl, by decide +kernel, rfl, by decide +kernel, by decide +kernel⟩
theorem ok_row {f : Addr} {fd : FuncData} (F : Fun K "read_row" "read_row" s_read_row f fd) (T : Tx K mg CM CL CA CS CF CE CT mw tL tN) (hmw : ∀ H : Hp, SqT K H mw (W4.map V.str)) (x_BadText : Xer P w K mg base CT "BadText" ["line", "word"])
    (c_is_name : Cal P w K mg base CX0 1 "is_name" spName) (c_need_words : Cal P w K mg base (L2.CX P w) 3 "need_words" (spNeed K CT)) (c_Move_read : Clm P w K mg base CX0 6 CM "read" (spRead (clsOf CL CA CS CF))) :
    FnOk P w K mg base (L2.CX P w) 7 f fd ["at", "words"] (spRow (clsOf CL CA CS CF) CT) := by
  refine F.okX sc_read_row (fun vs H Q E h => ?_) (fun cdv A outer s H vs Q E hr h => ?_)
  · obtain ⟨i, l, ws, rfl, _⟩ := h
    rfl
  · obtain ⟨i, l, ws, rfl, hL, hws, k, ke⟩ := h
    have h4 : sizeLine = 16777216 := sizeLine_eq
    refine ⟨_, (pss_cons (ps_if (pt_cmpR op_eq (pe_ix ix_list (pv 1) pe_int (fun _ _ => rfl)) pe_str (nomark _)) (pss_cons (ps_expr (pe_cal c_need_words (hr.mono (by decide)) (by rfl) passC (pa_cons (pv 0) (pa_cons (pv 1) (pa_cons pe_int (pa_cons pe_int pa_nil))))))
      (pss_one (ps_ret (pe_lst pa_nil)))) pss_nil)
      (pss_cons (ps_set (i := 2) sc_read_row.nd rfl (by first | exact Or.inl rfl | exact Or.inr rfl) (pe_lst pa_nil))
      (pss_cons (ps_set (i := 3) sc_read_row.nd rfl (by first | exact Or.inl rfl | exact Or.inr rfl) pe_int)
      (pss_cons (ps_set (i := 4) sc_read_row.nd rfl (by first | exact Or.inl rfl | exact Or.inr rfl) pe_bl)
      (pss_cons (ps_while (passes_of rfl) (pt_val (pv 4))
      (pss_cons (ps_if ((pw_or (pt_cmpR op_ge (pv 3) (pe_callB call_len_seq (by rfl) (T.bn _ (by decide +kernel)) (by decide +kernel) (pa_cons (pv 1) pa_nil)) (nomark _)) (pw_or1 (pt_cmpR op_notIn_seq (pe_ix ix_list (pv 1) (pv 3) (fun _ _ => rfl)) (pe_gref (by rfl) T.m_MOVE_WORDS) rfl)))).pt (pss_one (ps_raise rfl tkC (pmk_err x_BadText (hr.mono (by decide)) (by rfl) (pa_cons (pv 0) (pa_cons (pv 3) pa_nil))))) pss_nil)
      (pss_cons (ps_if (pt_cmpR op_eq (pe_op op_add (pv 3) pe_int) (pe_callB call_len_seq (by rfl) (T.bn _ (by decide +kernel)) (by decide +kernel) (pa_cons (pv 1) pa_nil)) (nomark _)) (pss_one (ps_raise rfl tkC (pmk_err x_BadText (hr.mono (by decide)) (by rfl) (pa_cons (pv 0) (pa_cons (pe_op op_add (pv 3) pe_int) pa_nil))))) pss_nil)
      (pss_cons (ps_set (i := 5) sc_read_row.nd rfl (by first | exact Or.inl rfl | exact Or.inr rfl) (pe_ix ix_list (pv 1) (pe_op op_add (pv 3) pe_int) (fun _ _ => rfl)))
      (pss_cons (ps_set (i := 4) sc_read_row.nd rfl (by first | exact Or.inl rfl | exact Or.inr rfl) (pe_cmpR op_eq (pe_slice sl_str (pv 5) (po_some (pe_un un_neg pe_int)) po_none) pe_str (nomark _)))
      (pss_cut (ps_if (pt_val (pv 4)) (pss_one (ps_set (i := 5) sc_read_row.nd rfl (by first | exact Or.inl rfl | exact Or.inr rfl) (pe_slice sl_str (pv 5) po_none (po_some (pe_un un_neg pe_int))))) pss_nil)
      (pss_cons (ps_if (pt_not (pt_val (pe_cal c_is_name (hr.mono (by decide)) (by rfl) pass0 (pa_cons (pv 5) pa_nil)))) (pss_one (ps_raise rfl tkC (pmk_err x_BadText (hr.mono (by decide)) (by rfl) (pa_cons (pv 0) (pa_cons (pe_op op_add (pv 3) pe_int) pa_nil))))) pss_nil)
      (pss_cons (ps_expr (pe_bm PySem.F.plainAttrs_list PySem.F.slot_list_append PySem.F.type_list_append mt_append (pv 2) (pa_cons (pe_clm c_Move_read (hr.mono (by decide)) (pe_gref (by rfl) T.m_Move) pass0 (pa_cons (pe_joined (.cons (pe_fmt (pe_ix ix_list (pv 1) (pv 3) (fun _ _ => rfl))) (.cons pe_str (.cons (pe_fmt (pv 5)) .nil)))) pa_nil)) pa_nil)))
      (pss_one (ps_aug (i := 3) sc_read_row.nd rfl (by first | exact Or.inl rfl | exact Or.inr rfl) pe_int ip_add))))))))))
      (pss_cons (ps_expr (pe_cal c_need_words (hr.mono (by decide)) (by rfl) passC (pa_cons (pv 0) (pa_cons (pv 1) (pa_cons (pv 3) (pa_cons (pv 3) pa_nil))))))
      (pss_one (ps_ret (pv 2))))))))), ?_⟩
    have hwl : (ws.map V.str).length = ws.length := List.length_map _
    obtain ⟨w0, hw0⟩ : ∃ w0, ws[0]? = some w0 := by
      cases ws with
      | nil => exact absurd rfl hws.ne
      | cons a r => exact ⟨a, rfl⟩
    have hhd : ws.head? = some w0 := by rw [List.head?_eq_getElem?, hw0]
    refine ⟨_, rfl, l, _, 0, .str w0, rfl, rfl, SqL.of hL, atI_nat (j := 0) (mapS hw0), rfl, _, rfl, ?_⟩
    by_cases hdash : w0 = "-"
    · subst hdash
      refine iteT ?_
      refine ⟨_, rfl, _, rfl, i, l, _, 1, 1, rfl, SqL.of hL, ?_, fun h1 => ?_, fun h1 => ?_⟩
      · rw [hwl]
        have := List.length_pos_iff.mpr hws.ne
        omega
      · refine ⟨(by show 0 ≤ sizeLine; decide), fun a ha => ?_⟩
        refine k [] ?_ a _ (Ext.upd ha) ⟨[], by rw [nw_at ha]; exact upd_same, .nil⟩
        unfold rowR
        rw [if_pos hhd, if_neg (by rw [hwl] at h1; omega)]
      · refine ke 1 ?_
        unfold rowR
        rw [if_pos hhd, if_pos (by rw [hwl] at h1; omega)]
    · refine iteNo (strNo hdash) ?_
      have hrow : rowR ws = scan 0 ws := by
        unfold rowR
        rw [if_neg (by rw [hhd]; exact fun e => hdash (Option.some.inj e))]
      refine ⟨(by show 0 ≤ sizeLine; decide), fun mv hmv => ?_⟩
      refine while_by (fun σ H' => ∃ (j : Nat) (b : Bool) (acc : List (Str × Str)) (x5 : Option V) (xs : List V), j ≤ ws.length ∧ acc.length ≤ j ∧ σ = [some (.int i), some (.ref l), some (.ref mv), some (.int (j : Nat)), some (.bl b), x5] ∧ Ext H H' ∧ H' mv = some (.lst xs) ∧
          Paired (fun v m => ∃ b, v = V.ref b ∧ MoveAt (clsOf CL CA CS CF) (nw H H') b m) xs acc ∧ rowR ws = pre acc (tail b j (ws.drop j)))
        (fun (σ : L2.St) _ => match σ[3]? with | some (some (V.int i)) => ((ws.length : Int) - i).toNat | _ => 0) ?_ ?_ ?_
      · refine ⟨0, true, [], none, [], Nat.zero_le _, Nat.le_refl _, rfl, Ext.upd hmv, upd_same, .nil, ?_⟩
        rw [pre_nil, hrow]
        rfl
      · rintro σ H1 ⟨j, b, acc, x5, xs, hj, hacc, rfl, hE, hM, hP, hR⟩
        refine ⟨_, rfl, _, rfl, ?_⟩
        have hL1 := hE _ _ hL
        cases b with
        | true =>
          refine iteT ?_
          have hR' : rowR ws = pre acc (scan j (ws.drop j)) := hR
          refine ⟨_, rfl, _, rfl, l, _, rfl, .inl (SqL.of hL1), _, _, rfl, rfl, _, rfl, ?_⟩
          by_cases hjl : j < ws.length
          case neg =>
            refine iteYes (decide_eq_true (by rw [hwl]; omega)) ?_
            refine ⟨_, rfl, _, rfl, rfl, (by show 2 ≤ 1000; decide), fun dd nd => (ke j ?_).at hE nd⟩
            rw [hR', List.drop_of_length_le (by omega), scan_nil]
            rfl
          obtain ⟨wd, hwd⟩ : ∃ wd, ws[j]? = some wd := ⟨_, List.getElem?_eq_getElem hjl⟩
          refine iteNo (decide_eq_false (by rw [hwl]; omega)) ?_
          refine ⟨_, rfl, _, rfl, l, _, _, _, rfl, rfl, SqL.of hL1, atI_nat (mapS hwd), mw, _, rfl, .inr (hmw H1), rfl, rfl, _, rfl, ?_⟩
          rw [in_w4q]
          by_cases hw4 : wd ∈ W4
          case neg =>
            refine iteYes (by rw [decide_eq_false hw4]; rfl) ?_
            refine ⟨_, rfl, _, rfl, rfl, (by show 2 ≤ 1000; decide), fun dd nd => (ke j ?_).at hE nd⟩
            rw [hR', drop_at hwd, scan_bad hw4]
            rfl
          refine iteNo (by rw [decide_eq_true hw4]; rfl) ?_
          refine ⟨_, rfl, _, _, rfl, rfl, _, rfl, l, _, rfl, .inl (SqL.of hL1), rfl, _, rfl, ?_⟩
          by_cases hj1 : j + 1 < ws.length
          case neg =>
            refine iteYes (decide_eq_true (by
              have : ((ws.map V.str).length : Int) = (j : Int) + 1 := by rw [hwl]; omega
              rw [this])) ?_
            refine ⟨_, rfl, _, rfl, _, _, rfl, rfl, rfl, (by show 2 ≤ 1000; decide), fun dd nd => (ke (j + 1) ?_).at hE nd⟩
            rw [hR', drop_at hwd, List.drop_of_length_le (by omega), scan_end hw4]
            rfl
          refine iteNo (decide_eq_false fun q => ?_) ?_
          · have q' := V.int.inj q
            rw [hwl] at q'
            omega
          obtain ⟨t, ht⟩ : ∃ t, ws[j + 1]? = some t := ⟨_, List.getElem?_eq_getElem hj1⟩
          have htl : t.length ≤ 6000 := hws.sm t (List.mem_of_getElem? ht)
          have hdr : ws.drop j = wd :: t :: ws.drop (j + 2) := by rw [drop_at hwd, drop_at ht]
          refine ⟨_, rfl, _, rfl, _, _, rfl, rfl, l, _, _, _, rfl, rfl, SqL.of hL1, atI_at (j := j + 1) (by omega) (mapS ht), ?_⟩
          refine ⟨_, rfl, 1, rfl, -1, rfl, t, rfl, by omega, rfl, ?_⟩
          refine ⟨fun σ' H' => σ' = [some (.int i), some (.ref l), some (.ref mv), some (.int (j : Nat)), some (.bl (lastC t)), some (.str (nameOfW t))] ∧ H' = H1, ?_, ?_⟩
          · refine ⟨_, rfl, _, rfl, ?_⟩
            show if lastC t = true then _ else _
            cases hlc : lastC t with
            | true =>
              refine iteT ?_
              refine ⟨_, rfl, 1, rfl, -1, rfl, t, rfl, by omega, ?_⟩
              have : nameOfW t = cutS t none (some (-1)) := if_pos hlc
              rw [this]
              exact ⟨by rw [← hlc]; rfl, rfl⟩
            | false =>
              refine iteF ?_
              have : nameOfW t = t := if_neg (by rw [hlc]; exact Bool.false_ne_true)
              rw [this]
              exact ⟨by rw [← hlc]; rfl, rfl⟩
          · rintro σ' H' ⟨rfl, rfl⟩
            generalize hn : nameOfW t = n
            have hnl : n.length ≤ 6000 := by
              rw [← hn]
              unfold nameOfW
              split
              · exact Nat.le_trans (cutS_length _ _ _) htl
              · exact htl
            refine ⟨_, rfl, n, rfl, by omega, fun H2 e2 => ⟨_, rfl, ?_⟩⟩
            cases hnm : isName n with
            | false =>
              refine iteT ?_
              refine ⟨_, rfl, _, rfl, _, _, rfl, rfl, rfl, (by show 2 ≤ 1000; decide), fun dd nd => (ke (j + 1) ?_).at (hE.trans e2) nd⟩
              rw [hR', hdr, scan_no hw4 (by rw [hn]; exact hnm)]
              rfl
            | true =>
              refine iteF ?_
              have hL2 := e2 _ _ hL1
              have hM2 := e2 _ _ hM
              have hgm : Good (wd, n) := ⟨hw4, hnm⟩
              have hn6 := (name_len hnm).2
              have hw6 := (name_len (w4_name hw4)).2
              refine ⟨_, rfl, .inl ⟨rfl, _, SqL.of hM2⟩, rfl, ?_⟩
              refine ⟨_, rfl, _, rfl, l, _, _, _, rfl, rfl, SqL.of hL2, atI_nat (mapS hwd), .inl ⟨wd, rfl, by omega, wd, rfl, ?_, " ", rfl, ?_, _, rfl, .inl ⟨n, rfl, by omega, n, rfl, ?_, ?_⟩⟩⟩
              · rw [Str.length_append]
                have : Str.empty.length = 0 := rfl
                omega
              · rw [Str.length_append, Str.length_append]
                have : Str.empty.length = 0 := rfl
                have h3 : (" " : Str).length = 1 := by decide +kernel
                omega
              · rw [Str.length_append, Str.length_append, Str.length_append]
                have : Str.empty.length = 0 := rfl
                have h3 : (" " : Str).length = 1 := by decide +kernel
                omega
              have et : Str.empty ++ wd ++ " " ++ n = textM (wd, n) := by
                unfold textM
                refine ext_tl ?_
                rw [tl_append, tl_append, tl_append, tl_append, tl_append]
                rfl
              refine ⟨_, (wd, n), by rw [et], hgm, fun b H3 e3 hb => ?_⟩
              have hM3 := e3 _ _ hM2
              have hxl : xs.length < sizeLine := by
                have := Paired.len hP
                have h9 := hws.ln
                omega
              refine ⟨mv, xs, _, rfl, rfl, hM3, hxl, ?_⟩
              refine ⟨_, rfl, _, _, rfl, rfl, ?_⟩
              have hHmv : H mv = none := hmv
              have keepM : ∀ {b' : Addr} {m' : Str × Str} {Hx : Hp}, MoveAt (clsOf CL CA CS CF) (nw H Hx) b' m' → Ext Hx H3 → MoveAt (clsOf CL CA CS CF) (nw H (upd H3 mv (.lst (xs ++ [.ref b])))) b' m' := fun {b' m' Hx} q ex => by
                obtain ⟨dx, q⟩ := q
                obtain ⟨q1, q2⟩ := nw_some q
                have q3 := ex _ _ q2
                refine ⟨dx, ?_⟩
                rw [nw_at q1, upd_ne (ne_of q3 hM3 (by intro z; cases z))]
                exact q3
              have hE2 : Ext H H2 := hE.trans e2
              refine ⟨⟨j + 2, lastC t, acc ++ [(wd, n)], some (.str n), xs ++ [.ref b], by omega, by rw [List.length_append]; simp; omega, rfl, ?_, upd_same, ?_, ?_⟩, ?_⟩
              · intro b' o q
                rw [upd_ne (ne_of_none q hHmv)]
                exact e3 b' o (hE2 b' o q)
              · refine Paired.snoc (Paired.imp (fun v' m' ⟨b', q1, q2⟩ => ⟨b', q1, keepM q2 (e2.trans e3)⟩) hP) ⟨b, rfl, keepM (hb.mono (nw_back hE2)) Ext.rfl'⟩
              · rw [hR', hdr, scan_go hw4 (by rw [hn]; exact hnm), pre_pre, hn]
              · show ((ws.length : Int) - ((j : Int) + 2)).toNat < ((ws.length : Int) - (j : Int)).toNat
                omega
        | false =>
          refine iteF ?_
          have hR' : rowR ws = pre acc (if (ws.drop j).isEmpty = true then .inr [] else .inl j) := hR
          refine ⟨_, rfl, _, rfl, _, rfl, _, rfl, _, l, _, _, _, rfl, SqL.of hL1, by rw [hwl]; omega, fun h1 => ?_, fun h1 => ?_⟩
          · refine ⟨_, rfl, k acc ?_ mv H1 hE ⟨xs, by rw [nw_at hmv]; exact hM, hP⟩⟩
            rw [hR', List.drop_of_length_le (by rw [hwl] at h1; omega)]
            show Sum.inr (acc ++ []) = _
            rw [List.append_nil]
          · refine (ke j ?_).ext hE
            rw [hR', if_neg]
            · rfl
            · rw [List.isEmpty_iff, List.drop_eq_nil_iff]
              rw [hwl] at h1
              omega
      · rintro σ H1 Q1 Q2 hq ⟨v1, h1, c1, h2, h3⟩
        exact ⟨v1, h1, c1, h2, hq _ _ h3⟩
end
end K95
end
section
set_option Elab.async false
set_option autoImplicit false
set_option linter.all false
set_option maxRecDepth 100000
set_option maxHeartbeats 4000000
namespace K95
open PySem PySem.Spec PyProof.Rows L2 Ls
open C8 (pss_cut tCut)
open TL
theorem Ext.free {H H' : Hp} (e : Ext H H') {a : Addr} (h : H' a = none) : H a = none := by
  cases q : H a with
  | none => rfl
  | some o => rw [e a o q] at h; cases h
theorem nw_hid2 {S : List Addr} {H H3 H4 : Hp} (e : Ext H H3) (h : ∀ b ∈ S, H3 b ≠ none) : Ext (nw H3 H4) (nw H (hid S H4)) := fun a o q => by
  obtain ⟨h1, h2⟩ := nw_some q
  rw [nw_at (Ext.free e h1), hid_at fun z => h a z h1]
  exact h2
section
variable {P : Program} {w : World} {K : PySem.W.Frag} {mg : Str → Option Value} {base : Heap} {CM CL CA CS CF CE CT mw : Addr} {tL tN : Tok}
/-! ### read_plan -/
def spRP (cl : Str → Addr) (CT : Addr) : Sp := fun vs H Q E => ∃ (v : V) (d : PyData), vs = [v] ∧ TV H v d ∧ SmT d ∧ (∀ plan, planD d = .inr plan → ∀ a H', Ext H H' → PlanAt cl (nw H H') a plan → Q (.ref a) H') ∧ ∀ e, planD d = .inl e → BadT CT e.1 e.2 H E
theorem ws_line {z p : Str} (hz : z.length ≤ 5000) (hp : p ∈ Txt.split z "\n") : WsOk (Txt.split p " ") := by
  have h1 : p.length ≤ 5000 := Nat.le_trans (split_sub (x := z) nl_tl nl_kd hp).1 hz
  refine ⟨split_ne Ls.sp_tl Ls.sp_kd, ?_, fun q hq => Nat.le_trans (split_sub (x := p) Ls.sp_tl Ls.sp_kd hq).1 (by omega)⟩
  have h2 := split_wt (x := p) Ls.sp_tl Ls.sp_kd
  have h3 : (" " : Str).length = 1 := by decide +kernel
  rw [h3] at h2
  have := wt_len 1 (Txt.split p " ") (by decide)
  omega
theorem lines_len {z : Str} (hz : z.length ≤ 5000) : (linesOf z).length ≤ 5001 := by
  unfold linesOf
  rw [List.length_map]
  have h2 := split_wt (x := z) nl_tl nl_kd
  have h3 : ("\n" : Str).length = 1 := by decide +kernel
  rw [h3] at h2
  have := wt_len 1 (Txt.split z "\n") (by decide)
  omega
theorem lines_ok {z : Str} (hz : z.length ≤ 5000) {j : Nat} {ws : List Str} (h : (linesOf z)[j]? = some ws) : WsOk ws := by
  unfold linesOf at h
  rw [List.getElem?_map] at h
  obtain ⟨p, q1, q2⟩ := Option.map_eq_some_iff.mp h
  rw [← q2]
  exact ws_line hz (List.mem_of_getElem? q1)
abbrev s_read_plan : Stmt := top 25
abbrev N_read_plan : List Str := ["text", "at", "words"]
theorem sc_read_plan : FnScope N_read_plan ["text"] (defScope s_read_plan) := ⟨rfl, rfl, rfl, by decide +kernel, rfl, by decide +kernel, by decide +kernel⟩
theorem ok_plan {f : Addr} {fd : FuncData} (F : Fun K "read_plan" "read_plan" s_read_plan f fd) (T : Tx K mg CM CL CA CS CF CE CT mw tL tN)
    (c_lines_of : Cal P w K mg base (L2.CX P w) 3 "lines_of" (spLines CT)) (c_read_row : Cal P w K mg base (L2.CX P w) 7 "read_row" (spRow (clsOf CL CA CS CF) CT)) :
    FnOk P w K mg base (L2.CX P w) 8 f fd ["text"] (spRP (clsOf CL CA CS CF) CT) := by
  refine F.okX sc_read_plan (fun vs H Q E h => ?_) (fun cdv A outer s H vs Q E hr h => ?_)
  · obtain ⟨v, d, rfl, _⟩ := h
    rfl
  · obtain ⟨v, d, rfl, hv, sm, k, ke⟩ := h
    refine ⟨_, (pss_one (ps_ret (pe_lcX (E := E) (own := [("at", 1), ("words", 2)]) (g := gTup K 2 (gCons (gName 1) (gCons (gName 2) gNil))) rfl rfl tkC rfl sc_read_plan.nd (pi_enum (by rfl) (T.bn _ (by decide +kernel)) (pa_cons (pe_cal c_lines_of (hr.mono (by decide)) (by rfl) passC (pa_cons (pv 0) pa_nil)) pa_nil)) (blkOk_by (own := [("at", 1), ("words", 2)]) (N := N_read_plan) (sc := defScope s_read_plan) (by decide +kernel)) (fun _ _ _ _ _ => (pg_tup rfl (pgs_cons (pg_name (i := 1) sc_read_plan.nd rfl (by first | exact Or.inl rfl | exact Or.inr rfl)) (pgs_cons (pg_name (i := 2) sc_read_plan.nd rfl (by first | exact Or.inl rfl | exact Or.inr rfl)) pgs_nil)))) (fun _ _ _ _ _ => pts_nil) (fun _ _ _ _ _ => (pe_cal c_read_row (hr.mono (by decide)) (by rfl) passB (pa_cons (pv 1) (pa_cons (pv 2) pa_nil))))))), ?_⟩
    refine ⟨_, rfl, v, d, rfl, hv, sm, fun z hd l H1 e1 hl => ?_, fun hs => ?_⟩
    rotate_left
    · have : planD d = .inl (0, 0) := by cases d <;> first | rfl | cases hs
      exact ke _ this
    subst hd
    have hz : z.length ≤ 5000 := sm z rfl
    obtain ⟨xs, hl1, hp⟩ := hl
    have hlen := Paired.len hp
    have hc := lines_len hz
    have hl2 : H1 l = some (.lst xs) := (nw_some hl1).2
    refine ⟨l, xs, rfl, SqL.of hl2, fun D hD => ?_⟩
    have nlD : l ≠ D := ne_of_none hl2 hD
    have hHD := Ext.free e1 hD
    cases hpl : planD (.str z) with
    | inr plan =>
      obtain ⟨p1, p2⟩ := plan_inr (show planGo 0 (linesOf z) = .inr plan from hpl)
      refine lc_map (walk_enum (xs := xs)) [D] (by simp) (fun H' => Ext H1 H')
        (fun j y Hx => ∃ ms b, plan[j]? = some ms ∧ y = V.ref b ∧ MovesAt (clsOf CL CA CS CF) (nw H Hx) b ms) (by omega)
        (fun j y H1 H2 e ⟨ms, b, h1, h2, h3⟩ => ⟨ms, b, h1, h2, h3.mono (nw_more e)⟩) (fun H' o hh b o' q => by rw [upd_ne (ne_of_none q hD)]; exact hh b o' q)
        (Ext.upd hD) (fun H' _ hh => SqL.of (hh _ _ hl2)) ?_ ?_
      · rintro j x H2 H3 acc C hj e hh hD2 ⟨Tp, x1, y1, rfl, hT, rfl, h1, h2⟩ hC
        cases h1
        obtain ⟨ws, hws, b, rfl, hb⟩ := Paired.at_ hp h2
        obtain ⟨ms, q, hrow⟩ := p2 j ws hws
        refine ⟨Tp, _, rfl, SqT.of upd_same, rfl, _, _, rfl, _, _, rfl, rfl, rfl, ?_⟩
        have eT : Ext H2 (upd H2 Tp (.tup [.int (j : Nat), .ref b])) := Ext.upd hT
        have hD3 := eT _ _ hD2
        have hE3 : Ext H (upd H2 Tp (.tup [.int (j : Nat), .ref b])) := (e1.trans hh).trans eT
        refine ⟨_, rfl, _, rfl, _, b, ws, rfl, eT _ _ (hh _ _ (nw_some hb).2), lines_ok hz hws, fun ms' hms' a H4 e4 hm => ?_, fun j' hj' => by rw [hrow] at hj'; cases hj'⟩
        rw [hrow] at hms'
        cases hms'
        refine hC _ _ (e4 _ _ hD3) (hid_mono (eT.trans e4)) ((hh.trans eT).trans e4) ⟨ms, a, q, rfl, hm.mono (nw_hid2 hE3 ?_)⟩
        intro b' hb' z
        rw [List.mem_singleton.mp hb', hD3] at z
        cases z
      · intro H2 ys e hh hD2 hl3 hy
        refine k plan hpl D H2 (e1.trans hh) ⟨ys, by rw [nw_at hHD]; exact hD2, Paired.of_get (by omega) fun i v ms g1 g2 => ?_⟩
        obtain ⟨ms', b, k1, k2, k3⟩ := hy i v g1
        rw [k1] at g2
        cases g2
        exact ⟨b, k2, k3.mono (nw_more hid_ext)⟩
    | inl er =>
      obtain ⟨k0, p0, ⟨ws0, p1, p2⟩, p3⟩ := plan_inl (show planGo 0 (linesOf z) = .inl er from hpl)
      have p0 : er.1 = k0 := by omega
      refine lc_it (walk_enum (xs := xs)) (fun j H' => j ≤ k0 ∧ Ext H1 H' ∧ ∃ ys : List V, H' D = some (.lst ys) ∧ ys.length ≤ j) ⟨Nat.zero_le _, Ext.upd hD, [], upd_same, Nat.le_refl _⟩ (fun j H' _ hh => SqL.of (hh.2.1 _ _ hl2)) ?_ ?_
      · rintro j x H2 H3 hj ⟨hjk, hh, ys, hD2, hyl⟩ ⟨Tp, x1, y1, rfl, hT, rfl, h1, h2⟩
        cases h1
        obtain ⟨ws, hws, b, rfl, hb⟩ := Paired.at_ hp h2
        have eT : Ext H2 (upd H2 Tp (.tup [.int (j : Nat), .ref b])) := Ext.upd hT
        have hE3 : Ext H (upd H2 Tp (.tup [.int (j : Nat), .ref b])) := (e1.trans hh).trans eT
        refine ⟨Tp, _, rfl, SqT.of upd_same, rfl, _, _, rfl, _, _, rfl, rfl, rfl, ?_⟩
        refine ⟨_, rfl, _, rfl, _, b, ws, rfl, eT _ _ (hh _ _ (nw_some hb).2), lines_ok hz hws, fun ms' hms' a H4 e4 hm => ?_, fun j' hj' => ?_⟩
        · have hlt : j < k0 := by
            rcases Nat.lt_or_ge j k0 with h | h
            · exact h
            · have : j = k0 := by omega
              subst this
              rw [hws] at p1
              cases p1
              rw [p2] at hms'
              cases hms'
          refine ⟨ys, e4 _ _ (eT _ _ hD2), Nat.lt_of_le_of_lt (show ys.length ≤ 5001 by omega) (by decide), hlt, ?_, ys ++ [.ref a], upd_same, by rw [List.length_append]; simp; omega⟩
          intro b' o q
          rw [upd_ne (ne_of_none q hD)]
          exact e4 _ _ (eT _ _ (hh _ _ q))
        · have : j = k0 := by
            rcases Nat.lt_or_ge j k0 with h | h
            · obtain ⟨ms, hms⟩ := p3 j ws h hws
              rw [hms] at hj'
              cases hj'
            · omega
          subst this
          rw [hws] at p1
          cases p1
          rw [p2] at hj'
          cases hj'
          have := (ke er hpl).ext hE3
          rw [p0] at this
          exact this
      · rintro H2 ⟨hjk, _⟩
        have := (List.getElem?_eq_some_iff.mp p1).1
        omega
/-! ### the pen made; a pick -/
def spPen (K : PySem.W.Frag) : Sp := fun vs H Q _ => ∃ (a : Addr) (ns : List Int), vs = [.ref a] ∧ SqL K H a (ns.map V.int) ∧ ns.length ≤ 1000 ∧ ∀ p c H', PenAt H' p c → Ext H H' → Q (.ref p) H'
abbrev s__law_pen : Stmt := top 27
abbrev N__law_pen : List Str := ["_law_script"]
theorem sc__law_pen : FnScope N__law_pen ["_law_script"] (defScope s__law_pen) := ⟨rfl, rfl, rfl, by decide +kernel, rfl, by decide +kernel, by decide +kernel⟩
theorem ok_pen {f : Addr} {fd : FuncData} (F : Fun K "_law_pen" "_law_pen" s__law_pen f fd) (T : Tx K mg CM CL CA CS CF CE CT mw tL tN) : FnOk P w K mg base CX0 1 f fd ["_law_script"] (spPen K) := by
  refine F.ok sc__law_pen (fun vs H Q E h => ?_) (fun cdv A outer s H vs Q E hr h => ?_)
  · obtain ⟨a, ns, rfl, _⟩ := h
    rfl
  · obtain ⟨a, ns, rfl, ha, hn, k⟩ := h
    refine ⟨_, (pss_one (ps_ret (pe_disp (pps_cons pe_str (pe_callTy call_list_of (by rfl) (T.bn _ (by decide +kernel)) (by decide +kernel) (pa_cons (pe_slice sl_list (pv 0) po_none (po_some pe_int)) pa_nil)) (pps_cons pe_str pe_int (pps_cons pe_str pe_int (pps_cons pe_str pe_int pps_nil)))) (by rfl) (by rfl) (fun z => by cases z) (by decide)))), ?_⟩
    intro p hp
    refine ⟨_, rfl, 60, rfl, a, _, rfl, ha.ext (Ext.upd hp), fun q hq => ?_⟩
    have npq : p ≠ q := ne_of_none upd_same hq
    refine ⟨q, _, rfl, .inl (SqL.of upd_same), fun c hc => ?_⟩
    have nqc : q ≠ c := ne_of_none upd_same hc
    have npc : p ≠ c := ne_of_none (by rw [upd_ne npq]; exact upd_same) hc
    refine ⟨by rw [upd_ne npc, upd_ne npq]; exact upd_same, [(kC, .ref c), (kR, .int 0), (kS, .int 29), (kN, .int 0)], rfl, by show 4 ≤ 15; decide, ?_⟩
    refine k p c _ ⟨_, (ns.drop (HT.sIx (ns.map V.int).length 0 none)).take (HT.sIx (ns.map V.int).length (ns.map V.int).length (some 60) - HT.sIx (ns.map V.int).length 0 none), 0, 29, 0, upd_same, ?_, ?_, by decide⟩ fun b o e => ?_
    · exact ⟨Nat.le_of_eq (by kernel_rfl), by kernel_rfl, by kernel_rfl, by kernel_rfl, by kernel_rfl⟩
    · rw [upd_ne npc.symm, upd_same, List.map_take, List.map_drop]
      rfl
    · have h1 : b ≠ p := ne_of_none e hp
      have h2 : b ≠ q := ne_of_none (show (upd H p (.dK [])) b = some o by rw [upd_ne h1]; exact e) hq
      have h3 := ne_of_none (show _ = some o by rw [upd_ne h2, upd_ne h1]; exact e) hc
      rw [upd_ne h1, upd_ne h3, upd_ne h2, upd_ne h1]
      exact e
theorem PenAt.upd {H : Hp} {p c a : Addr} {o : HO} (h : PenAt H p c) (np : p ≠ a) (nc : c ≠ a) : PenAt (upd H a o) p c := by
  obtain ⟨kvs, ns, r, sd, ct, h1, h2, h3, h4⟩ := h
  exact ⟨kvs, ns, r, sd, ct, by rw [upd_ne np]; exact h1, h2, by rw [upd_ne nc]; exact h3, h4⟩
theorem PenAt.ext {H H' : Hp} {p c : Addr} (h : PenAt H p c) (e : Ext H H') : PenAt H' p c := by
  obtain ⟨kvs, ns, r, sd, ct, h1, h2, h3, h4⟩ := h
  exact ⟨kvs, ns, r, sd, ct, e _ _ h1, h2, e _ _ h3, h4⟩
theorem PenAt.extN {H H' : Hp} {p c : Addr} (h : PenAt H p c) (e : LamX.ExtN H H') : PenAt H' p c := by
  obtain ⟨kvs, ns, r, sd, ct, h1, h2, h3, h4⟩ := h
  exact ⟨kvs, ns, r, sd, ct, e _ _ h1 (fun ps z => nomatch z), h2, e _ _ h3 (fun ps z => nomatch z), h4⟩
theorem PenAt.ne {H : Hp} {p c a : Addr} (h : PenAt H p c) (ha : H a = none) : p ≠ a ∧ c ≠ a := by
  obtain ⟨kvs, ns, r, sd, ct, h1, h2, h3, h4⟩ := h
  exact ⟨ne_of_none h1 ha, ne_of_none h3 ha⟩
theorem PenAt.tabs {T : List (Addr × Str)} {p c : Addr} {H H' : Hp} (h : PenAt H p c) (t : LamX.Tabs T H) (k : Keep p c H H') : LamX.Tabs T H' := fun q hq => by
  obtain ⟨kvs, ns, r, sd, ct, hp, _, hc, _⟩ := h
  obtain ⟨ps, h1, h2, h3⟩ := t q hq
  have n : ∀ {b : Addr} {o : HO}, H b = some o → (∀ zs, o ≠ .lst zs) → (∀ zs, o ≠ .dK zs) → H' b = some o := fun {b o} e n m => k b o e (fun z => by
      rw [z, hp] at e
      exact m kvs (Option.some.inj e).symm) fun z => by
      rw [z, hc] at e
      exact n _ (Option.some.inj e).symm
  refine ⟨ps, n h1 (fun zs z => by cases z) (fun zs z => by cases z), h2, fun pos cv hcv => ?_⟩
  obtain ⟨c', e1, e2⟩ := h3 pos cv hcv
  exact ⟨c', e1, n e2 (fun zs z => by unfold LamX.CodeO at z; cases z) (fun zs z => by unfold LamX.CodeO at z; cases z)⟩
def spPick (K : PySem.W.Frag) : Sp := fun vs H Q _ => ∃ (p c l : Addr) (xs : List V), vs = [.ref p, .ref l] ∧ PenAt H p c ∧ l ≠ p ∧ l ≠ c ∧ H l = some (.lst xs) ∧ 0 < xs.length ∧ xs.length ≤ 1000 ∧
  ∀ x H', x ∈ xs → PenAt H' p c → Keep p c H H' → Q x H'
abbrev s__law_pick : Stmt := top 29
abbrev N__law_pick : List Str := ["_law_pen_here", "_law_some"]
theorem sc__law_pick : FnScope N__law_pick ["_law_pen_here", "_law_some"] (defScope s__law_pick) := ⟨rfl, rfl, rfl, by decide +kernel, rfl, by decide +kernel, by decide +kernel⟩
theorem ok_pick {f : Addr} {fd : FuncData} (F : Fun K "_law_pick" "_law_pick" s__law_pick f fd) (T : Tx K mg CM CL CA CS CF CE CT mw tL tN) (c__law_draw : Cal P w K mg base CX0 1 "_law_draw" spDraw) : FnOk P w K mg base CX0 2 f fd ["_law_pen_here", "_law_some"] (spPick K) := by
  refine F.ok sc__law_pick (fun vs H Q E h => ?_) (fun cdv A outer s H vs Q E hr h => ?_)
  · obtain ⟨p, c, l, xs, rfl, _⟩ := h
    rfl
  · obtain ⟨p, c, l, xs, rfl, hp, n1, n2, hl, h0, h1, k⟩ := h
    refine ⟨_, (pss_one (ps_ret (pe_ix ix_list (pv 1) (pe_cal c__law_draw (hr.mono (by decide)) (by rfl) pass0 (pa_cons (pv 0) (pa_cons (pe_callB call_len_seq (by rfl) (T.bn _ (by decide +kernel)) (by decide +kernel) (pa_cons (pv 1) pa_nil)) pa_nil))) (fun _ _ => rfl)))), ?_⟩
    refine ⟨_, rfl, _, rfl, _, rfl, l, _, rfl, .inl (SqL.of hl), p, c, _, rfl, hp, by omega, by omega, fun j H1 j0 j1 hp1 kp => ?_⟩
    have hl1 := kp l _ hl n1 n2
    have hj : j.toNat < xs.length := by omega
    exact ⟨l, xs, j, xs[j.toNat], rfl, rfl, SqL.of hl1, atI_at (j := j.toNat) (by omega) (List.getElem?_eq_getElem hj), k _ H1 (List.getElem_mem hj) hp1 kp⟩
end
end K95
end
section
set_option Elab.async false
set_option autoImplicit false
set_option linter.all false
set_option maxRecDepth 100000
set_option maxHeartbeats 4000000
namespace K95
open PySem PySem.Spec PyProof.Rows L2 Ls
open C8 (pss_cut tCut)
open TL
theorem cut_all (t : Str) : cutS t none (some ((t.length : Int) - 0)) = t := by
  refine ext_tl ?_
  have hl : t.length = (tl t).length := len_tl t
  have e : HT.sIx t.length t.length (some ((t.length : Int) - 0)) = t.length := by
    show (if (t.length : Int) - 0 < 0 then (((t.length : Int) - 0) + (t.length : Int)).toNat else min ((t.length : Int) - 0).toNat t.length) = _
    rw [if_neg (by omega)]
    omega
  rw [tl_cut, e, HT.sIx_none, List.drop_zero]
  exact List.take_of_length_le (by omega)
theorem cut_one {t : Str} (h : lastC t = true) : cutS t none (some ((t.length : Int) - 1)) = cutS t none (some (-1)) := by
  have h0 : 1 ≤ t.length := by
    have e := congrArg Str.length (comma_back h)
    rw [Str.length_append] at e
    have : ("," : Str).length = 1 := by decide +kernel
    omega
  refine ext_tl ?_
  have e : HT.sIx t.length t.length (some ((t.length : Int) - 1)) = t.length - 1 := by
    show (if (t.length : Int) - 1 < 0 then (((t.length : Int) - 1) + (t.length : Int)).toNat else min ((t.length : Int) - 1).toNat t.length) = _
    rw [if_neg (by omega)]
    omega
  rw [tl_cut, tl_cut, e, sIx_last _ h0]
section
variable {P : Program} {w : World} {K : PySem.W.Frag} {mg : Str → Option Value} {base : Heap} {CM CL CA CS CF CE CT mw : Addr} {tL tN : Tok}
/-! ### _law_is_name -/
def spLIs : Sp := fun vs H Q _ => ∃ z : Str, vs = [.str z] ∧ z.length ≤ 100000 ∧ ∀ H', Ext H H' → Q (.bl (isName z)) H'
abbrev s__law_is_name : Stmt := top 30
abbrev N__law_is_name : List Str := ["_law_word", "_law_letters", "_law_sign"]
theorem sc__law_is_name : FnScope N__law_is_name ["_law_word"] (defScope s__law_is_name) := ⟨rfl, rfl, rfl, by decide +kernel, rfl, by decide +kernel, by decide +kernel⟩
theorem ok_lis {f : Addr} {fd : FuncData} (F : Fun K "_law_is_name" "_law_is_name" s__law_is_name f fd) (T : Tx K mg CM CL CA CS CF CE CT mw tL tN) : FnOk P w K mg base CX0 1 f fd ["_law_word"] spLIs := by
  refine F.ok sc__law_is_name (fun vs H Q E h => ?_) (fun cdv A outer s H vs Q E hr h => ?_)
  · obtain ⟨z, rfl, _⟩ := h
    rfl
  · obtain ⟨z, rfl, hz, k⟩ := h
    refine ⟨_, (pss_cons (ps_set (i := 1) sc__law_is_name.nd rfl (by first | exact Or.inl rfl | exact Or.inr rfl) pe_str)
      (pss_one (ps_ret (pe_and (pe_chain op_le op_le pe_int (pe_callB call_len_str (by rfl) (T.bn _ (by decide +kernel)) (by decide +kernel) (pa_cons (pv 0) pa_nil)) pe_int) (pe_one (pe_cmpR (op_eqNil hr) (pe_lc (own := [("_law_sign", 2)]) rfl sc__law_is_name.nd (pi_str (pv 0)) (blkOk_by (own := [("_law_sign", 2)]) (N := N__law_is_name) (sc := defScope s__law_is_name) (by decide +kernel)) (fun _ _ _ _ _ => (pg_name (i := 2) sc__law_is_name.nd rfl (by first | exact Or.inl rfl | exact Or.inr rfl))) (fun _ _ _ _ _ => pts_one (pt_cmpR op_notIn_sign (pv 2) (pv 1) rfl)) (fun _ _ _ _ _ => (pv 2))) (pe_lst pa_nil) (nomark _))))))), ?_⟩
    have hzl : z.length ≤ sizeLine := Nat.le_trans hz (by decide)
    refine ⟨_, rfl, z, rfl, hzl, _, _, rfl, rfl, ?_⟩
    by_cases h1 : 1 ≤ z.length
    · refine ⟨true, by simp; omega, ?_⟩
      refine iteT ?_
      refine ⟨_, _, rfl, rfl, ?_⟩
      by_cases h6 : z.length ≤ 6
      · refine ⟨true, by simp; omega, ?_⟩
        refine iteT ?_
        refine ⟨_, rfl, z, rfl, fun D hD => ?_⟩
        refine lc_it walk_str (fun i Hx => ∃ ys : List V, Hx = upd H D (.lst ys) ∧ ys.length ≤ i ∧ ys.isEmpty = ((tl z).take i).all fun c => decide (c ∈ tl lettersS)) ⟨[], rfl, Nat.le_refl _, by simp⟩ (fun _ _ _ _ => trivial) ?_ ?_
        · rintro i x Hx H' hi ⟨ys, rfl, hl, he⟩ ⟨rfl, c, hc, rfl⟩
          have hc' : (tl z)[i]? = some c := by rw [← hc]; simp [tl]
          have hz6 : i < 6 := by have : z.length = z.cps.size := rfl; omega
          have et : ((tl z).take (i + 1)).all (fun c => decide (c ∈ tl lettersS)) = (((tl z).take i).all (fun c => decide (c ∈ tl lettersS)) && decide (c ∈ tl lettersS)) := by
            rw [List.take_add_one, hc', List.all_append]
            simp
          refine ⟨rfl, _, rfl, _, rfl, c, _, rfl, rfl, _, rfl, ?_⟩
          by_cases hm : c ∈ tl lettersS
          · refine iteNo (by show (!decide (c ∈ tl lettersS)) = false; rw [decide_eq_true hm]; rfl) ?_
            exact ⟨ys, rfl, by omega, by rw [et, ← he, decide_eq_true hm, Bool.and_true]⟩
          · refine iteYes (by show (!decide (c ∈ tl lettersS)) = true; rw [decide_eq_false hm]; rfl) ?_
            refine ⟨_, rfl, ys, upd_same, Nat.lt_of_le_of_lt (show ys.length ≤ 6 by omega) (by decide), ys ++ [.str ⟨#[c]⟩], by rw [upd_upd], by rw [List.length_append]; simp; omega, ?_⟩
            rw [et, decide_eq_false hm, Bool.and_false]
            simp
        · rintro Hx ⟨ys, rfl, hl, he⟩
          have en : isName z = ys.isEmpty := by
            have hz' : z.cps.size = (tl z).length := by simp [tl]
            unfold isName
            rw [decide_eq_true h1, decide_eq_true h6, Bool.true_and, Bool.true_and, he, hz', List.take_length]
          refine ⟨(by show 0 ≤ sizeLine; decide), fun l hl => ⟨D, l, ys, rfl, rfl, ?_, upd_same, ?_⟩⟩
          · rw [upd_ne (ne_of_none upd_same hl)]
            exact upd_same
          · rw [← en]
            exact k _ ((Ext.upd hD).trans (Ext.upd hl))
      · refine ⟨false, by simp; omega, ?_⟩
        refine iteF ?_
        have e1 : isName z = false := by unfold isName; rw [decide_eq_false h6, Bool.false_and, Bool.and_false]
        have := k H Ext.rfl'
        rw [e1] at this
        exact this
    · refine ⟨false, by simp; omega, ?_⟩
      refine iteF ?_
      refine ⟨false, rfl, ?_⟩
      refine iteF ?_
      have e1 : isName z = false := by unfold isName; rw [decide_eq_false h1, Bool.false_and]
      have := k H Ext.rfl'
      rw [e1] at this
      exact this
/-! ### _law_row_fault -/
def spRF : Sp := fun vs H Q _ => ∃ (l : Addr) (ws : List Str), vs = [.ref l] ∧ H l = some (.lst (ws.map V.str)) ∧ WsOk ws ∧ (∀ j : Nat, rowR ws = .inl j → ∀ H', Ext H H' → Q (.int j) H') ∧ ∀ ms, rowR ws = .inr ms → ∀ H', Ext H H' → Q .non H'
abbrev s__law_row_fault : Stmt := top 32
abbrev N__law_row_fault : List Str := ["_law_words", "_law_at", "_law_more", "_law_title"]
theorem sc__law_row_fault : FnScope N__law_row_fault ["_law_words"] (defScope s__law_row_fault) := ⟨rfl, rfl, rfl, by decide +kernel, rfl, by decide +kernel, by decide +kernel⟩
theorem ok_rf {f : Addr} {fd : FuncData} (F : Fun K "_law_row_fault" "_law_row_fault" s__law_row_fault f fd) (T : Tx K mg CM CL CA CS CF CE CT mw tL tN) (c__law_is_name : Cal P w K mg base CX0 1 "_law_is_name" spLIs) : FnOk P w K mg base CX0 2 f fd ["_law_words"] spRF := by
  refine F.ok sc__law_row_fault (fun vs H Q E h => ?_) (fun cdv A outer s H vs Q E hr h => ?_)
  · obtain ⟨l, ws, rfl, _⟩ := h
    rfl
  · obtain ⟨l, ws, rfl, hL, hws, ke, k⟩ := h
    have h4 : sizeLine = 16777216 := sizeLine_eq
    refine ⟨_, (pss_cons (ps_if (pt_cmpR op_eq (pe_ix ix_list (pv 0) pe_int (fun _ _ => rfl)) pe_str (nomark _)) (pss_one (ps_ret (pe_ifExp (pt_cmpR op_gt (pe_callB call_len_seq (by rfl) (T.bn _ (by decide +kernel)) (by decide +kernel) (pa_cons (pv 0) pa_nil)) pe_int (nomark _)) pe_int pe_non))) pss_nil)
      (pss_cons (ps_asg (pe_tup (pa_cons pe_int (pa_cons pe_bl pa_nil))) (pg_tup rfl (pgs_cons (pg_name (i := 1) sc__law_row_fault.nd rfl (by first | exact Or.inl rfl | exact Or.inr rfl)) (pgs_cons (pg_name (i := 2) sc__law_row_fault.nd rfl (by first | exact Or.inl rfl | exact Or.inr rfl)) pgs_nil))))
      (pss_cons (ps_while PassesOwn.never (pt_val (pv 2))
      (pss_cons (ps_if ((pw_or (pt_cmpR op_ge (pv 1) (pe_callB call_len_seq (by rfl) (T.bn _ (by decide +kernel)) (by decide +kernel) (pa_cons (pv 0) pa_nil)) (nomark _)) (pw_or1 (pt_cmpR op_notIn_seq (pe_ix ix_list (pv 0) (pv 1) (fun _ _ => rfl)) (pe_tup (pa_cons pe_str (pa_cons pe_str (pa_cons pe_str (pa_cons pe_str pa_nil))))) rfl)))).pt (pss_one (ps_ret (pv 1))) pss_nil)
      (pss_cons (ps_if (pt_cmpR op_ge (pe_op op_add (pv 1) pe_int) (pe_callB call_len_seq (by rfl) (T.bn _ (by decide +kernel)) (by decide +kernel) (pa_cons (pv 0) pa_nil)) (nomark _)) (pss_one (ps_ret (pe_op op_add (pv 1) pe_int))) pss_nil)
      (pss_cons (ps_set (i := 3) sc__law_row_fault.nd rfl (by first | exact Or.inl rfl | exact Or.inr rfl) (pe_ix ix_list (pv 0) (pe_op op_add (pv 1) pe_int) (fun _ _ => rfl)))
      (pss_cons (ps_set (i := 2) sc__law_row_fault.nd rfl (by first | exact Or.inl rfl | exact Or.inr rfl) (pe_cmpR op_eq (pe_slice sl_str (pv 3) (po_some (pe_un un_neg pe_int)) po_none) pe_str (nomark _)))
      (pss_cons (ps_if (pt_not (pt_val (pe_cal c__law_is_name (hr.mono (by decide)) (by rfl) pass0 (pa_cons (pe_slice sl_str (pv 3) po_none (po_some (pe_op op_sub (pe_callB call_len_str (by rfl) (T.bn _ (by decide +kernel)) (by decide +kernel) (pa_cons (pv 3) pa_nil)) (pe_callTy call_int1 (by rfl) (T.bn _ (by decide +kernel)) (by decide +kernel) (pa_cons (pv 2) pa_nil))))) pa_nil)))) (pss_one (ps_ret (pe_op op_add (pv 1) pe_int))) pss_nil)
      (pss_one (ps_set (i := 1) sc__law_row_fault.nd rfl (by first | exact Or.inl rfl | exact Or.inr rfl) (pe_op op_add (pv 1) pe_int)))))))))
      (pss_one (ps_ret (pe_ifExp (pt_cmpR op_lt (pv 1) (pe_callB call_len_seq (by rfl) (T.bn _ (by decide +kernel)) (by decide +kernel) (pa_cons (pv 0) pa_nil)) (nomark _)) (pv 1) pe_non)))))), ?_⟩
    have hwl : (ws.map V.str).length = ws.length := List.length_map _
    obtain ⟨w0, hw0⟩ : ∃ w0, ws[0]? = some w0 := by
      cases ws with
      | nil => exact absurd rfl hws.ne
      | cons a r => exact ⟨a, rfl⟩
    have hhd : ws.head? = some w0 := by rw [List.head?_eq_getElem?, hw0]
    refine ⟨_, rfl, l, _, 0, .str w0, rfl, rfl, SqL.of hL, atI_nat (j := 0) (mapS hw0), rfl, _, rfl, ?_⟩
    by_cases hdash : w0 = "-"
    · subst hdash
      refine iteT ?_
      refine ⟨_, rfl, l, _, rfl, .inl (SqL.of hL), _, _, rfl, rfl, _, rfl, ?_⟩
      by_cases h1 : 1 < ws.length
      · refine iteYes (decide_eq_true (by rw [hwl]; omega)) ?_
        refine ke 1 ?_ H Ext.rfl'
        unfold rowR
        rw [if_pos hhd, if_pos h1]
      · refine iteNo (decide_eq_false (by rw [hwl]; omega)) ?_
        refine k [] ?_ H Ext.rfl'
        unfold rowR
        rw [if_pos hhd, if_neg h1]
    · refine iteNo (strNo hdash) ?_
      have hrow : rowR ws = scan 0 ws := by
        unfold rowR
        rw [if_neg (by rw [hhd]; exact fun e => hdash (Option.some.inj e))]
      refine ⟨(by show 2 ≤ sizeLine; decide), fun t0 n0 => ⟨t0, _, rfl, SqT.of upd_same, rfl, _, _, rfl, _, _, rfl, rfl, ?_⟩⟩
      have e0 : Ext H (upd H t0 (.tup [.int 0, .bl true])) := Ext.upd n0
      generalize (upd H t0 (.tup [.int 0, .bl true])) = H0 at e0
      refine while_by (fun σ H' => ∃ (j : Nat) (b : Bool) (acc : List (Str × Str)) (x3 : Option V), j ≤ ws.length ∧ σ = [some (.ref l), some (.int (j : Nat)), some (.bl b), x3] ∧ Ext H H' ∧ rowR ws = pre acc (tail b j (ws.drop j)))
        (fun (σ : L2.St) _ => match σ[1]? with | some (some (V.int i)) => ((ws.length : Int) - i).toNat | _ => 0) ?_ ?_ ?_
      · refine ⟨0, true, [], none, Nat.zero_le _, rfl, e0, ?_⟩
        rw [pre_nil, hrow]
        rfl
      · rintro σ H1 ⟨j, b, acc, x3, hj, rfl, hE, hR⟩
        refine ⟨_, rfl, _, rfl, ?_⟩
        have hL1 := hE _ _ hL
        cases b with
        | true =>
          refine iteT ?_
          have hR' : rowR ws = pre acc (scan j (ws.drop j)) := hR
          refine ⟨_, rfl, _, rfl, l, _, rfl, .inl (SqL.of hL1), _, _, rfl, rfl, _, rfl, ?_⟩
          by_cases hjl : j < ws.length
          case neg =>
            refine iteYes (decide_eq_true (by rw [hwl]; omega)) ?_
            refine ⟨_, rfl, ke j ?_ H1 hE⟩
            rw [hR', List.drop_of_length_le (by omega), scan_nil]
            rfl
          obtain ⟨wd, hwd⟩ : ∃ wd, ws[j]? = some wd := ⟨_, List.getElem?_eq_getElem hjl⟩
          refine iteNo (decide_eq_false (by rw [hwl]; omega)) ?_
          refine ⟨_, rfl, _, rfl, l, _, _, _, rfl, rfl, SqL.of hL1, atI_nat (mapS hwd), (by show 4 ≤ sizeLine; decide), fun t4 n4 => ?_⟩
          refine ⟨t4, _, rfl, .inr (SqT.of upd_same), rfl, rfl, _, rfl, ?_⟩
          have e4 : Ext H1 (upd H1 t4 (.tup [.str "load", .str "again", .str "store", .str "forget"])) := Ext.upd n4
          generalize (upd H1 t4 (.tup [.str "load", .str "again", .str "store", .str "forget"])) = H2 at e4
          rw [show inV (.str wd) ([.str "load", .str "again", .str "store", .str "forget"] : List V) = decide (wd ∈ W4) from in_w4q]
          have hE2 := hE.trans e4
          have hL2 := hE2 _ _ hL
          by_cases hw4 : wd ∈ W4
          case neg =>
            refine iteYes (by rw [decide_eq_false hw4]; rfl) ?_
            refine ⟨_, rfl, ke j ?_ H2 hE2⟩
            rw [hR', drop_at hwd, scan_bad hw4]
            rfl
          refine iteNo (by rw [decide_eq_true hw4]; rfl) ?_
          refine ⟨_, rfl, _, _, rfl, rfl, _, rfl, l, _, rfl, .inl (SqL.of hL2), _, _, rfl, rfl, _, rfl, ?_⟩
          by_cases hj1 : j + 1 < ws.length
          case neg =>
            refine iteYes (decide_eq_true (by rw [hwl]; omega)) ?_
            refine ⟨_, rfl, _, _, rfl, rfl, ?_⟩
            refine ke (j + 1) ?_ H2 hE2
            rw [hR', drop_at hwd, List.drop_of_length_le (by omega), scan_end hw4]
            rfl
          refine iteNo (decide_eq_false (by rw [hwl]; omega)) ?_
          obtain ⟨t, ht⟩ : ∃ t, ws[j + 1]? = some t := ⟨_, List.getElem?_eq_getElem hj1⟩
          have htl : t.length ≤ 6000 := hws.sm t (List.mem_of_getElem? ht)
          have hdr : ws.drop j = wd :: t :: ws.drop (j + 2) := by rw [drop_at hwd, drop_at ht]
          refine ⟨_, rfl, _, rfl, _, _, rfl, rfl, l, _, _, _, rfl, rfl, SqL.of hL2, atI_at (j := j + 1) (by omega) (mapS ht), ?_⟩
          refine ⟨_, rfl, 1, rfl, -1, rfl, t, rfl, by omega, rfl, ?_⟩
          refine ⟨_, rfl, _, rfl, t, rfl, by omega, _, rfl, .inr ⟨lastC t, rfl, _, _, rfl, rfl, _, rfl, t, rfl, by omega, ?_⟩⟩
          have en : cutS t none (some ((t.length : Int) - (if lastC t = true then 1 else 0))) = nameOfW t := by
            unfold nameOfW
            cases hlc : lastC t with
            | true => rw [if_pos rfl, if_pos rfl, cut_one hlc]
            | false => rw [if_neg Bool.false_ne_true, if_neg Bool.false_ne_true, cut_all]
          rw [en]
          generalize hn : nameOfW t = n
          have hnl : n.length ≤ 6000 := by
            rw [← hn]
            unfold nameOfW
            split
            · exact Nat.le_trans (cutS_length _ _ _) htl
            · exact htl
          refine ⟨n, rfl, by omega, fun H3 e3 => ⟨_, rfl, ?_⟩⟩
          have hE3 := hE2.trans e3
          cases hnm : isName n with
          | false =>
            refine iteT ?_
            refine ⟨_, rfl, _, _, rfl, rfl, ke (j + 1) ?_ H3 hE3⟩
            rw [hR', hdr, scan_no hw4 (by rw [hn]; exact hnm)]
            rfl
          | true =>
            refine iteF ?_
            refine ⟨_, rfl, _, _, rfl, rfl, ⟨j + 2, lastC t, acc ++ [(wd, n)], some (.str t), by omega, rfl, hE3, ?_⟩, ?_⟩
            · rw [hR', hdr, scan_go hw4 (by rw [hn]; exact hnm), pre_pre, hn]
            · show ((ws.length : Int) - ((j : Int) + 2)).toNat < ((ws.length : Int) - (j : Int)).toNat
              omega
        | false =>
          refine iteF ?_
          have hR' : rowR ws = pre acc (if (ws.drop j).isEmpty = true then .inr [] else .inl j) := hR
          refine ⟨_, rfl, _, rfl, l, _, rfl, .inl (SqL.of hL1), _, _, rfl, rfl, _, rfl, ?_⟩
          by_cases h1 : j < ws.length
          · refine iteYes (decide_eq_true (by rw [hwl]; omega)) ?_
            refine ⟨_, rfl, ke j ?_ H1 hE⟩
            rw [hR', if_neg]
            · rfl
            · rw [List.isEmpty_iff, List.drop_eq_nil_iff]
              omega
          · refine iteNo (decide_eq_false (by rw [hwl]; omega)) ?_
            refine k (acc ++ []) ?_ H1 hE
            rw [hR', List.drop_of_length_le (by omega)]
            rfl
      · rintro σ H1 Q1 Q2 hq ⟨v1, h1, c1, h2, h3⟩
        exact ⟨v1, h1, c1, h2, hq _ _ h3⟩
end
end K95
end
section
set_option Elab.async false
set_option autoImplicit false
set_option linter.all false
set_option maxRecDepth 100000
set_option maxHeartbeats 4000000
namespace K95
open PySem PySem.Spec PyProof.Rows L2 Ls
open C8 (pss_cut tCut)
open TL
theorem sIx_pos {n d : Nat} {i : Int} (h : 0 ≤ i) : HT.sIx n d (some i) = min i.toNat n := by
  show (if i < 0 then (i + (n : Int)).toNat else min i.toNat n) = _
  rw [if_neg (by omega)]
theorem cutV_to (xs : List V) {i : Int} (h : 0 ≤ i) : cutV xs none (some i) = xs.take i.toNat := by
  unfold cutV
  rw [sIx_pos h, HT.sIx_none, List.drop_zero, Nat.sub_zero]
  rcases Nat.le_total i.toNat xs.length with h1 | h1
  · rw [Nat.min_eq_left h1]
  · rw [Nat.min_eq_right h1, List.take_of_length_le (Nat.le_refl _), List.take_of_length_le h1]
theorem cutV_from (xs : List V) {i : Int} (h : 0 ≤ i) : cutV xs (some i) none = xs.drop i.toNat := by
  unfold cutV
  rw [sIx_pos h, HT.sIx_none]
  rcases Nat.le_total i.toNat xs.length with h1 | h1
  · rw [Nat.min_eq_left h1]
    exact List.take_of_length_le (by rw [List.length_drop]; omega)
  · rw [Nat.min_eq_right h1, List.drop_of_length_le (Nat.le_refl _), List.drop_of_length_le h1]
    simp
theorem cutM_to (ws : List Str) {i : Int} (h : 0 ≤ i) : cutV (ws.map V.str) none (some i) = (ws.take i.toNat).map V.str := by rw [cutV_to _ h, List.map_take]
theorem cutM_from (ws : List Str) {i : Int} (h : 0 ≤ i) : cutV (ws.map V.str) (some i) none = (ws.drop i.toNat).map V.str := by rw [cutV_from _ h, List.map_drop]
theorem map_catS (a b : List Str) : a.map V.str ++ b.map V.str = (a ++ b).map V.str := by rw [List.map_append]
theorem ixN_at {n : Nat} {i : Int} (h0 : 0 ≤ i) (h1 : i < n) : ixN n i = some i.toNat := by
  show (if 0 ≤ i then (if i < n then some i.toNat else none) else _) = _
  rw [if_pos h0, if_pos h1]
/-- texts of plain signs -/
def Pl (l : List Str) : Prop := ∀ p ∈ l, ∀ c ∈ tl p, c < 256
theorem Pl.append {a b : List Str} (h : Pl a) (k : Pl b) : Pl (a ++ b) := fun p hp => (List.mem_append.mp hp).elim (h p) (k p)
theorem Pl.take {a : List Str} (h : Pl a) (i : Nat) : Pl (a.take i) := fun p hp => h p (List.mem_of_mem_take hp)
theorem Pl.drop {a : List Str} (h : Pl a) (i : Nat) : Pl (a.drop i) := fun p hp => h p (List.mem_of_mem_drop hp)
theorem Pl.set {a : List Str} (h : Pl a) {x : Str} (hx : ∀ c ∈ tl x, c < 256) (i : Nat) : Pl (a.set i x) := fun p hp => (List.mem_or_eq_of_mem_set hp).elim (h p) fun e => by rw [e]; exact hx
theorem pl_split {z y : Str} {s n : Nat} (h : OkS n z) (ey : tl y = [s]) (hk : y.cps.all (· < 256) = true) : Pl (Txt.split z y) := fun p hp => (h.part ey hk hp).2
theorem nl_pl : ∀ c ∈ tl ("\n" : Str), c < 256 := by rw [nl_tl]; simp
theorem sp_pl : ∀ c ∈ tl (" " : Str), c < 256 := by rw [Ls.sp_tl]; simp
theorem nl_ln : ("\n" : Str).length = 1 := by decide +kernel
theorem sp_ln : (" " : Str).length = 1 := by decide +kernel
theorem ok_lit {n : Nat} {z : Str} (h : (decide (z.length ≤ n) && (tl z).all fun c => decide (c < 256)) = true) : OkS n z := by
  simp only [Bool.and_eq_true, decide_eq_true_eq, List.all_eq_true] at h
  exact h
section
variable {P : Program} {w : World} {K : PySem.W.Frag} {mg : Str → Option Value} {base : Heap} {CM CL CA CS CF CE CT mw : Addr} {tL tN : Tok}
/-! ### _law_fault -/
def spFault : Sp := fun vs H Q _ => ∃ (v : V) (d : PyData), vs = [v] ∧ TV H v d ∧ SmT d ∧ (∀ e, planD d = .inl e → ∀ t H', Ext H H' → nw H H' t = some (.tup [.int e.1, .int e.2]) → Q (.ref t) H') ∧ ∀ plan, planD d = .inr plan → ∀ H', Ext H H' → Q .non H'
abbrev s__law_fault : Stmt := top 33
abbrev N__law_fault : List Str := ["_law_thing", "_law_at", "_law_entry", "_law_fault_here"]
theorem sc__law_fault : FnScope N__law_fault ["_law_thing"] (defScope s__law_fault) := ⟨rfl, rfl, rfl, by decide +kernel, rfl, by decide +kernel, by decide +kernel⟩
theorem ok_fault {f : Addr} {fd : FuncData} (F : Fun K "_law_fault" "_law_fault" s__law_fault f fd) (T : Tx K mg CM CL CA CS CF CE CT mw tL tN) (c__law_row_fault : Cal P w K mg base CX0 2 "_law_row_fault" spRF) : FnOk P w K mg base CX0 3 f fd ["_law_thing"] spFault := by
  refine F.ok sc__law_fault (fun vs H Q E h => ?_) (fun cdv A outer s H vs Q E hr h => ?_)
  · obtain ⟨v, d, rfl, _⟩ := h
    rfl
  · obtain ⟨v, d, rfl, hv, sm, ke, k⟩ := h
    refine ⟨_, (pss_cons (ps_if (pt_not (pt_val (pe_callB call_isi (by rfl) (T.bn _ (by decide +kernel)) (by decide +kernel) (pa_cons (pv 0) (pa_cons (pe_gty (T := "str") (by rfl) (T.bn _ (by decide +kernel)) (by decide +kernel)) pa_nil))))) (pss_one (ps_ret (pe_tup (pa_cons pe_int (pa_cons pe_int pa_nil))))) pss_nil)
      (pss_cons (ps_for PassesOwn.never rfl (pi_enum (by rfl) (T.bn _ (by decide +kernel)) (pa_cons (pe_split (pv 0) pe_str) pa_nil)) (pg_tup rfl (pgs_cons (pg_name (i := 1) sc__law_fault.nd rfl (by first | exact Or.inl rfl | exact Or.inr rfl)) (pgs_cons (pg_name (i := 2) sc__law_fault.nd rfl (by first | exact Or.inl rfl | exact Or.inr rfl)) pgs_nil)))
      (pss_cons (ps_set (i := 3) sc__law_fault.nd rfl (by first | exact Or.inl rfl | exact Or.inr rfl) (pe_cal c__law_row_fault (hr.mono (by decide)) (by rfl) pass0 (pa_cons (pe_split (pv 2) pe_str) pa_nil)))
      (pss_one (ps_if (pt_cmpR op_notN (pv 3) pe_non (nomark _)) (pss_one (ps_ret (pe_tup (pa_cons (pv 1) (pa_cons (pv 3) pa_nil))))) pss_nil))))
      (pss_one (ps_ret pe_non)))), ?_⟩
    have h4 : sizeLine = 16777216 := sizeLine_eq
    refine ⟨_, rfl, _, _, _, _, isStrD d, rfl, .ty "str", tyX_of hv, kit_str d, _, rfl, ?_⟩
    cases hd : isStrD d with
    | false =>
      refine iteT ?_
      have : planD d = .inl (0, 0) := by cases d <;> first | rfl | cases hd
      exact ⟨(by show 2 ≤ sizeLine; decide), fun t ht => ke _ this t _ (Ext.upd ht) (by rw [nw_at ht]; exact upd_same)⟩
    | true =>
      refine iteF ?_
      obtain ⟨z, rfl⟩ := strD hd
      cases tv_str hv
      have hz : z.length ≤ 5000 := sm z rfl
      refine ⟨_, rfl, ⟨_, rfl⟩, _, _, rfl, rfl, (by decide +kernel), by omega, fun l0 hl0 => ?_⟩
      generalize hw : Txt.split z "\n" = ls
      have hrows : ∀ (j : Nat) (p : Str), ls[j]? = some p → (linesOf z)[j]? = some (Txt.split p " ") := fun j p q => by
        unfold linesOf
        rw [List.getElem?_map, hw, q]
        rfl
      have hlr : (linesOf z).length = ls.length := by
        unfold linesOf
        rw [List.length_map, hw]
      have hlp : ∀ p ∈ ls, p.length ≤ 5000 := fun p hp => Nat.le_trans (split_sub (x := z) nl_tl nl_kd (by rw [hw]; exact hp)).1 hz
      have e0 : Ext H (upd H l0 (.lst (ls.map V.str))) := Ext.upd hl0
      have f0 : (upd H l0 (.lst (ls.map V.str))) l0 = some (.lst (ls.map V.str)) := upd_same
      generalize (upd H l0 (.lst (ls.map V.str))) = H0 at e0 f0
      refine ⟨l0, _, rfl, SqL.of f0, for_it (walk_enum (xs := ls.map V.str)) (fun j σ H' => ∃ x1 x2 x3, σ = [some (.str z), x1, x2, x3] ∧ Ext H0 H' ∧ ∀ (i : Nat) ws, i < j → (linesOf z)[i]? = some ws → ∃ ms, rowR ws = .inr ms)
        ⟨_, _, _, rfl, Ext.rfl', fun i ws h => absurd h (by omega)⟩ (fun j σ H' _ ⟨_, _, _, _, e, _⟩ => SqL.of (e _ _ f0)) ?_ ?_⟩
      · rintro j x σ H1 _ hj ⟨x1, x2, x3, rfl, e1, ih⟩ ⟨Tq, y1, y2, rfl, nT, rfl, hy1, hy2⟩
        cases hy1
        have hy2 : (ls.map V.str)[j]? = some y2 := hy2
        rw [List.getElem?_map] at hy2
        obtain ⟨p, q1, rfl⟩ := Option.map_eq_some_iff.mp hy2
        have eT : Ext H1 (upd H1 Tq (.tup [.int (j : Nat), .str p])) := Ext.upd nT
        have uT : (upd H1 Tq (.tup [.int (j : Nat), .str p])) Tq = some (.tup [.int (j : Nat), .str p]) := upd_same
        generalize (upd H1 Tq (.tup [.int (j : Nat), .str p])) = H2 at eT uT
        refine ⟨Tq, _, rfl, SqT.of uT, rfl, _, _, rfl, _, _, rfl, rfl, ?_⟩
        have hpl := hlp p (List.mem_of_getElem? q1)
        refine ⟨_, rfl, ⟨_, rfl⟩, _, _, rfl, rfl, (by decide +kernel), by omega, fun a ha => ?_⟩
        have e3 : Ext H2 (upd H2 a (.lst ((Txt.split p " ").map V.str))) := Ext.upd ha
        have f3 : (upd H2 a (.lst ((Txt.split p " ").map V.str))) a = some (.lst ((Txt.split p " ").map V.str)) := upd_same
        generalize (upd H2 a (.lst ((Txt.split p " ").map V.str))) = H3 at e3 f3
        have e03 : Ext H0 H3 := e1.trans (eT.trans e3)
        have hok := lines_ok hz (hrows j p q1)
        refine ⟨a, _, rfl, f3, hok, fun i hi H4 e4 => ?_, fun ms hms H4 e4 => ?_⟩
        · refine ⟨_, rfl, rfl, _, rfl, ?_⟩
          refine iteYes (by rw [decide_eq_false (by intro z; cases z)]; rfl) ?_
          refine ⟨_, rfl, _, rfl, (by show 2 ≤ sizeLine; decide), fun t ht => ?_⟩
          have hpd : planD (.str z) = .inl (j, i) := by
            cases hpp : planD (.str z) with
            | inr plan =>
              obtain ⟨ms, _, g⟩ := (plan_inr (show planGo 0 (linesOf z) = .inr plan from hpp)).2 j _ (hrows j p q1)
              rw [hi] at g
              cases g
            | inl er =>
              obtain ⟨k0, p0, ⟨ws0, p1, p2⟩, p3⟩ := plan_inl (show planGo 0 (linesOf z) = .inl er from hpp)
              have hjk : j = k0 := by
                rcases Nat.lt_trichotomy j k0 with h | h | h
                · obtain ⟨ms, g⟩ := p3 j _ h (hrows j p q1)
                  rw [hi] at g
                  cases g
                · exact h
                · obtain ⟨ms, g⟩ := ih k0 ws0 h p1
                  rw [p2] at g
                  cases g
              subst hjk
              rw [hrows j p q1] at p1
              cases p1
              rw [hi] at p2
              have : er = (j, i) := Prod.ext (by omega) (Sum.inl.inj p2).symm
              rw [this]
          exact ke _ hpd t _ ((e0.trans (e03.trans e4)).trans (Ext.upd ht)) (by rw [nw_at (ext_free (e0.trans (e03.trans e4)) ht)]; exact upd_same)
        · refine ⟨_, rfl, rfl, _, rfl, ?_⟩
          refine iteNo (by rw [decide_eq_true rfl]; rfl) ?_
          refine ⟨_, _, _, rfl, e03.trans e4, fun i ws hi hg => ?_⟩
          by_cases h : i < j
          · exact ih i ws h hg
          · have : i = j := by omega
            subst this
            rw [hrows i p q1] at hg
            cases hg
            exact ⟨ms, hms⟩
      · rintro σ H1 ⟨x1, x2, x3, rfl, e1, ih⟩
        cases hpp : planD (.str z) with
        | inr plan => exact k plan hpp H1 (e0.trans e1)
        | inl er =>
          obtain ⟨k0, p0, ⟨ws0, p1, p2⟩, p3⟩ := plan_inl (show planGo 0 (linesOf z) = .inl er from hpp)
          have hk := (List.getElem?_eq_some_iff.mp p1).1
          obtain ⟨ms, g⟩ := ih k0 ws0 (by rw [List.length_map]; omega) p1
          rw [p2] at g
          cases g
end
end K95
end
section
set_option Elab.async false
set_option autoImplicit false
set_option linter.all false
set_option maxRecDepth 100000
set_option maxHeartbeats 4000000
namespace K95
open PySem PySem.Spec PyProof.Rows L2 Ls
open C8 (pss_cut tCut)
open TL
def Bnt (n : Nat) (z : Str) : Prop := OkS (4 * n + 40) z
section
variable {P : Program} {w : World} {K : PySem.W.Frag} {mg : Str → Option Value} {base : Heap} {CM CL CA CS CF CE CT mw : Addr} {tL tN : Tok}
/-! ### _law_bent -/
def spBent : Sp := fun vs H Q _ => ∃ (p c o : Addr) (n : Nat) (z : Str) (odds : List Str), vs = [.ref p, .str z, .ref o] ∧ PenAt H p c ∧ o ≠ p ∧ o ≠ c ∧ H o = some (.lst (odds.map V.str)) ∧ odds ≠ [] ∧ odds.length ≤ 100 ∧ (∀ x ∈ odds, OkS 10 x) ∧ OkS n z ∧ n ≤ 1000 ∧
  ∀ z' H', OkS (4 * n + 40) z' → PenAt H' p c → Keep p c H H' → Q (.str z') H'
abbrev s__law_bent : Stmt := top 31
abbrev N__law_bent : List Str := ["_law_pen_here", "_law_wording", "_law_odd", "_law_lines", "_law_way", "_law_at", "_law_words", "_law_spot", "_law_other", "_law_held", "_law_word", "_law_more", "_law_sign", "_law_cut"]
theorem sc__law_bent : FnScope N__law_bent ["_law_pen_here", "_law_wording", "_law_odd"] (defScope s__law_bent) := ⟨rfl, rfl, rfl, by decide +kernel, rfl, by decide +kernel, by decide +kernel⟩
theorem ok_bent {f : Addr} {fd : FuncData} (F : Fun K "_law_bent" "_law_bent" s__law_bent f fd) (T : Tx K mg CM CL CA CS CF CE CT mw tL tN) (c__law_draw : Cal P w K mg base CX0 1 "_law_draw" spDraw) (c__law_pick : Cal P w K mg base CX0 2 "_law_pick" (spPick K)) :
    FnOk P w K mg base CX0 3 f fd ["_law_pen_here", "_law_wording", "_law_odd"] spBent := by
  refine F.ok sc__law_bent (fun vs H Q E h => ?_) (fun cdv A outer s H vs Q E hr h => ?_)
  · obtain ⟨p, c, o, n, z, odds, rfl, _⟩ := h
    rfl
  · obtain ⟨p, c, o, n, z, odds, rfl, hp, nop, noc, ho, hod, hol, hox, hz, hn, k⟩ := h
    have h4 : sizeLine = 16777216 := sizeLine_eq
    have hz1 := hz.1
    refine ⟨_, (pss_cons (ps_par (i := 3) (j := 4) rfl sc__law_bent.nd rfl rfl (by decide) rfl rfl (pa_cons (pe_split (pv 1) pe_str) (pa_cons (pe_cal c__law_draw (hr.mono (by decide)) (by rfl) pass0 (pa_cons (pv 0) (pa_cons pe_int pa_nil))) pa_nil)) (by rfl))
      (pss_cons (ps_set (i := 5) sc__law_bent.nd rfl (by first | exact Or.inl rfl | exact Or.inr rfl) (pe_cal c__law_draw (hr.mono (by decide)) (by rfl) pass0 (pa_cons (pv 0) (pa_cons (pe_callB call_len_seq (by rfl) (T.bn _ (by decide +kernel)) (by decide +kernel) (pa_cons (pv 3) pa_nil)) pa_nil))))
      (pss_cons (ps_set (i := 6) sc__law_bent.nd rfl (by first | exact Or.inl rfl | exact Or.inr rfl) (pe_split (pe_ix ix_list (pv 3) (pv 5) (fun _ _ => rfl)) pe_str))
      (pss_cons (ps_set (i := 7) sc__law_bent.nd rfl (by first | exact Or.inl rfl | exact Or.inr rfl) (pe_cal c__law_draw (hr.mono (by decide)) (by rfl) pass0 (pa_cons (pv 0) (pa_cons (pe_callB call_len_seq (by rfl) (T.bn _ (by decide +kernel)) (by decide +kernel) (pa_cons (pv 6) pa_nil)) pa_nil))))
      (pss_cons (ps_if (pt_cmpR op_eq (pv 4) pe_int (nomark _)) (pss_one (ps_ret (pe_join pe_str (pe_op op_cat (pe_slice sl_list (pv 3) po_none (po_some (pv 5))) (pe_slice sl_list (pv 3) (po_some (pe_op op_add (pv 5) pe_int)) po_none))))) pss_nil)
      (pss_cons (ps_if (pt_cmpR op_eq (pv 4) pe_int (nomark _)) (pss_one (ps_ret (pe_join pe_str (pe_op op_cat (pe_slice sl_list (pv 3) po_none (po_some (pe_op op_add (pv 5) pe_int))) (pe_slice sl_list (pv 3) (po_some (pv 5)) po_none))))) pss_nil)
      (pss_cons (ps_if (pt_cmpR op_eq (pv 4) pe_int (nomark _)) (pss_cons (ps_set (i := 8) sc__law_bent.nd rfl (by first | exact Or.inl rfl | exact Or.inr rfl) (pe_cal c__law_draw (hr.mono (by decide)) (by rfl) pass0 (pa_cons (pv 0) (pa_cons (pe_callB call_len_seq (by rfl) (T.bn _ (by decide +kernel)) (by decide +kernel) (pa_cons (pv 3) pa_nil)) pa_nil))))
      (pss_cons (ps_set (i := 9) sc__law_bent.nd rfl (by first | exact Or.inl rfl | exact Or.inr rfl) (pe_ix ix_list (pv 3) (pv 5) (fun _ _ => rfl)))
      (pss_cons (ps_asg (pe_ix ix_list (pv 3) (pv 8) (fun _ _ => rfl)) (pg_sub (pv 3) (pv 5) set_list))
      (pss_cons (ps_asg (pv 9) (pg_sub (pv 3) (pv 8) set_list))
      (pss_one (ps_ret (pe_join pe_str (pv 3)))))))) pss_nil)
      (pss_cons (ps_if (pt_cmpR op_lt (pv 4) pe_int (nomark _)) (pss_cons (ps_set (i := 10) sc__law_bent.nd rfl (by first | exact Or.inl rfl | exact Or.inr rfl) (pe_cal c__law_pick (hr.mono (by decide)) (by rfl) pass0 (pa_cons (pv 0) (pa_cons (pv 2) pa_nil))))
      (pss_cons (ps_set (i := 11) sc__law_bent.nd rfl (by first | exact Or.inl rfl | exact Or.inr rfl) (pe_ix ix_list (pe_lst (pa_cons (pe_lst pa_nil) (pa_cons (pe_lst (pa_cons (pv 10) pa_nil)) (pa_cons (pe_lst (pa_cons (pv 10) (pa_cons (pe_ix ix_list (pv 6) (pv 7) (fun _ _ => rfl)) pa_nil))) (pa_cons (pe_lst (pa_cons (pe_ix ix_list (pv 6) (pv 7) (fun _ _ => rfl)) (pa_cons (pe_ix ix_list (pv 6) (pv 7) (fun _ _ => rfl)) pa_nil))) (pa_cons (pe_lst (pa_cons (pe_revS (pe_ix ix_list (pv 6) (pv 7) (fun _ _ => rfl))) pa_nil)) pa_nil)))))) (pe_op op_sub (pv 4) pe_int) (fun _ _ => rfl)))
      (pss_cons (ps_set (i := 6) sc__law_bent.nd rfl (by first | exact Or.inl rfl | exact Or.inr rfl) (pe_op op_cat (pe_op op_cat (pe_slice sl_list (pv 6) po_none (po_some (pv 7))) (pv 11)) (pe_slice sl_list (pv 6) (po_some (pe_op op_add (pv 7) pe_int)) po_none)))
      (pss_one (ps_ret (pe_join pe_str (pe_op op_cat (pe_op op_cat (pe_slice sl_list (pv 3) po_none (po_some (pv 5))) (pe_lst (pa_cons (pe_join pe_str (pv 6)) pa_nil))) (pe_slice sl_list (pv 3) (po_some (pe_op op_add (pv 5) pe_int)) po_none)))))))) pss_nil)
      (pss_cons (ps_set (i := 12) sc__law_bent.nd rfl (by first | exact Or.inl rfl | exact Or.inr rfl) (pe_cal c__law_pick (hr.mono (by decide)) (by rfl) pass0 (pa_cons (pv 0) (pa_cons (pe_lst (pa_cons pe_str (pa_cons pe_str (pa_cons pe_str (pa_cons pe_str (pa_cons pe_str (pa_cons pe_str (pa_cons pe_str pa_nil)))))))) pa_nil))))
      (pss_cons (ps_set (i := 13) sc__law_bent.nd rfl (by first | exact Or.inl rfl | exact Or.inr rfl) (pe_cal c__law_draw (hr.mono (by decide)) (by rfl) pass0 (pa_cons (pv 0) (pa_cons (pe_op op_add (pe_callB call_len_str (by rfl) (T.bn _ (by decide +kernel)) (by decide +kernel) (pa_cons (pv 1) pa_nil)) pe_int) pa_nil))))
      (pss_one (ps_ret (pe_op op_add_str (pe_op op_add_str (pe_slice sl_str (pv 1) po_none (po_some (pv 13))) (pv 12)) (pe_slice sl_str (pv 1) (po_some (pe_op op_sub (pe_op op_add (pv 13) pe_int) (pv 4))) po_none)))))))))))))), ?_⟩
    refine ⟨_, rfl, ⟨_, rfl⟩, _, _, rfl, rfl, (by decide +kernel), by omega, fun l hl => ?_⟩
    generalize hw : Txt.split z "\n" = ls
    have hlne : ls ≠ [] := by rw [← hw]; exact split_ne nl_tl nl_kd
    have hlw : wt 1 ls = z.length + 1 := by
      have h1 := split_wt (x := z) nl_tl nl_kd
      rw [nl_ln, hw] at h1
      exact h1
    have hlpl : Pl ls := by rw [← hw]; exact pl_split hz nl_tl nl_kd
    have hll := wt_len 1 ls (by decide)
    have hl0 := List.length_pos_iff.mpr hlne
    obtain ⟨npl, ncl⟩ := hp.ne hl
    have fl : (upd H l (.lst (ls.map V.str))) l = some (.lst (ls.map V.str)) := upd_same
    have el : Ext H (upd H l (.lst (ls.map V.str))) := Ext.upd hl
    have hp0 := hp.ext el
    have ho0 := el _ _ ho
    have k0 : Keep p c H (upd H l (.lst (ls.map V.str))) := Keep.ext el
    generalize (upd H l (.lst (ls.map V.str))) = H0 at fl el hp0 ho0 k0
    refine ⟨_, rfl, p, c, 10, rfl, hp0, by decide, by decide, fun wy H1 w0 w1 hp1 kp1 => ⟨_, _, rfl, ?_⟩⟩
    have fl1 := kp1 l _ fl npl.symm ncl.symm
    have lm : (ls.map V.str).length = ls.length := List.length_map _
    refine ⟨_, rfl, _, rfl, l, _, rfl, .inl (SqL.of fl1), p, c, _, rfl, hp1, by rw [lm]; omega, by rw [lm]; omega, fun a H2 a0 a1 hp2 kp2 => ?_⟩
    rw [lm] at a1
    have fl2 := kp2 l _ fl1 npl.symm ncl.symm
    obtain ⟨la, hla⟩ : ∃ la, ls[a.toNat]? = some la := ⟨_, List.getElem?_eq_getElem (by omega)⟩
    have hlam := List.mem_of_getElem? hla
    have hlaw := wt_mem 1 hlam
    refine ⟨_, rfl, _, rfl, l, _, a, .str la, rfl, rfl, SqL.of fl2, atI_at (j := a.toNat) (by omega) (mapS hla), ⟨_, rfl⟩, _, _, rfl, rfl, (by decide +kernel), by omega, fun m hm => ?_⟩
    have hla' : OkS n la := hz.part nl_tl nl_kd (by rw [hw]; exact hlam)
    generalize hw2 : Txt.split la " " = ws
    have hwne : ws ≠ [] := by rw [← hw2]; exact split_ne Ls.sp_tl Ls.sp_kd
    have hww : wt 1 ws = la.length + 1 := by
      have h1 := split_wt (x := la) Ls.sp_tl Ls.sp_kd
      rw [sp_ln, hw2] at h1
      exact h1
    have hwpl : Pl ws := by rw [← hw2]; exact pl_split hla' Ls.sp_tl Ls.sp_kd
    have hwl := wt_len 1 ws (by decide)
    have hwl0 := List.length_pos_iff.mpr hwne
    obtain ⟨npm, ncm⟩ := hp2.ne hm
    have em : Ext H2 (upd H2 m (.lst (ws.map V.str))) := Ext.upd hm
    have fm : (upd H2 m (.lst (ws.map V.str))) m = some (.lst (ws.map V.str)) := upd_same
    have fl3 := em _ _ fl2
    have hp3 := hp2.ext em
    have k3 : Keep p c H (upd H2 m (.lst (ws.map V.str))) := k0.trans (kp1.trans (kp2.trans (Keep.ext em)))
    generalize (upd H2 m (.lst (ws.map V.str))) = H3 at em fm fl3 hp3 k3
    have lmw : (ws.map V.str).length = ws.length := List.length_map _
    refine ⟨_, rfl, _, rfl, m, _, rfl, .inl (SqL.of fm), p, c, _, rfl, hp3, by rw [lmw]; omega, by rw [lmw]; omega, fun b H4 b0 b1 hp4 kp4 => ?_⟩
    rw [lmw] at b1
    have fl4 := kp4 l _ fl3 npl.symm ncl.symm
    have fm4 := kp4 m _ fm npm.symm ncm.symm
    have k4 : Keep p c H H4 := k3.trans kp4
    obtain ⟨wb, hwb⟩ : ∃ wb, ws[b.toNat]? = some wb := ⟨_, List.getElem?_eq_getElem (by omega)⟩
    have hwbm := List.mem_of_getElem? hwb
    have hwbw := wt_mem 1 hwbm
    have hwb' : ∀ c ∈ tl wb, c < 256 := hwpl wb hwbm
    have fin : ∀ z' H', OkS (4 * n + 40) z' → PenAt H' p c → Keep p c H4 H' → Q (.str z') H' := fun z' H' h1 h2 h3 => k z' H' h1 h2 (k4.trans h3)
    -- a join at the end
    have jn : ∀ (q : List Str), Pl q → wt 1 q ≤ 4 * n + 40 → wt ("\n" : Str).length q ≤ 16777216 ∧ OkS (4 * n + 40) (Txt.join "\n" q) := fun q h1 h2 => ⟨by rw [nl_ln]; omega, ok_join nl_pl h1 (by rw [nl_ln]; exact h2)⟩
    have tk := fun i => wt_take 1 ls i
    have dp := fun i => wt_drop 1 ls i
    refine ⟨_, rfl, rfl, _, rfl, ?_⟩
    refine ite2 (fun _ => ?_) (fun w_0 => ?_)
    · -- a line left out
      refine ⟨⟨_, rfl⟩, _, rfl, _, rfl, a, rfl, l, _, rfl, SqL.of fl4, fun q1 n1 => ?_⟩
      rw [cutM_to _ a0]
      have e1 : Ext H4 (upd H4 q1 (.lst ((ls.take a.toNat).map V.str))) := Ext.upd n1
      have f1 : (upd H4 q1 (.lst ((ls.take a.toNat).map V.str))) q1 = some (.lst ((ls.take a.toNat).map V.str)) := upd_same
      generalize (upd H4 q1 (.lst ((ls.take a.toNat).map V.str))) = G1 at e1 f1
      refine ⟨_, rfl, _, rfl, _, _, rfl, rfl, a + 1, rfl, l, _, rfl, SqL.of (e1 _ _ fl4), fun q2 n2 => ?_⟩
      rw [cutM_from _ (show 0 ≤ a + 1 by omega)]
      have e2 : Ext G1 (upd G1 q2 (.lst ((ls.drop (a + 1).toNat).map V.str))) := Ext.upd n2
      have f2 : (upd G1 q2 (.lst ((ls.drop (a + 1).toNat).map V.str))) q2 = some (.lst ((ls.drop (a + 1).toNat).map V.str)) := upd_same
      generalize (upd G1 q2 (.lst ((ls.drop (a + 1).toNat).map V.str))) = G2 at e2 f2
      have hw1 := tk a.toNat
      have hw2 := dp (a + 1).toNat
      have hl1 := wt_len 1 (ls.take a.toNat) (by decide)
      have hl2 := wt_len 1 (ls.drop (a + 1).toNat) (by decide)
      refine ⟨q1, q2, _, _, rfl, rfl, e2 _ _ f1, f2, by rw [List.length_map, List.length_map]; omega, fun q3 n3 => ?_⟩
      rw [map_catS]
      obtain ⟨j1, j2⟩ := jn (ls.take a.toNat ++ ls.drop (a + 1).toNat) ((hlpl.take _).append (hlpl.drop _)) (by rw [wt_append]; omega)
      have e3 : Ext H4 (upd G2 q3 (.lst ((ls.take a.toNat ++ ls.drop (a + 1).toNat).map V.str))) := e1.trans (e2.trans (Ext.upd n3))
      exact ⟨_, q3, _, rfl, rfl, .inl (SqL.of upd_same), j1, fin _ _ j2 (hp4.ext e3) (Keep.ext e3)⟩
    refine ⟨_, rfl, rfl, _, rfl, ?_⟩
    refine ite2 (fun _ => ?_) (fun w_1 => ?_)
    · -- a line twice
      refine ⟨⟨_, rfl⟩, _, rfl, _, rfl, _, _, rfl, rfl, a + 1, rfl, l, _, rfl, SqL.of fl4, fun q1 n1 => ?_⟩
      rw [cutM_to _ (show 0 ≤ a + 1 by omega)]
      have e1 : Ext H4 (upd H4 q1 (.lst ((ls.take (a + 1).toNat).map V.str))) := Ext.upd n1
      have f1 : (upd H4 q1 (.lst ((ls.take (a + 1).toNat).map V.str))) q1 = some (.lst ((ls.take (a + 1).toNat).map V.str)) := upd_same
      generalize (upd H4 q1 (.lst ((ls.take (a + 1).toNat).map V.str))) = G1 at e1 f1
      refine ⟨_, rfl, _, rfl, a, rfl, l, _, rfl, SqL.of (e1 _ _ fl4), fun q2 n2 => ?_⟩
      rw [cutM_from _ a0]
      have e2 : Ext G1 (upd G1 q2 (.lst ((ls.drop a.toNat).map V.str))) := Ext.upd n2
      have f2 : (upd G1 q2 (.lst ((ls.drop a.toNat).map V.str))) q2 = some (.lst ((ls.drop a.toNat).map V.str)) := upd_same
      generalize (upd G1 q2 (.lst ((ls.drop a.toNat).map V.str))) = G2 at e2 f2
      have hw1 := tk (a + 1).toNat
      have hw2 := dp a.toNat
      have hl1 := wt_len 1 (ls.take (a + 1).toNat) (by decide)
      have hl2 := wt_len 1 (ls.drop a.toNat) (by decide)
      refine ⟨q1, q2, _, _, rfl, rfl, e2 _ _ f1, f2, by rw [List.length_map, List.length_map]; omega, fun q3 n3 => ?_⟩
      rw [map_catS]
      obtain ⟨j1, j2⟩ := jn (ls.take (a + 1).toNat ++ ls.drop a.toNat) ((hlpl.take _).append (hlpl.drop _)) (by rw [wt_append]; omega)
      have e3 : Ext H4 (upd G2 q3 (.lst ((ls.take (a + 1).toNat ++ ls.drop a.toNat).map V.str))) := e1.trans (e2.trans (Ext.upd n3))
      exact ⟨_, q3, _, rfl, rfl, .inl (SqL.of upd_same), j1, fin _ _ j2 (hp4.ext e3) (Keep.ext e3)⟩
    refine ⟨_, rfl, rfl, _, rfl, ?_⟩
    refine ite2 (fun _ => ?_) (fun w_2 => ?_)
    · -- two lines exchanged
      refine ⟨_, rfl, _, rfl, l, _, rfl, .inl (SqL.of fl4), p, c, _, rfl, hp4, by rw [lm]; omega, by rw [lm]; omega, fun d H5 d0 d1 hp5 kp5 => ?_⟩
      rw [lm] at d1
      have fl5 := kp5 l _ fl4 npl.symm ncl.symm
      obtain ⟨ld, hld⟩ : ∃ ld, ls[d.toNat]? = some ld := ⟨_, List.getElem?_eq_getElem (by omega)⟩
      have hldm := List.mem_of_getElem? hld
      have hldw := wt_mem 1 hldm
      refine ⟨_, rfl, _, rfl, l, _, a, .str la, rfl, rfl, SqL.of fl5, atI_at (j := a.toNat) (by omega) (mapS hla), ?_⟩
      refine ⟨_, rfl, _, rfl, l, _, d, .str ld, rfl, rfl, SqL.of fl5, atI_at (j := d.toNat) (by omega) (mapS hld), ?_⟩
      refine ⟨_, rfl, _, rfl, l, _, a, _, rfl, rfl, fl5, ixN_at a0 (by rw [lm]; exact a1), ?_⟩
      have es1 : (ls.map V.str).set a.toNat (.str ld) = (ls.set a.toNat ld).map V.str := List.map_set.symm
      rw [es1]
      refine ⟨_, rfl, _, rfl, _, rfl, l, _, d, _, rfl, rfl, upd_same, ixN_at d0 (by rw [List.length_map, List.length_set]; exact d1), ?_⟩
      have es2 : ((ls.set a.toNat ld).map V.str).set d.toNat (.str la) = ((ls.set a.toNat ld).set d.toNat la).map V.str := List.map_set.symm
      rw [es2]
      have hs1 := wt_set 1 ld ls a.toNat
      have hs2 := wt_set 1 la (ls.set a.toNat ld) d.toNat
      obtain ⟨j1, j2⟩ := jn ((ls.set a.toNat ld).set d.toNat la) ((hlpl.set (hlpl ld hldm) _).set (hlpl la hlam) _) (by omega)
      refine ⟨⟨_, rfl⟩, _, rfl, _, l, _, rfl, rfl, .inl (SqL.of upd_same), j1, k _ _ j2 ?_ ?_⟩
      · exact (hp5.upd npl ncl).upd npl ncl
      · intro x u hx h1 h2
        have hxl : x ≠ l := ne_of_none hx hl
        rw [upd_ne hxl, upd_ne hxl]
        exact kp5 x u (k4 x u hx h1 h2) h1 h2
    refine ⟨_, rfl, _, _, rfl, rfl, _, rfl, ?_⟩
    refine ite2 (fun w_8 => ?_) (fun w_8 => ?_)
    · -- a word otherwise
      have ho4 := k4 o _ ho nop noc
      have hol' : (odds.map V.str).length = odds.length := List.length_map _
      have hod' := List.length_pos_iff.mpr hod
      refine ⟨_, rfl, _, rfl, p, c, o, _, rfl, hp4, nop, noc, ho4, by omega, by omega, fun x H5 hx hp5 kp5 => ?_⟩
      obtain ⟨od, hodm, rfl⟩ := List.mem_map.mp hx
      have hod1 := hox od hodm
      have hod2 := hod1.1
      have fl5 := kp5 l _ fl4 npl.symm ncl.symm
      have fm5 := kp5 m _ fm4 npm.symm ncm.symm
      have atB : ∀ {G : Hp}, Ext H5 G → ∃ (p : Addr) (xs : List V) (i : Int) (v : V), V.ref m = .ref p ∧ V.int b = .int i ∧ SqL K G p xs ∧ atI xs i = some v ∧ v = .str wb := fun e => ⟨m, _, b, _, rfl, rfl, SqL.of (e _ _ fm5), atI_at (j := b.toNat) (by omega) (mapS hwb), rfl⟩
      -- the five lists
      refine ⟨(by show 0 ≤ sizeLine; decide), fun q0 n0 => ?_⟩
      have e0 : Ext H5 (upd H5 q0 (.lst [])) := Ext.upd n0
      have f0 : (upd H5 q0 (.lst [])) q0 = some (.lst []) := upd_same
      generalize (upd H5 q0 (.lst [])) = G0 at e0 f0
      refine ⟨_, rfl, (by show 1 ≤ sizeLine; decide), fun q1 n1 => ?_⟩
      have e1 : Ext G0 (upd G0 q1 (.lst [.str od])) := Ext.upd n1
      have f1 : (upd G0 q1 (.lst [.str od])) q1 = some (.lst [.str od]) := upd_same
      generalize (upd G0 q1 (.lst [.str od])) = G1 at e1 f1
      refine ⟨_, rfl, _, rfl, _, rfl, m, _, b, .str wb, rfl, rfl, SqL.of (e1 _ _ (e0 _ _ fm5)), atI_at (j := b.toNat) (by omega) (mapS hwb), (by show 2 ≤ sizeLine; decide), fun q2 n2 => ?_⟩
      have e2 : Ext G1 (upd G1 q2 (.lst [.str od, .str wb])) := Ext.upd n2
      have f2 : (upd G1 q2 (.lst [.str od, .str wb])) q2 = some (.lst [.str od, .str wb]) := upd_same
      generalize (upd G1 q2 (.lst [.str od, .str wb])) = G2 at e2 f2
      refine ⟨_, rfl, _, rfl, m, _, b, .str wb, rfl, rfl, SqL.of (e2 _ _ (e1 _ _ (e0 _ _ fm5))), atI_at (j := b.toNat) (by omega) (mapS hwb), _, rfl, _, rfl, m, _, b, .str wb, rfl, rfl, SqL.of (e2 _ _ (e1 _ _ (e0 _ _ fm5))), atI_at (j := b.toNat) (by omega) (mapS hwb), (by show 2 ≤ sizeLine; decide), fun q3 n3 => ?_⟩
      have e3 : Ext G2 (upd G2 q3 (.lst [.str wb, .str wb])) := Ext.upd n3
      have f3 : (upd G2 q3 (.lst [.str wb, .str wb])) q3 = some (.lst [.str wb, .str wb]) := upd_same
      generalize (upd G2 q3 (.lst [.str wb, .str wb])) = G3 at e3 f3
      refine ⟨_, rfl, _, rfl, m, _, b, .str wb, rfl, rfl, SqL.of (e3 _ _ (e2 _ _ (e1 _ _ (e0 _ _ fm5)))), atI_at (j := b.toNat) (by omega) (mapS hwb), wb, rfl, by omega, (by show 1 ≤ sizeLine; decide), fun q4 n4 => ?_⟩
      have e4 : Ext G3 (upd G3 q4 (.lst [.str (revS wb)])) := Ext.upd n4
      have f4 : (upd G3 q4 (.lst [.str (revS wb)])) q4 = some (.lst [.str (revS wb)]) := upd_same
      generalize (upd G3 q4 (.lst [.str (revS wb)])) = G4 at e4 f4
      refine ⟨(by show 5 ≤ sizeLine; decide), fun q5 n5 => ?_⟩
      have e5 : Ext G4 (upd G4 q5 (.lst [.ref q0, .ref q1, .ref q2, .ref q3, .ref q4])) := Ext.upd n5
      have f5 : (upd G4 q5 (.lst [.ref q0, .ref q1, .ref q2, .ref q3, .ref q4])) q5 = some (.lst [.ref q0, .ref q1, .ref q2, .ref q3, .ref q4]) := upd_same
      generalize (upd G4 q5 (.lst [.ref q0, .ref q1, .ref q2, .ref q3, .ref q4])) = G5 at e5 f5
      have e35 := e4.trans e5
      have e25 := e3.trans e35
      have e15 := e2.trans e25
      have e05 := e1.trans e15
      have eH5 := e0.trans e05
      -- which one
      obtain ⟨i, qm, mo, hi, hqi, hqm, hmp, hmw⟩ : ∃ (i : Nat) (qm : Addr) (mo : List Str), wy - 3 = (i : Int) ∧ [V.ref q0, .ref q1, .ref q2, .ref q3, .ref q4][i]? = some (.ref qm) ∧ G5 qm = some (.lst (mo.map V.str)) ∧ Pl mo ∧ wt 1 mo ≤ 2 * n + 24 := by
        have hw8 : wy < 8 := by simpa using w_8
        have h_0 : ¬ wy = 0 := by simpa using w_0
        have h_1 : ¬ wy = 1 := by simpa using w_1
        have h_2 : ¬ wy = 2 := by simpa using w_2
        have pl1 : ∀ {x : Str}, (∀ c ∈ tl x, c < 256) → Pl [x] := fun {x} h p hp => by rw [List.mem_singleton.mp hp]; exact h
        have pl2 : ∀ {x y : Str}, (∀ c ∈ tl x, c < 256) → (∀ c ∈ tl y, c < 256) → Pl [x, y] := fun {x y} h h' p hp => by
          rcases List.mem_cons.mp hp with e | e
          · rw [e]; exact h
          · rw [List.mem_singleton.mp e]; exact h'
        have hcase : wy = 3 ∨ wy = 4 ∨ wy = 5 ∨ wy = 6 ∨ wy = 7 := by omega
        rcases hcase with rfl | rfl | rfl | rfl | rfl
        · exact ⟨0, q0, [], rfl, rfl, e05 _ _ f0, fun p hp => absurd hp (by simp), by rw [wt_nil]; omega⟩
        · exact ⟨1, q1, [od], rfl, rfl, e15 _ _ f1, pl1 hod1.2, by rw [wt_cons, wt_nil]; omega⟩
        · exact ⟨2, q2, [od, wb], rfl, rfl, e25 _ _ f2, pl2 hod1.2 hwb', by rw [wt_cons, wt_cons, wt_nil]; omega⟩
        · exact ⟨3, q3, [wb, wb], rfl, rfl, e35 _ _ f3, pl2 hwb' hwb', by rw [wt_cons, wt_cons, wt_nil]; omega⟩
        · exact ⟨4, q4, [revS wb], rfl, rfl, e5 _ _ f4, pl1 (fun c hc => hwb' c (by rw [tl_revS] at hc; simpa using hc)), by rw [wt_cons, wt_nil, len_revS]; omega⟩
      refine ⟨_, rfl, _, _, rfl, rfl, q5, _, _, _, rfl, rfl, SqL.of f5, atI_at (j := i) hi hqi, ?_⟩
      have hml := wt_len 1 mo (by decide)
      -- the words again
      refine ⟨_, rfl, _, rfl, b, rfl, m, _, rfl, SqL.of (eH5 _ _ fm5), fun u1 v1 => ?_⟩
      rw [cutM_to _ b0]
      have e6 : Ext G5 (upd G5 u1 (.lst ((ws.take b.toNat).map V.str))) := Ext.upd v1
      have f6 : (upd G5 u1 (.lst ((ws.take b.toNat).map V.str))) u1 = some (.lst ((ws.take b.toNat).map V.str)) := upd_same
      generalize (upd G5 u1 (.lst ((ws.take b.toNat).map V.str))) = G6 at e6 f6
      have wt1 := wt_take 1 ws b.toNat
      have wt2 := wt_drop 1 ws (b + 1).toNat
      have wl1 := wt_len 1 (ws.take b.toNat) (by decide)
      have wl2 := wt_len 1 (ws.drop (b + 1).toNat) (by decide)
      refine ⟨_, rfl, u1, qm, _, _, rfl, rfl, f6, e6 _ _ hqm, by rw [List.length_map, List.length_map]; omega, fun u2 v2 => ?_⟩
      rw [map_catS]
      have e7 : Ext G6 (upd G6 u2 (.lst ((ws.take b.toNat ++ mo).map V.str))) := Ext.upd v2
      have f7 : (upd G6 u2 (.lst ((ws.take b.toNat ++ mo).map V.str))) u2 = some (.lst ((ws.take b.toNat ++ mo).map V.str)) := upd_same
      generalize (upd G6 u2 (.lst ((ws.take b.toNat ++ mo).map V.str))) = G7 at e7 f7
      refine ⟨_, rfl, _, rfl, _, _, rfl, rfl, b + 1, rfl, m, _, rfl, SqL.of (e7 _ _ (e6 _ _ (eH5 _ _ fm5))), fun u3 v3 => ?_⟩
      rw [cutM_from _ (show 0 ≤ b + 1 by omega)]
      have e8 : Ext G7 (upd G7 u3 (.lst ((ws.drop (b + 1).toNat).map V.str))) := Ext.upd v3
      have f8 : (upd G7 u3 (.lst ((ws.drop (b + 1).toNat).map V.str))) u3 = some (.lst ((ws.drop (b + 1).toNat).map V.str)) := upd_same
      generalize (upd G7 u3 (.lst ((ws.drop (b + 1).toNat).map V.str))) = G8 at e8 f8
      refine ⟨u2, u3, _, _, rfl, rfl, e8 _ _ f7, f8, by rw [List.length_map, List.length_map, List.length_append]; omega, fun u4 v4 => ?_⟩
      rw [map_catS]
      have e9 : Ext G8 (upd G8 u4 (.lst ((ws.take b.toNat ++ mo ++ ws.drop (b + 1).toNat).map V.str))) := Ext.upd v4
      have f9 : (upd G8 u4 (.lst ((ws.take b.toNat ++ mo ++ ws.drop (b + 1).toNat).map V.str))) u4 = some (.lst ((ws.take b.toNat ++ mo ++ ws.drop (b + 1).toNat).map V.str)) := upd_same
      generalize (upd G8 u4 (.lst ((ws.take b.toNat ++ mo ++ ws.drop (b + 1).toNat).map V.str))) = G9 at e9 f9
      have nws : Pl (ws.take b.toNat ++ mo ++ ws.drop (b + 1).toNat) := ((hwpl.take _).append hmp).append (hwpl.drop _)
      -- less the word itself
      have wsum : wt 1 (ws.take b.toNat) + wt 1 (ws.drop (b + 1).toNat) ≤ wt 1 ws := by
        have h := wt_append 1 (ws.take b.toNat) (ws.drop b.toNat)
        rw [List.take_append_drop, drop_at hwb, wt_cons] at h
        have : (b + 1).toNat = b.toNat + 1 := by omega
        rw [this]
        omega
      have lsum : wt 1 (ls.take a.toNat) + la.length + 1 + wt 1 (ls.drop (a + 1).toNat) ≤ wt 1 ls := by
        have h := wt_append 1 (ls.take a.toNat) (ls.drop a.toNat)
        rw [List.take_append_drop, drop_at hla, wt_cons] at h
        have : (a + 1).toNat = a.toNat + 1 := by omega
        rw [this]
        omega
      have hnw : wt 1 (ws.take b.toNat ++ mo ++ ws.drop (b + 1).toNat) ≤ la.length + 1 + (2 * n + 24) := by
        rw [wt_append, wt_append]
        omega
      generalize (ws.take b.toNat ++ mo ++ ws.drop (b + 1).toNat) = ws2 at f9 nws hnw
      -- the lines again
      refine ⟨⟨_, rfl⟩, _, rfl, _, rfl, a, rfl, l, _, rfl, SqL.of (e9 _ _ (e8 _ _ (e7 _ _ (e6 _ _ (eH5 _ _ fl5))))), fun y1 z1 => ?_⟩
      rw [cutM_to _ a0]
      have g1 : Ext G9 (upd G9 y1 (.lst ((ls.take a.toNat).map V.str))) := Ext.upd z1
      have i1 : (upd G9 y1 (.lst ((ls.take a.toNat).map V.str))) y1 = some (.lst ((ls.take a.toNat).map V.str)) := upd_same
      generalize (upd G9 y1 (.lst ((ls.take a.toNat).map V.str))) = K1 at g1 i1
      have okw : OkS (la.length + 1 + (2 * n + 24)) (Txt.join " " ws2) := ok_join sp_pl nws (by rw [sp_ln]; exact hnw)
      refine ⟨⟨_, rfl⟩, _, rfl, _, u4, ws2, rfl, rfl, .inl (SqL.of (g1 _ _ f9)), by show wt (" " : Str).length ws2 ≤ _; rw [sp_ln]; omega, (by show 1 ≤ sizeLine; decide), fun y2 z2 => ?_⟩
      generalize hjw : Txt.join " " ws2 = jw at okw
      have okw1 := okw.1
      have g2 : Ext K1 (upd K1 y2 (.lst [.str jw])) := Ext.upd z2
      have i2 : (upd K1 y2 (.lst [.str jw])) y2 = some (.lst ([jw].map V.str)) := upd_same
      generalize (upd K1 y2 (.lst [.str jw])) = K2 at g2 i2
      have tl1 := wt_len 1 (ls.take a.toNat) (by decide)
      have dl1 := wt_len 1 (ls.drop (a + 1).toNat) (by decide)
      refine ⟨y1, y2, _, _, rfl, rfl, g2 _ _ i1, i2, by rw [List.length_map, List.length_map]; show _ + 1 ≤ _; omega, fun y3 z3 => ?_⟩
      rw [map_catS]
      have g3 : Ext K2 (upd K2 y3 (.lst ((ls.take a.toNat ++ [jw]).map V.str))) := Ext.upd z3
      have i3 : (upd K2 y3 (.lst ((ls.take a.toNat ++ [jw]).map V.str))) y3 = some (.lst ((ls.take a.toNat ++ [jw]).map V.str)) := upd_same
      generalize (upd K2 y3 (.lst ((ls.take a.toNat ++ [jw]).map V.str))) = K3 at g3 i3
      refine ⟨_, rfl, _, rfl, _, _, rfl, rfl, a + 1, rfl, l, _, rfl, SqL.of (g3 _ _ (g2 _ _ (g1 _ _ (e9 _ _ (e8 _ _ (e7 _ _ (e6 _ _ (eH5 _ _ fl5)))))))), fun y4 z4 => ?_⟩
      rw [cutM_from _ (show 0 ≤ a + 1 by omega)]
      have g4 : Ext K3 (upd K3 y4 (.lst ((ls.drop (a + 1).toNat).map V.str))) := Ext.upd z4
      have i4 : (upd K3 y4 (.lst ((ls.drop (a + 1).toNat).map V.str))) y4 = some (.lst ((ls.drop (a + 1).toNat).map V.str)) := upd_same
      generalize (upd K3 y4 (.lst ((ls.drop (a + 1).toNat).map V.str))) = K4 at g4 i4
      refine ⟨y3, y4, _, _, rfl, rfl, g4 _ _ i3, i4, by rw [List.length_map, List.length_map, List.length_append]; show _ + 1 + _ ≤ _; omega, fun y5 z5 => ?_⟩
      rw [map_catS]
      have hlan := hla'.1
      obtain ⟨j1, j2⟩ := jn (ls.take a.toNat ++ [jw] ++ ls.drop (a + 1).toNat) (((hlpl.take _).append (fun p hp => by rw [List.mem_singleton.mp hp]; exact okw.2)).append (hlpl.drop _)) (by
        rw [wt_append, wt_append, wt_cons, wt_nil]
        omega)
      have eK : Ext H5 (upd K4 y5 (.lst ((ls.take a.toNat ++ [jw] ++ ls.drop (a + 1).toNat).map V.str))) := eH5.trans (e6.trans (e7.trans (e8.trans (e9.trans (g1.trans (g2.trans (g3.trans (g4.trans (Ext.upd z5)))))))))
      exact ⟨_, y5, _, rfl, rfl, .inl (SqL.of upd_same), j1, fin _ _ j2 (hp5.ext eK) (kp5.trans (Keep.ext eK))⟩
    -- a sign put in
    have hw89 : wy = 8 ∨ wy = 9 := by
      have hw8 : ¬ wy < 8 := by simpa using w_8
      omega
    refine ⟨_, rfl, (by show 7 ≤ sizeLine; decide), fun L nL => ?_⟩
    obtain ⟨npL, ncL⟩ := hp4.ne nL
    refine ⟨p, c, L, _, rfl, hp4.upd npL ncL, npL.symm, ncL.symm, upd_same, by simp, by simp, fun x H5 hx hp5 kp5 => ?_⟩
    obtain ⟨sg, rfl, hsg⟩ : ∃ sg, x = .str sg ∧ OkS 1 sg := by
      simp only [List.mem_cons, List.not_mem_nil, or_false] at hx
      rcases hx with rfl | rfl | rfl | rfl | rfl | rfl | rfl
      all_goals exact ⟨_, rfl, ok_lit (by decide +kernel)⟩
    have kp5' : Keep p c H4 H5 := (Keep.new nL).trans kp5
    have hsg1 := hsg.1
    refine ⟨_, rfl, _, rfl, z, rfl, by omega, _, _, rfl, rfl, p, c, _, rfl, hp5, by omega, by omega, fun cu H6 c0 c1 hp6 kp6 => ?_⟩
    refine ⟨_, rfl, _, rfl, cu, rfl, z, rfl, by omega, _, rfl, _, _, rfl, rfl, ?_, _, rfl, _, rfl, _, _, rfl, rfl, _, rfl, _, _, rfl, rfl, _, rfl, z, rfl, by omega, _, _, rfl, rfl, ?_, ?_⟩
    · have := cutS_length z none (some cu)
      omega
    · rw [Str.length_append]
      have := cutS_length z none (some cu)
      have := cutS_length z (some (cu + 9 - wy)) none
      omega
    · exact fin _ _ ((((ok_cut hz none (some cu)).append hsg).append (ok_cut hz (some (cu + 9 - wy)) none)).mono (by omega)) hp6 (kp5'.trans kp6)
end
end K95
end
section
set_option Elab.async false
set_option autoImplicit false
set_option linter.all false
set_option maxRecDepth 100000
set_option maxHeartbeats 4000000
namespace K95
open PySem PySem.Spec PyProof.Rows L2 Ls
open C8 (pss_cut tCut)
open TL
theorem Paired.mapr {α β γ : Type} {F : α → β → Prop} {G : α → γ → Prop} {g : β → γ} : ∀ {l₁ : List α} {l₂ : List β}, (∀ a b, b ∈ l₂ → F a b → G a (g b)) → Paired F l₁ l₂ → Paired G l₁ (l₂.map g)
  | _, _, _, .nil => .nil
  | _, _, h, .cons r t => .cons (h _ _ (by simp) r) (Paired.mapr (fun a b hb q => h a b (List.mem_cons_of_mem _ hb) q) t)
theorem rows_of {cl : Str → Addr} {K : PySem.W.Frag} {H : Hp} {a : Addr} {plan : List (List (Str × Str))} (h : PlanAt cl H a plan) (hg : ∀ ms ∈ plan, ∀ m ∈ ms, Good m) : ∃ xs, SeqV K H (.ref a) xs ∧ Paired (RowAt cl K H) xs (textsOf plan) := by
  obtain ⟨xs, h1, h2⟩ := h
  refine ⟨xs, ⟨a, rfl, .inl (SqL.of h1)⟩, Paired.mapr (fun v ms hm ⟨b, e, ys, h3, h4⟩ => ⟨ys, ⟨b, e, .inl (SqL.of h3)⟩, Paired.mapr (fun v m hm' ⟨b', e', q⟩ => .inr ⟨b', m, e', q, hg ms hm m hm', rfl⟩) h4⟩) h2⟩
/-! ### _law_heard -/
/-- what the top says of the error class at C, over StowError's at CE -/
structure ErrT (K : PySem.W.Frag) (CE C : Addr) : Prop where
  exm : PySem.W.exmOne K (.ref C) (.ref CE) = some true
  ec : ExcC K C
  own : PySem.W.kitOne K (.ref C) (.ref C) = some true
  up : PySem.W.kitOne K (.ref C) (.ref CE) = some true
  xf : XfC K C
  noL : PySem.W.findIn K (.ref C) "line" = some none
  noW : PySem.W.findIn K (.ref C) "word" = some none
def HeardE (CT : Addr) (Q : VK) : XK := fun cls d H' => ∃ (dd : Addr) (i j : Int), cls = .ref CT ∧ d = some dd ∧ H' dd = some (.xd [("word", .int j), ("line", .int i)]) ∧ ∀ p H2, Ext H' H2 → nw H' H2 p = some (.tup [.int i, .int j]) → Q (.ref p) H2
def HeardV (cl : Str → Addr) (Q : VK) : VK := fun v H1 => ∃ a plan, v = .ref a ∧ PlanAt cl H1 a plan ∧ (∀ ms ∈ plan, ∀ m ∈ ms, Good m) ∧ Fits (textsOf plan) ∧ ∀ H2, Ext H1 H2 → Q (.str (planT (textsOf plan))) H2
def TTh (cl : Str → Addr) (CT : Addr) : (XK → Hp → VK → Prop) → Hp → VK → Prop := fun tl H Q => ∀ (H0 : Hp), Ext H H0 → ∀ (E' : XK) (Q' : VK), (∀ cls d H', HeardE CT Q cls d H' → E' cls d H') → (∀ v H1, HeardV cl Q v H1 → Q' v H1) → tl E' H0 Q'
section
variable {P : Program} {w : World} {K : PySem.W.Frag} {mg : Str → Option Value} {base : Heap} {CM CL CA CS CF CE CT mw : Addr} {tL tN : Tok}
abbrev s__law_heard : Stmt := top 34
abbrev N__law_heard : List Str := ["_law_ask", "_law_caught", "_law_found", "error"]
theorem sc__law_heard : FnScope N__law_heard ["_law_ask"] (defScope s__law_heard) := ⟨rfl, rfl, rfl, by decide +kernel, rfl, by decide +kernel, by decide +kernel⟩
theorem heard_gives {A : Around} {stack : List Env} {g : Addr} {cdv : Value} {q : Str} (hrA : Room 7 A) (T : Tx K mg CM CL CA CS CF CE CT mw tL tN) (eT : ErrT K CE CT) (c_show_plan : Cal P w K mg base CX0 4 "show_plan" (spShow (clsOf CL CA CS CF) K)) :
    GivesP P w K mg base A stack N__law_heard "_law_heard" (defScope s__law_heard) g cdv (defBody s__law_heard) "_law_ask" q (TTh (clsOf CL CA CS CF) CT) := by
  intro f c' s H Q tl act hc h
  have hr : Room 6 (A.deeper (envOfC "_law_heard" (defScope s__law_heard) s.heap.objs.size g cdv)) := hrA.deeper _
  refine ⟨_, (pss_cons (ps_asg (pe_tup (pa_cons pe_non (pa_cons pe_non pa_nil))) (pg_tup rfl (pgs_cons (pg_name (i := 1) sc__law_heard.nd rfl (by first | exact Or.inl rfl | exact Or.inr rfl)) (pgs_cons (pg_name (i := 2) sc__law_heard.nd rfl (by first | exact Or.inl rfl | exact Or.inr rfl)) pgs_nil))))
      (pss_cons (ps_try_ask (i := 3) rfl rfl sc__law_heard.nd rfl rfl ⟨by rfl, by decide, .inl T.m_StowError⟩ LamX.takes0 rfl (fun W pn xe tk _ => (pss_one (ps_set (i := 2) sc__law_heard.nd rfl (by first | exact Or.inl rfl | exact Or.inr rfl) (act W pn xe _ _ tk))))
      (fun a pn => (pss_one (ps_set (i := 1) sc__law_heard.nd rfl (by first | exact Or.inl rfl | exact Or.inr rfl) (pv 3)))))
      (pss_cons (ps_if (pt_cmpR op_isN (pv 1) pe_non (nomark _)) (pss_one (ps_ret (pe_cal c_show_plan (hr.mono (by decide)) (by rfl) pass0 (pa_cons (pv 2) pa_nil)))) pss_nil)
      (pss_one (ps_ret (pe_ifExp (pt_val (pe_callB call_isX (by rfl) (T.bn _ (by decide +kernel)) (by decide +kernel) (pa_cons (pv 1) (pa_cons (pe_gref (by rfl) T.m_BadText) pa_nil)))) (pe_tup (pa_cons (pe_xk (pv 1)) (pa_cons (pe_xk (pv 1)) pa_nil))) pe_str)))))), ?_⟩
  refine ⟨(by show 2 ≤ sizeLine; decide), fun t0 n0 => ⟨t0, _, rfl, SqT.of upd_same, rfl, _, _, rfl, _, _, rfl, rfl, ?_⟩⟩
  have e0 : Ext H (upd H t0 (.tup [.non, .non])) := Ext.upd n0
  generalize (upd H t0 (.tup [.non, .non])) = H0 at e0
  refine ⟨rfl, e0 _ _ hc, h H0 e0 _ _ (fun cls d H' he => ?_) (fun v H1 hv => ?_)⟩
  · obtain ⟨dd, i, j, rfl, rfl, hdd, k⟩ := he
    refine ⟨true, eT.exm, fun _ a ha => ?_, fun z => nomatch z⟩
    have hd1 : (upd H' a (exk a (.ref CT) (some dd))) dd = some (.xd [("word", .int j), ("line", .int i)]) := by rw [upd_ne (ne_of_none hdd ha)]; exact hdd
    have ha1 : (upd H' a (exk a (.ref CT) (some dd))) a = some (exk a (.ref CT) (some dd)) := upd_same
    have e1 : Ext H' (upd H' a (exk a (.ref CT) (some dd))) := Ext.upd ha
    generalize (upd H' a (exk a (.ref CT) (some dd))) = H1 at hd1 ha1 e1
    have xd : ∀ d', some dd = some d' → ∃ fs, H1 d' = some (.xd fs) := fun d' z => by
      cases z
      exact ⟨_, hd1⟩
    refine ⟨_, rfl, ?_⟩
    refine ⟨_, rfl, rfl, _, rfl, ?_⟩
    refine iteNo (decide_eq_false (by intro z; cases z)) ?_
    refine ⟨_, rfl, a, _, _, _, _, true, rfl, ha1, eT.ec, xd, fun u r => r, eT.own, _, rfl, ?_⟩
    refine iteT ?_
    refine ⟨_, rfl, a, _, dd, _, _, rfl, ha1, eT.xf, eT.noL, hd1, by rfl, _, rfl, a, _, dd, _, _, rfl, ha1, eT.xf, eT.noW, hd1, by rfl, (by show 2 ≤ sizeLine; decide), fun t ht => ?_⟩
    exact k t _ (e1.trans (Ext.upd ht)) (by rw [nw_at (ext_free e1 ht)]; exact upd_same)
  · obtain ⟨a, plan, rfl, hp, hg, hf, k⟩ := hv
    refine ⟨_, rfl, rfl, _, rfl, ?_⟩
    refine iteYes (decide_eq_true rfl) ?_
    obtain ⟨xs, s1, s2⟩ := rows_of (K := K) hp hg
    exact ⟨_, rfl, _, xs, textsOf plan, rfl, s1, s2, hf, k⟩
end
end K95
end
section
set_option Elab.async false
set_option autoImplicit false
set_option linter.all false
set_option maxRecDepth 100000
set_option maxHeartbeats 4000000
namespace K95
open PySem PySem.Spec PyProof.Rows L2 Ls
open C8 (pss_cut tCut)
open TL
/-! ### law -/
def oddS : List Str := ["", "a", "a,", "a,,", ",", "load", "load,", "again", "store", "forget", "-", "-,", "A", "toolong", "use"]
theorem odd_ok : ∀ x ∈ oddS, OkS 10 x := by
  have : oddS.all (fun z => decide (z.length ≤ 10) && (tl z).all fun c => decide (c < 256)) = true := by decide +kernel
  exact fun x hx => ok_lit (List.all_eq_true.mp this x hx)
/-- a value that may be told -/
structure Ask (d : PyData) : Prop where
  sm : SmT d
  sw : ∀ plan, planD d = .inr plan → Shw 50000 d
theorem Ask.str {z : Str} (h : OkS 4000 z) : Ask (.str z) := ⟨fun y e => by cases e; exact Nat.le_trans h.1 (by decide), fun _ _ => (Shw.str h).mono (by decide)⟩
theorem Ask.no {d : PyData} (h : isStrD d = false) : Ask d := by
  refine ⟨fun y e => ?_, fun plan hp => ?_⟩
  · rw [e] at h
    cases h
  · exfalso
    cases d <;> first | (cases hp; done) | (cases h; done)
theorem tv_N {H H' : Hp} {v : V} {d : PyData} (h : TV H v d) (x : LamX.ExtN H H') : TV H' v d := ((tv_vis h).ext (vis_extN x)).ext vis_ext
theorem scan_le : ∀ {k : Nat} {ws : List Str} {j : Nat}, scan k ws = .inl j → j ≤ k + ws.length + 1
  | k, [], j, h => by
    rw [scan_nil] at h
    have := Sum.inl.inj h
    omega
  | k, [w], j, h => by
    by_cases hw : w ∈ W4
    · rw [scan_end hw] at h
      have := Sum.inl.inj h
      omega
    · rw [scan_bad hw] at h
      have := Sum.inl.inj h
      omega
  | k, w :: t :: r, j, h => by
    by_cases hw : w ∈ W4
    · cases hn : isName (nameOfW t) with
      | false =>
        rw [scan_no hw hn] at h
        have := Sum.inl.inj h
        omega
      | true =>
        rw [scan_go hw hn] at h
        unfold tail at h
        cases hc : lastC t with
        | true =>
          rw [hc, if_pos rfl] at h
          cases hs : scan (k + 2) r with
          | inr ms' => rw [hs] at h; cases h
          | inl j' =>
            rw [hs] at h
            have e : j' = j := Sum.inl.inj h
            have := scan_le hs
            simp only [List.length_cons]
            omega
        | false =>
          rw [hc, if_neg Bool.false_ne_true] at h
          cases r with
          | nil => cases h
          | cons x r =>
            have := Sum.inl.inj (show Sum.inl (k + 2) = Sum.inl j from h)
            simp only [List.length_cons]
            omega
    · rw [scan_bad hw] at h
      have := Sum.inl.inj h
      omega
theorem row_le {ws : List Str} {j : Nat} (h : rowR ws = .inl j) : j ≤ ws.length + 1 := by
  unfold rowR at h
  split at h
  · split at h
    · have := Sum.inl.inj h
      omega
    · cases h
  · have := scan_le h
    omega
theorem plan_le {d : PyData} {e : Nat × Nat} (hd : SmT d) (h : planD d = .inl e) : e.1 ≤ 6000 ∧ e.2 ≤ 6001 := by
  cases d with
  | str z =>
    have hz : z.length ≤ 5000 := hd z rfl
    obtain ⟨k0, p0, ⟨ws0, p1, p2⟩, p3⟩ := plan_inl (show planGo 0 (linesOf z) = .inl e from h)
    have h1 := (List.getElem?_eq_some_iff.mp p1).1
    have h2 := lines_len hz
    have h3 := row_le p2
    have h4 := (lines_ok hz p1).ln
    omega
  | _ =>
    have : e = (0, 0) := (Sum.inl.inj (show Sum.inl (0, 0) = Sum.inl e from h)).symm
    subst this
    exact ⟨by decide, by decide⟩
theorem small_line {ts : List Str} (h1 : ts.length ≤ 3) (h2 : ∀ x ∈ ts, OkS 13 x) : wt (", " : Str).length ts ≤ 45 := by
  have e : (", " : Str).length = 2 := by decide +kernel
  rw [e]
  unfold wt
  have := sum_le (B := 13) (l := ts) fun x hx => (h2 x hx).1
  omega
theorem small_text {ts : List Str} (h1 : ts.length ≤ 4) (h2 : ∀ x ∈ ts, OkS 45 x) : wt ("\n" : Str).length ts ≤ 184 := by
  rw [nl_ln]
  unfold wt
  have := sum_le (B := 45) (l := ts) fun x hx => (h2 x hx).1
  omega
def bnd : Nat → Nat
  | 0 => 184
  | n + 1 => 4 * bnd n + 40
theorem shw_nat {i : Nat} (h : i ≤ 10000) : Shw 13 (.int i) := ⟨by
  show decide ((i : Int).natAbs.log2 < 1920) = true
  rw [decide_eq_true_eq, Int.natAbs_natCast]
  have h1 : i.log2 ≤ i := Nat.log2_le_self i
  by_cases h0 : i = 0
  · subst h0; decide
  · have := (Nat.log2_lt h0 (k := 20)).mpr (by omega)
    omega, Nat.zero_le _, PyData.shown_int_le (by rw [Int.natAbs_natCast]; exact Nat.lt_of_le_of_lt h (by decide))⟩
theorem shw_pair {i j : Nat} (hi : i ≤ 10000) (hj : j ≤ 10000) : Shw 50000 (.tuple [.int i, .int j]) := ((shw_nat hi).tup2 (shw_nat hj) (by show 0 < 20; decide) (by show 0 < 20; decide)).mono (by decide)
section
variable {P : Program} {w : World} {K : PySem.W.Frag} {mg : Str → Option Value} {base : Heap} {CM CL CA CS CF CE CT mw : Addr} {tL tN : Tok}
def spLaw (K : PySem.W.Frag) (TT : List (Addr × Str)) : Sp := fun vs H Q _ => ∃ (a : Addr) (ns : List Int), vs = [.ref a] ∧ SqL K H a (ns.map V.int) ∧ ns.length ≤ 63 ∧ LamX.Tabs TT H ∧ ∀ H', Q (.bl true) H'
abbrev s_law : Stmt := top 35
abbrev N_law : List Str := ["_law_script", "_law_pen_here", "_law_odd", "_law_lap", "_law_lines", "_law_at", "_law_some", "_law_spot", "_law_wording", "_law_count", "_law_thing", "_law_told", "_law_due", "_law_made"]
theorem sc_law : FnScope N_law ["_law_script"] (defScope s_law) := ⟨rfl, rfl, rfl, by decide +kernel, rfl, by decide +kernel, by decide +kernel⟩
theorem ok_law {f g c2 P2 : Addr} {fd fdh : FuncData} {TT : List (Addr × Str)} (F : Fun K "law" "law" s_law f fd) (T : Tx K mg CM CL CA CS CF CE CT mw tL tN)
    (F__law_heard : Fun K "_law_heard" "_law_heard" s__law_heard g fdh) (m__law_heard : mg "_law_heard" = some (.ref g)) (b__law_heard : L2.Binds K fdh ["_law_ask"] [])
    (eT : ErrT K CE CT) (x_BadText : Xer P w K mg base CT "BadText" ["line", "word"])
    (hfc : fd.code = .ref c2) (TB : LamX.TabB base mg c2 P2) (hmT : (P2, ("law.<locals>.<lambda>" : Str)) ∈ TT) (huT : ∀ p ∈ TT, p.1 = P2 → p.2 = ("law.<locals>.<lambda>" : Str)) (hsys : (base.get? sysModules).isSome = true)
    (c__law_pen : Cal P w K mg base CX0 1 "_law_pen" (spPen K)) (c__law_draw : Cal P w K mg base CX0 1 "_law_draw" spDraw) (c__law_pick : Cal P w K mg base CX0 2 "_law_pick" (spPick K)) (c__law_bent : Cal P w K mg base CX0 3 "_law_bent" spBent)
    (c__law_fault : Cal P w K mg base CX0 3 "_law_fault" spFault) (c_show_plan : Cal P w K mg base CX0 4 "show_plan" (spShow (clsOf CL CA CS CF) K)) (c_read_plan : Cal P w K mg base (L2.CX P w) 8 "read_plan" (spRP (clsOf CL CA CS CF) CT)) :
    FnG P w K mg base CX0 13 f fd ["_law_script"] (spLaw K TT) := by
  refine okG F sc_law (fun vs H Q E h => ?_) (fun cdv A outer s H vs Q E hcd hgd hr h => ?_)
  · obtain ⟨a, ns, rfl, _⟩ := h
    rfl
  · obtain ⟨a, ns, rfl, ha, hn, hT, k⟩ := h
    rw [hfc] at hcd
    subst hcd
    have hu := hu_of hr
    have h4 : sizeLine = 16777216 := sizeLine_eq
    refine ⟨_, (pss_cons (ps_set (i := 1) sc_law.nd rfl (by first | exact Or.inl rfl | exact Or.inr rfl) (pe_cal c__law_pen (hr.mono (by decide)) (by rfl) pass0 (pa_cons (pv 0) pa_nil)))
      (pss_cons (ps_set (i := 2) sc_law.nd rfl (by first | exact Or.inl rfl | exact Or.inr rfl) (pe_lst (pa_cons pe_str (pa_cons pe_str (pa_cons pe_str (pa_cons pe_str (pa_cons pe_str (pa_cons pe_str (pa_cons pe_str (pa_cons pe_str (pa_cons pe_str (pa_cons pe_str (pa_cons pe_str (pa_cons pe_str (pa_cons pe_str (pa_cons pe_str (pa_cons pe_str pa_nil)))))))))))))))))
      (pss_cons (ps_for PassesOwn.never rfl (pi_range1 rfl (T.bn _ (by decide +kernel)) (pa_cons pe_int pa_nil)) (pg_name (i := 3) sc_law.nd rfl (by first | exact Or.inl rfl | exact Or.inr rfl))
      (pss_cons (ps_set (i := 4) sc_law.nd rfl (by first | exact Or.inl rfl | exact Or.inr rfl) (pe_lst pa_nil))
      (pss_cut (ps_for PassesOwn.never rfl (pi_range1 rfl (T.bn _ (by decide +kernel)) (pa_cons (pe_op op_add pe_int (pe_cal c__law_draw (hr.mono (by decide)) (by rfl) pass0 (pa_cons (pv 1) (pa_cons pe_int pa_nil)))) pa_nil)) (pg_name (i := 5) sc_law.nd rfl (by first | exact Or.inl rfl | exact Or.inr rfl))
      (pss_cons (ps_set (i := 6) sc_law.nd rfl (by first | exact Or.inl rfl | exact Or.inr rfl) (pe_lst pa_nil))
      (pss_cut (ps_for PassesOwn.never rfl (pi_range1 rfl (T.bn _ (by decide +kernel)) (pa_cons (pe_cal c__law_draw (hr.mono (by decide)) (by rfl) pass0 (pa_cons (pv 1) (pa_cons pe_int pa_nil))) pa_nil)) (pg_name (i := 7) sc_law.nd rfl (by first | exact Or.inl rfl | exact Or.inr rfl))
      (pss_one (ps_expr (pe_bm PySem.F.plainAttrs_list PySem.F.slot_list_append PySem.F.type_list_append mt_append (pv 6) (pa_cons (pe_cal c__law_pick (hr.mono (by decide)) (by rfl) pass0 (pa_cons (pv 1) (pa_cons (pe_lst (pa_cons pe_str (pa_cons pe_str (pa_cons pe_str (pa_cons pe_str pa_nil))))) pa_nil))) pa_nil)))))
      (pss_one (ps_expr (pe_bm PySem.F.plainAttrs_list PySem.F.slot_list_append PySem.F.type_list_append mt_append (pv 4) (pa_cons (pe_ifExp (pt_cmpR (op_neNil hr) (pv 6) (pe_lst pa_nil) (nomark _)) (pe_join pe_str (pv 6)) pe_str) pa_nil)))))))
      (pss_cons (ps_set (i := 8) sc_law.nd rfl (by first | exact Or.inl rfl | exact Or.inr rfl) (pe_join pe_str (pv 4)))
      (pss_cut (ps_for PassesOwn.never rfl (pi_range1 rfl (T.bn _ (by decide +kernel)) (pa_cons (pe_op op_add pe_int (pe_cal c__law_draw (hr.mono (by decide)) (by rfl) pass0 (pa_cons (pv 1) (pa_cons pe_int pa_nil)))) pa_nil)) (pg_name (i := 9) sc_law.nd rfl (by first | exact Or.inl rfl | exact Or.inr rfl))
      (pss_one (ps_set (i := 8) sc_law.nd rfl (by first | exact Or.inl rfl | exact Or.inr rfl) (pe_cal c__law_bent (hr.mono (by decide)) (by rfl) pass0 (pa_cons (pv 1) (pa_cons (pv 8) (pa_cons (pv 2) pa_nil)))))))
      (pss_cons (ps_set (i := 10) sc_law.nd rfl (by first | exact Or.inl rfl | exact Or.inr rfl) (pe_cal c__law_pick (hr.mono (by decide)) (by rfl) pass0 (pa_cons (pv 1) (pa_cons (pe_lst (pa_cons pe_non (pa_cons pe_int (pa_cons pe_bl (pa_cons (pe_lst (pa_cons (pe_lst (pa_cons pe_str pa_nil)) pa_nil)) (pa_cons pe_str (pa_cons pe_str (pa_cons pe_str (pa_cons pe_str (pa_cons pe_str (pa_cons pe_str pa_nil))))))))))) pa_nil))))
      (pss_one (ps_for PassesOwn.never rfl (pi_list (pe_lst (pa_cons (pv 8) (pa_cons (pv 10) pa_nil)))) (pg_name (i := 11) sc_law.nd rfl (by first | exact Or.inl rfl | exact Or.inr rfl))
      (pss_cons (ps_set (i := 12) sc_law.nd rfl (by first | exact Or.inl rfl | exact Or.inr rfl) (pe_cal c__law_fault (hr.mono (by decide)) (by rfl) pass0 (pa_cons (pv 11) pa_nil)))
      (pss_one (ps_if (pt_cmpR op_ne (pe_callB (call_repr hgd hr hsys) (by rfl) (T.bn _ (by decide +kernel)) (by decide +kernel) (pa_cons (pe_lamS (T := TT) (k := 9) F__law_heard (by rfl) m__law_heard b__law_heard sc__law_heard rfl (.inl rfl) (fun cdv => heard_gives (hr.mono (by decide)) T eT c_show_plan) TB rfl hmT huT (hr.mono (by decide)) (LamX.lamS_by (sc := defScope s_law) (by decide +kernel)) rfl (fun _ _ _ _ _ => rfl) (fun A outer s H E f c2 hr => (pe_cal c_read_plan (hr.mono (by decide)) (by rfl) passLm (pa_cons (pv 11) pa_nil)))) pa_nil)) (pe_callB (call_repr hgd hr hsys) (by rfl) (T.bn _ (by decide +kernel)) (by decide +kernel) (pa_cons (pe_ifExp (pt_cmpR op_isN (pv 12) pe_non (nomark _)) (pv 11) (pv 12)) pa_nil)) (nomark _)) (pss_one (ps_ret pe_bl)) pss_nil)))))))))))
      (pss_cons (ps_set (i := 13) sc_law.nd rfl (by first | exact Or.inl rfl | exact Or.inr rfl) (pe_mkx (pmk_err x_BadText (hr.mono (by decide)) (by rfl) (pa_cons pe_int (pa_cons pe_int pa_nil)))))
      (pss_one (ps_ret (pe_and (pe_cmpR (op_eqD hr.units) (pe_tup (pa_cons (pe_xk (pv 13)) (pa_cons (pe_xk (pv 13)) pa_nil))) (pe_tup (pa_cons pe_int (pa_cons pe_int pa_nil))) (nomark _)) (pe_one (pe_callB call_isX (by rfl) (T.bn _ (by decide +kernel)) (by decide +kernel) (pa_cons (pv 13) (pa_cons (pe_gref (by rfl) T.m_StowError) pa_nil))))))))))), ?_⟩
    refine ⟨_, rfl, a, ns, rfl, ha, by omega, fun p c H1 hp e1 => ?_⟩
    have T1 := hT.ext e1
    refine ⟨(by show 15 ≤ sizeLine; decide), fun o no => ?_⟩
    obtain ⟨npo, nco⟩ := hp.ne no
    have e2 : Ext H1 (upd H1 o (.lst (oddS.map V.str))) := Ext.upd no
    have f2 : (upd H1 o (.lst (oddS.map V.str))) o = some (.lst (oddS.map V.str)) := upd_same
    have hp2 := hp.ext e2
    have T2 := T1.ext e2
    have eo : [V.str "", .str "a", .str "a,", .str "a,,", .str ",", .str "load", .str "load,", .str "again", .str "store", .str "forget", .str "-", .str "-,", .str "A", .str "toolong", .str "use"] = oddS.map V.str := rfl
    rw [eo]
    generalize (upd H1 o (.lst (oddS.map V.str))) = H2 at e2 f2 hp2 T2
    refine ⟨10, rfl, by decide, by decide, for_range (n := 10) (fun i σ H' => ∃ x3 x4 x5 x6 x7 x8 x9 x10 x11 x12 x13, σ = [some (.ref a), some (.ref p), some (.ref o), x3, x4, x5, x6, x7, x8, x9, x10, x11, x12, x13] ∧ PenAt H' p c ∧ LamX.Tabs TT H' ∧ H' o = some (.lst (oddS.map V.str))) ⟨_, _, _, _, _, _, _, _, _, _, _, rfl, hp2, T2, f2⟩ ?_ ?_⟩
    · rintro i σ H3 hi ⟨x3, x4, x5, x6, x7, x8, x9, x10, x11, x12, x13, rfl, hp3, T3, f3⟩
      refine ⟨(by show 0 ≤ sizeLine; decide), fun L nL => ?_⟩
      obtain ⟨npL, ncL⟩ := hp3.ne nL
      have noL : o ≠ L := ne_of_none f3 nL
      have e4 : Ext H3 (upd H3 L (.lst [])) := Ext.upd nL
      have hL4 : (upd H3 L (.lst [])) L = some (.lst (([] : List Str).map V.str)) := upd_same
      have hp4 := hp3.ext e4
      have T4 := T3.ext e4
      have f4 := e4 _ _ f3
      generalize (upd H3 L (.lst [])) = H4 at e4 hL4 hp4 T4 f4
      -- the lines
      refine ⟨fun σ' H' => ∃ (y5 y6 y7 : Option V) (ts : List Str), σ' = [some (.ref a), some (.ref p), some (.ref o), some (.int (0 + (i : Int))), some (.ref L), y5, y6, y7, x8, x9, x10, x11, x12, x13] ∧ PenAt H' p c ∧ LamX.Tabs TT H' ∧ H' o = some (.lst (oddS.map V.str)) ∧ H' L = some (.lst (ts.map V.str)) ∧ ts.length ≤ 4 ∧ ∀ x ∈ ts, OkS 45 x, ?_, ?_⟩
      · refine ⟨_, rfl, p, c, 4, rfl, hp4, by decide, by decide, fun m H5 m0 m1 hp5 kp5 => ⟨_, _, rfl, rfl, 1 + m, rfl, by omega, by omega, ?_⟩⟩
        have T5 := hp4.tabs T4 kp5
        have f5 := kp5 o _ f4 npo.symm nco.symm
        have hL5 := kp5 L _ hL4 npL.symm ncL.symm
        refine for_range (fun u σ' H' => ∃ (y5 y6 y7 : Option V) (ts : List Str), σ' = [some (.ref a), some (.ref p), some (.ref o), some (.int (0 + (i : Int))), some (.ref L), y5, y6, y7, x8, x9, x10, x11, x12, x13] ∧ PenAt H' p c ∧ LamX.Tabs TT H' ∧ H' o = some (.lst (oddS.map V.str)) ∧ H' L = some (.lst (ts.map V.str)) ∧ ts.length ≤ u ∧ ∀ x ∈ ts, OkS 45 x)
          ⟨_, _, _, [], rfl, hp5, T5, f5, hL5, Nat.le_refl _, by simp⟩ ?_ (fun σ' H' ⟨y5, y6, y7, ts, q1, q2, q3, q4, q5, q6, q7⟩ => ⟨y5, y6, y7, ts, q1, q2, q3, q4, q5, by omega, q7⟩)
        rintro u σ' H6 hu6 ⟨y5, y6, y7, ts, rfl, hp6, T6, f6, hL6, hts, hok⟩
        refine ⟨(by show 0 ≤ sizeLine; decide), fun S nS => ?_⟩
        obtain ⟨npS, ncS⟩ := hp6.ne nS
        have noS : o ≠ S := ne_of_none f6 nS
        have nLS : L ≠ S := ne_of_none hL6 nS
        have e7 : Ext H6 (upd H6 S (.lst [])) := Ext.upd nS
        have hS7 : (upd H6 S (.lst [])) S = some (.lst (([] : List Str).map V.str)) := upd_same
        have hp7 := hp6.ext e7
        have T7 := T6.ext e7
        have f7 := e7 _ _ f6
        have hL7 := e7 _ _ hL6
        generalize (upd H6 S (.lst [])) = H7 at e7 hS7 hp7 T7 f7 hL7
        refine ⟨fun σ' H' => ∃ (y7 : Option V) (ss : List Str), σ' = [some (.ref a), some (.ref p), some (.ref o), some (.int (0 + (i : Int))), some (.ref L), some (.int (0 + (u : Int))), some (.ref S), y7, x8, x9, x10, x11, x12, x13] ∧ PenAt H' p c ∧ LamX.Tabs TT H' ∧ H' o = some (.lst (oddS.map V.str)) ∧ H' L = some (.lst (ts.map V.str)) ∧ H' S = some (.lst (ss.map V.str)) ∧ ss.length ≤ 3 ∧ ∀ x ∈ ss, OkS 13 x, ?_, ?_⟩
        · refine ⟨_, rfl, p, c, 4, rfl, hp7, by decide, by decide, fun m' H8 m0' m1' hp8 kp8 => ⟨m', rfl, by omega, by omega, ?_⟩⟩
          have T8 := hp7.tabs T7 kp8
          refine for_range (fun v σ' H' => ∃ (y7 : Option V) (ss : List Str), σ' = [some (.ref a), some (.ref p), some (.ref o), some (.int (0 + (i : Int))), some (.ref L), some (.int (0 + (u : Int))), some (.ref S), y7, x8, x9, x10, x11, x12, x13] ∧ PenAt H' p c ∧ LamX.Tabs TT H' ∧ H' o = some (.lst (oddS.map V.str)) ∧ H' L = some (.lst (ts.map V.str)) ∧ H' S = some (.lst (ss.map V.str)) ∧ ss.length ≤ v ∧ ∀ x ∈ ss, OkS 13 x)
            ⟨_, [], rfl, hp8, T8, kp8 o _ f7 npo.symm nco.symm, kp8 L _ hL7 npL.symm ncL.symm, kp8 S _ hS7 npS.symm ncS.symm, Nat.le_refl _, by simp⟩ ?_ (fun σ' H' ⟨y7, ss, q1, q2, q3, q4, q5, q6, q7, q8⟩ => ⟨y7, ss, q1, q2, q3, q4, q5, q6, by omega, q8⟩)
          rintro v σ' H9 hv9 ⟨y7, ss, rfl, hp9, T9, f9, hL9, hS9, hss, hos⟩
          refine ⟨_, rfl, .inl ⟨rfl, _, SqL.of hS9⟩, _, rfl, (by show 4 ≤ sizeLine; decide), fun W nW => ?_⟩
          obtain ⟨npW, ncW⟩ := hp9.ne nW
          refine ⟨p, c, W, _, rfl, hp9.upd npW ncW, npW.symm, ncW.symm, upd_same, by simp, by simp, fun x H10 hx hp10 kp10 => ?_⟩
          have k10 : Keep p c H9 H10 := (Keep.new nW).trans kp10
          obtain ⟨z, rfl, hz⟩ : ∃ z, x = .str z ∧ OkS 13 z := by
            simp only [List.mem_cons, List.not_mem_nil, or_false] at hx
            rcases hx with rfl | rfl | rfl | rfl
            all_goals exact ⟨_, rfl, ok_lit (by decide +kernel)⟩
          have hS10 := k10 S _ hS9 npS.symm ncS.symm
          refine ⟨S, _, _, rfl, rfl, hS10, by rw [List.length_map]; omega, ?_⟩
          have em : ss.map V.str ++ [.str z] = (ss ++ [z]).map V.str := by rw [List.map_append]; rfl
          rw [em]
          refine ⟨_, ss ++ [z], rfl, hp10.upd npS ncS, tabs_upd (hp9.tabs T9 k10) hS10, ?_, ?_, upd_same, by rw [List.length_append]; show _ + 1 ≤ _; omega, fun x hx => ?_⟩
          · rw [upd_ne noS]; exact k10 o _ f9 npo.symm nco.symm
          · rw [upd_ne nLS]; exact k10 L _ hL9 npL.symm ncL.symm
          · rcases List.mem_append.mp hx with hx | hx
            · exact hos x hx
            · rw [List.mem_singleton.mp hx]; exact hz
        · rintro σ' H8 ⟨y7, ss, rfl, hp8, T8, f8, hL8, hS8, hss, hos⟩
          -- the line
          refine ⟨_, rfl, .inl ⟨rfl, _, SqL.of hL8⟩, _, rfl, (by show 0 ≤ sizeLine; decide), fun q nq => ?_⟩
          have eq : Ext H8 (upd H8 q (.lst [])) := Ext.upd nq
          refine ⟨S, q, _, rfl, rfl, eq _ _ hS8, upd_same, _, rfl, ?_⟩
          have hp9 := hp8.ext eq
          have T9 := T8.ext eq
          have f9 := eq _ _ f8
          have hL9 := eq _ _ hL8
          have hS9 := eq _ _ hS8
          generalize (upd H8 q (.lst [])) = H9 at eq hp9 T9 f9 hL9 hS9
          have fin : ∀ z, OkS 45 z → ∃ (ts' : List Str), PenAt (upd H9 L (.lst (ts.map V.str ++ [.str z]))) p c ∧ LamX.Tabs TT (upd H9 L (.lst (ts.map V.str ++ [.str z]))) ∧ (upd H9 L (.lst (ts.map V.str ++ [.str z]))) o = some (.lst (oddS.map V.str)) ∧ (upd H9 L (.lst (ts.map V.str ++ [.str z]))) L = some (.lst (ts'.map V.str)) ∧ ts'.length ≤ u + 1 ∧ ∀ x ∈ ts', OkS 45 x := fun z hz => by
            refine ⟨ts ++ [z], hp9.upd npL ncL, tabs_upd T9 hL9, by rw [upd_ne noL]; exact f9, by rw [upd_same, List.map_append]; rfl, by rw [List.length_append]; show _ + 1 ≤ _; omega, fun x hx => ?_⟩
            rcases List.mem_append.mp hx with hx | hx
            · exact hok x hx
            · rw [List.mem_singleton.mp hx]; exact hz
          have hll : (ts.map V.str).length < sizeLine := by rw [List.length_map]; omega
          cases hse : (ss.map V.str).isEmpty with
          | true =>
            refine iteF ?_
            obtain ⟨ts', r2, r3, r4, r5, r6, r7⟩ := fin "-" (ok_lit (by decide +kernel))
            exact ⟨L, _, _, rfl, rfl, hL9, hll, _, _, _, ts', rfl, r2, r3, r4, r5, r6, r7⟩
          | false =>
            refine iteT ?_
            have hw := small_line hss hos
            have hoj : OkS 45 (Txt.join ", " ss) := ok_join (by rw [cs_tl]; simp) (fun p hp => (hos p hp).2) hw
            obtain ⟨ts', r2, r3, r4, r5, r6, r7⟩ := fin _ hoj
            exact ⟨⟨_, rfl⟩, _, rfl, _, S, ss, rfl, rfl, .inl (SqL.of hS9), Nat.le_trans hw (by decide), L, _, _, rfl, rfl, hL9, hll, _, _, _, ts', rfl, r2, r3, r4, r5, r6, r7⟩
      · rintro σ' H5 ⟨y5, y6, y7, ts, rfl, hp5, T5, f5, hL5, hts, hok⟩
        -- the text
        have hw := small_text hts hok
        have hoj : OkS 184 (Txt.join "\n" ts) := ok_join nl_pl (fun p hp => (hok p hp).2) hw
        refine ⟨⟨_, rfl⟩, _, rfl, _, L, ts, rfl, rfl, .inl (SqL.of hL5), Nat.le_trans hw (by decide), ?_⟩
        generalize Txt.join "\n" ts = z0 at hoj
        refine ⟨fun σ' H' => ∃ y9 z, σ' = [some (.ref a), some (.ref p), some (.ref o), some (.int (0 + (i : Int))), some (.ref L), y5, y6, y7, some (.str z), y9, x10, x11, x12, x13] ∧ PenAt H' p c ∧ LamX.Tabs TT H' ∧ H' o = some (.lst (oddS.map V.str)) ∧ OkS 4000 z, ?_, ?_⟩
        · refine ⟨_, rfl, p, c, 2, rfl, hp5, by decide, by decide, fun m H6 m0 m1 hp6 kp6 => ⟨_, _, rfl, rfl, 1 + m, rfl, by omega, by omega, ?_⟩⟩
          refine for_range (fun u σ' H' => ∃ y9 z, σ' = [some (.ref a), some (.ref p), some (.ref o), some (.int (0 + (i : Int))), some (.ref L), y5, y6, y7, some (.str z), y9, x10, x11, x12, x13] ∧ PenAt H' p c ∧ LamX.Tabs TT H' ∧ H' o = some (.lst (oddS.map V.str)) ∧ OkS (bnd u) z)
            ⟨_, z0, rfl, hp6, hp5.tabs T5 kp6, kp6 o _ f5 npo.symm nco.symm, hoj⟩ ?_ (fun σ' H' ⟨y9, z, q1, q2, q3, q4, q5⟩ => ⟨y9, z, q1, q2, q3, q4, ?_⟩)
          · rintro u σ' H7 hu7 ⟨y9, z, rfl, hp7, T7, f7, hz7⟩
            have hb : bnd u ≤ 1000 := by
              have : u = 0 ∨ u = 1 := by omega
              rcases this with rfl | rfl <;> decide
            refine ⟨_, rfl, _, rfl, _, rfl, p, c, o, bnd u, z, oddS, rfl, hp7, npo.symm, nco.symm, f7, by simp [oddS], by decide, odd_ok, hz7, hb, fun z' H8 hz8 hp8 kp8 => ?_⟩
            exact ⟨_, z', rfl, hp8, hp7.tabs T7 kp8, kp8 o _ f7 npo.symm nco.symm, hz8⟩
          · have : (1 + m).toNat = 1 ∨ (1 + m).toNat = 2 := by omega
            rcases this with e | e <;> (rw [e] at q5; exact q5.mono (by decide))
        · rintro σ' H6 ⟨y9, z, rfl, hp6, T6, f6, hz⟩
          -- another thing
          refine ⟨_, rfl, (by show 1 ≤ sizeLine; decide), fun q1 n1 => ?_⟩
          have e7 : Ext H6 (upd H6 q1 (.lst [.str "load a"])) := Ext.upd n1
          have g7 : (upd H6 q1 (.lst [.str "load a"])) q1 = some (.lst [.str "load a"]) := upd_same
          obtain ⟨np1, nc1⟩ := hp6.ne n1
          generalize (upd H6 q1 (.lst [.str "load a"])) = H7 at e7 g7
          refine ⟨(by show 1 ≤ sizeLine; decide), fun q2 n2 => ?_⟩
          have hp7 := hp6.ext e7
          have e8 : Ext H7 (upd H7 q2 (.lst [.ref q1])) := Ext.upd n2
          have g8 : (upd H7 q2 (.lst [.ref q1])) q2 = some (.lst [.ref q1]) := upd_same
          obtain ⟨np2, nc2⟩ := hp7.ne n2
          generalize (upd H7 q2 (.lst [.ref q1])) = H8 at e8 g8
          refine ⟨(by show 10 ≤ sizeLine; decide), fun q3 n3 => ?_⟩
          have hp8 := hp7.ext e8
          obtain ⟨np3, nc3⟩ := hp8.ne n3
          have e9 : Ext H8 (upd H8 q3 (.lst [.non, .int 7, .bl true, .ref q2, .str "", .str "\n", .str "-\n", .str "- -", .str "load a,", .str "load a store b"])) := Ext.upd n3
          refine ⟨p, c, q3, _, rfl, hp8.ext e9, np3.symm, nc3.symm, upd_same, by simp, by simp, fun x H10 hx hp10 kp10 => ?_⟩
          have k10 : Keep p c H6 H10 := (Keep.ext (e7.trans (e8.trans e9))).trans kp10
          have g10 : H10 q1 = some (.lst [.str "load a"]) := kp10 q1 _ (e9 _ _ (e8 _ _ g7)) np1.symm nc1.symm
          have g11 : H10 q2 = some (.lst [.ref q1]) := kp10 q2 _ (e9 _ _ g8) np2.symm nc2.symm
          have T10 := hp6.tabs T6 k10
          have f10 := k10 o _ f6 npo.symm nco.symm
          obtain ⟨d, hd, hv⟩ : ∃ d, Ask d ∧ TV H10 x d := by
            simp only [List.mem_cons, List.not_mem_nil, or_false] at hx
            rcases hx with rfl | rfl | rfl | rfl | rfl | rfl | rfl | rfl | rfl | rfl
            · exact ⟨.none, Ask.no rfl, .non⟩
            · exact ⟨.int 7, Ask.no rfl, .int _⟩
            · exact ⟨.bool true, Ask.no rfl, .bl _⟩
            · exact ⟨.list [.list [.str "load a"]], Ask.no rfl, .lst g11 (.cons (.lst g10 (.cons (.str _) .nil)) .nil)⟩
            all_goals exact ⟨.str _, Ask.str (ok_lit (by decide +kernel)), .str _⟩
          -- both are told
          refine ⟨_, rfl, _, rfl, (by show 2 ≤ sizeLine; decide), fun q4 n4 => ?_⟩
          have e11 : Ext H10 (upd H10 q4 (.lst [.str z, x])) := Ext.upd n4
          have g4 : (upd H10 q4 (.lst [.str z, x])) q4 = some (.lst [.str z, x]) := upd_same
          have hp11 := hp10.ext e11
          have T11 := T10.ext e11
          have f11 := e11 _ _ f10
          have hv11 := hv.ext e11
          generalize (upd H10 q4 (.lst [.str z, x])) = H11 at e11 g4 hp11 T11 f11 hv11
          refine ⟨q4, rfl, ⟨_, SqL.of g4⟩, for_it (walk_list (xs := [.str z, x])) (fun u σ' H' => ∃ y11 y12, σ' = [some (.ref a), some (.ref p), some (.ref o), some (.int (0 + (i : Int))), some (.ref L), y5, y6, y7, some (.str z), y9, some x, y11, y12, x13] ∧ LamX.ExtN H11 H' ∧ LamX.Tabs TT H') ⟨_, _, rfl, LamX.ExtN.of Ext.rfl', T11⟩ (fun u σ' H' _ ⟨_, _, _, e, _⟩ => SqL.of (e _ _ g4 (fun ps z => nomatch z))) ?_ ?_⟩
          · rintro u v σ' _ H12 hu12 ⟨y11, y12, rfl, x12', T12⟩ ⟨rfl, hxv⟩
            obtain ⟨d', hd', hv'⟩ : ∃ d', Ask d' ∧ TV H12 v d' := by
              match u, hxv with
              | 0, hxv =>
                have : v = .str z := (Option.some.inj hxv).symm
                subst this
                exact ⟨.str z, Ask.str hz, .str _⟩
              | 1, hxv =>
                have : v = x := (Option.some.inj hxv).symm
                subst this
                exact ⟨d, hd, tv_N hv11 x12'⟩
            cases hpd : planD d' with
            | inl er =>
              obtain ⟨b1, b2⟩ := plan_le hd'.sm hpd
              have sh := shw_pair (i := er.1) (j := er.2) (by omega) (by omega)
              refine ⟨_, rfl, v, d', rfl, hv', hd'.sm, fun e he t H13 e13 ht => ?_, fun plan hp => by rw [hpd] at hp; cases hp⟩
              rw [hpd] at he
              cases he
              have T13 := T12.ext e13
              have ht13 := (nw_some ht).2
              refine ⟨T13, fun H14 x14 T14 H15 e15 E' Q' hE hQ => ⟨_, rfl, v, d', rfl, (tv_N (hv'.ext e13) x14).ext e15, hd'.sm, fun plan hp => (by rw [hpd] at hp; cases hp), fun e he dd H16 e16 hdd => hE _ _ _ ⟨dd, _, _, rfl, rfl, (nw_some hdd).2, fun t2 H17 e17 ht2 => ?_⟩⟩⟩
              have : er = e := by
                rw [hpd] at he
                exact Sum.inl.inj he
              subst this
              have x17 : LamX.ExtN H13 H17 := x14.trans (LamX.ExtN.of (e15.trans (e16.trans e17)))
              have T17 := T14.ext (e15.trans (e16.trans e17))
              have h17 : H17 t = some (.tup [.int (er.1 : Nat), .int (er.2 : Nat)]) := x17 _ _ ht13 (fun ps z => nomatch z)
              refine ⟨_, .tuple [.int er.1, .int er.2], rfl, .tup (nw_some ht2).2 (.cons (.int _) (.cons (.int _) .nil)), sh.sh, Nat.le_trans sh.dp (by decide), Nat.le_trans sh.ln (by decide), ?_⟩
              refine ⟨_, rfl, rfl, _, rfl, ?_⟩
              refine iteNo (decide_eq_false (by intro z; cases z)) ?_
              refine ⟨_, rfl, _, .tuple [.int er.1, .int er.2], rfl, .tup h17 (.cons (.int _) (.cons (.int _) .nil)), sh.sh, Nat.le_trans sh.dp (by decide), Nat.le_trans sh.ln (by decide), rfl, _, rfl, ?_⟩
              refine iteNo (by rw [decide_eq_true rfl]; rfl) ?_
              exact ⟨_, _, rfl, (x12'.trans (LamX.ExtN.of e13)).trans x17, T17⟩
            | inr plan =>
              have hstr : isStrD d' = true := by
                cases d' <;> first | rfl | cases hpd
              obtain ⟨z', rfl⟩ := strD hstr
              cases tv_str hv'
              obtain ⟨pb1, pb2⟩ := plan_back hpd
              have sh := hd'.sw plan hpd
              refine ⟨_, rfl, _, .str z', rfl, hv', hd'.sm, fun e he => (by rw [hpd] at he; cases he), fun plan' hp' H13 e13 => ?_⟩
              have T13 := T12.ext e13
              refine ⟨T13, fun H14 x14 T14 H15 e15 E' Q' hE hQ => ⟨_, rfl, _, .str z', rfl, .str _, hd'.sm, fun plan2 hp2 aa H16 e16 hpa => hQ _ _ ⟨aa, plan2, rfl, hpa.mono nw_ext, ?_, ?_, fun H17 e17 => ?_⟩, fun e he => (by rw [hpd] at he; cases he)⟩⟩
              · rw [hpd] at hp2
                cases hp2
                exact pb2
              · rw [hpd] at hp2
                cases hp2
                exact fits_of pb1 (Nat.le_trans (hd'.sm z' rfl) (by decide))
              · rw [hpd] at hp2
                cases hp2
                rw [pb1]
                have x17 : LamX.ExtN H13 H17 := x14.trans (LamX.ExtN.of (e15.trans (e16.trans e17)))
                have T17 := T14.ext (e15.trans (e16.trans e17))
                refine ⟨_, .str z', rfl, .str _, sh.sh, Nat.le_trans sh.dp (by decide), Nat.le_trans sh.ln (by decide), ?_⟩
                refine ⟨_, rfl, rfl, _, rfl, ?_⟩
                refine iteYes (decide_eq_true rfl) ?_
                refine ⟨_, rfl, _, .str z', rfl, .str _, sh.sh, Nat.le_trans sh.dp (by decide), Nat.le_trans sh.ln (by decide), rfl, _, rfl, ?_⟩
                refine iteNo (by rw [decide_eq_true rfl]; rfl) ?_
                exact ⟨_, _, rfl, (x12'.trans (LamX.ExtN.of e13)).trans x17, T17⟩
          · rintro σ' H12 ⟨y11, y12, rfl, x12', T12⟩
            exact ⟨_, _, _, _, _, _, _, _, _, _, _, rfl, hp11.extN x12', T12, x12' _ _ f11 (fun ps z => nomatch z)⟩
    · rintro σ H3 ⟨x3, x4, x5, x6, x7, x8, x9, x10, x11, x12, x13, rfl, hp3, T3, f3⟩
      refine ⟨rfl, (by show 2 ≤ 1000; decide), fun dd nd aa na => ?_⟩
      have hdd : (upd (upd H3 dd (.xd [("word", .int 3), ("line", .int 2)])) aa (exk aa (.ref CT) (some dd))) dd = some (.xd [("word", .int 3), ("line", .int 2)]) := by rw [upd_ne (ne_of_none upd_same na)]; exact upd_same
      have haa : (upd (upd H3 dd (.xd [("word", .int 3), ("line", .int 2)])) aa (exk aa (.ref CT) (some dd))) aa = some (exk aa (.ref CT) (some dd)) := upd_same
      have ez : [(("word" : Str), V.int 3), (("line" : Str), V.int 2)] = ((["line", "word"] : List Str).zip [V.int 2, V.int 3]).reverse := rfl
      rw [← ez]
      generalize (upd (upd H3 dd (.xd [("word", .int 3), ("line", .int 2)])) aa (exk aa (.ref CT) (some dd))) = H4 at hdd haa
      refine ⟨_, rfl, aa, _, dd, _, _, rfl, haa, eT.xf, eT.noL, hdd, by rfl, _, rfl, aa, _, dd, _, _, rfl, haa, eT.xf, eT.noW, hdd, by rfl, (by show 2 ≤ sizeLine; decide), fun t1 n1 => ?_⟩
      have e5 : Ext H4 (upd H4 t1 (.tup [.int 2, .int 3])) := Ext.upd n1
      have g5 : (upd H4 t1 (.tup [.int 2, .int 3])) t1 = some (.tup [.int 2, .int 3]) := upd_same
      generalize (upd H4 t1 (.tup [.int 2, .int 3])) = H5 at e5 g5
      refine ⟨(by show 2 ≤ sizeLine; decide), fun t2 n2 => ?_⟩
      have e6 : Ext H5 (upd H5 t2 (.tup [.int 2, .int 3])) := Ext.upd n2
      refine ⟨.tuple [.int 2, .int 3], .tuple [.int 2, .int 3], .tup (SqT.of (e6 _ _ g5)) (.cons (.int _) (.cons (.int _) .nil)), .tup (SqT.of upd_same) (.cons (.int _) (.cons (.int _) .nil)), rfl, rfl, true, rfl, ?_⟩
      refine iteT ?_
      generalize (upd H5 t2 (.tup [.int 2, .int 3])) = H6 at e6
      have hdd6 := e6 _ _ (e5 _ _ hdd)
      refine ⟨_, rfl, aa, _, _, _, _, true, rfl, e6 _ _ (e5 _ _ haa), eT.ec, fun d' z => ?_, fun u r => r, eT.up, ?_⟩
      · cases z
        exact ⟨_, hdd6⟩
      · exact k H6
end
end K95
end
section
set_option Elab.async false
set_option linter.all false
set_option maxRecDepth 100000
set_option maxHeartbeats 8000000
namespace K95
open PySem PySem.Spec PyProof.Rows L2 Ls
theorem all_mk {l : PySem.W.OpenLaw} {w : World} {K : PySem.W.Frag} {q : Program} {h : Heap} {mg : Str → Option Value} {fa : Addr} (X : K.In h) (G : h.Ns mainGlobals mg) (hfa : mg "law" = some (.ref fa))
    (ow : ∀ (x : Str) (fx : Addr), ((recsOf q).any fun e => e.name == x) = true → mg x = some (.ref fx) → LamX.OwnTab K fx h)
    {tL tN : Tok} {zL : Str}
    {t1 t2 t3 t4 : Tok} {z1 z2 z3 z4 : Str} {mw CM : Addr} {ddW : Option Addr} {nW_ : Nat} {slW : Array (Option Value)}
    {CE : Addr}
    {fMI fE fS fR pR : Addr} {mc : Value} {restR : List Value}
    {odMI anMI : Option Addr} {slMI : Array (Option Value)} {ocMI kVMI dcMI pmMI ctMI : Value}
    {cdMI : Value}
    {odS anS : Option Addr} {slS : Array (Option Value)} {ocS kVS dcS pmS ctS : Value}
    {cdS : Value}
    {odR anR : Option Addr} {slR : Array (Option Value)} {ocR kVR dcR pmR ctR : Value}
    {cdR : Value}
    {CL : Addr}
    {CA : Addr}
    {CS : Addr}
    {CF : Addr}
    {fL_ ccL cdaL : Addr} {clL cclL : Value} {cldL cddL : Option Addr} {cslL ccsL : Array (Option Value)} {vsL : Array Value} {fileL : Str} {tfL : Tok} {cdatL : ClassData}
    {odIL anIL : Option Addr} {slIL : Array (Option Value)} {ocIL kVIL dcIL pmIL ctIL : Value}
    {fA_ ccA cdaA : Addr} {clA cclA : Value} {cldA cddA : Option Addr} {cslA ccsA : Array (Option Value)} {vsA : Array Value} {fileA : Str} {tfA : Tok} {cdatA : ClassData}
    {odIA anIA : Option Addr} {slIA : Array (Option Value)} {ocIA kVIA dcIA pmIA ctIA : Value}
    {fS_ ccS cdaS : Addr} {clS cclS : Value} {cldS cddS : Option Addr} {cslS ccsS : Array (Option Value)} {vsS : Array Value} {fileS : Str} {tfS : Tok} {cdatS : ClassData}
    {odIS anIS : Option Addr} {slIS : Array (Option Value)} {ocIS kVIS dcIS pmIS ctIS : Value}
    {fF_ ccF cdaF : Addr} {clF cclF : Value} {cldF cddF : Option Addr} {cslF ccsF : Array (Option Value)} {vsF : Array Value} {fileF : Str} {tfF : Tok} {cdatF : ClassData}
    {odIF anIF : Option Addr} {slIF : Array (Option Value)} {ocIF kVIF dcIF pmIF ctIF : Value}
    {CT : Addr}
    {fT_ ccT cdaT : Addr} {clT cclT : Value} {cldT cddT : Option Addr} {cslT ccsT : Array (Option Value)} {vsT : Array Value} {fileT : Str} {tfT : Tok} {cdatT : ClassData}
    {xnmT xqT : Str} {xNT : Addr} {xbsT xbmT xsubT : List Value} {xsnT : List Str} {xabT : Bool} {xcolT : Option Bool} {xddT : Option Addr} {xaT xbT xcT xdT xeT : Option Value}
    {odIT anIT : Option Addr} {slIT : Array (Option Value)} {ocIT kVIT dcIT pmIT ctIT : Value}
    {f_is_name : Addr}
    {od_is_name an_is_name : Option Addr} {sl_is_name : Array (Option Value)} {oc_is_name kV_is_name dc_is_name pm_is_name ct_is_name : Value}
    {cd_is_name : Value}
    {f_move_of : Addr}
    {od_move_of an_move_of : Option Addr} {sl_move_of : Array (Option Value)} {oc_move_of kV_move_of dc_move_of pm_move_of ct_move_of : Value}
    {cd_move_of : Value}
    {f_lines_of : Addr}
    {od_lines_of an_lines_of : Option Addr} {sl_lines_of : Array (Option Value)} {oc_lines_of kV_lines_of dc_lines_of pm_lines_of ct_lines_of : Value}
    {cd_lines_of : Value}
    {f_need_words : Addr}
    {od_need_words an_need_words : Option Addr} {sl_need_words : Array (Option Value)} {oc_need_words kV_need_words dc_need_words pm_need_words ct_need_words : Value}
    {cd_need_words : Value}
    {f_show_plan : Addr}
    {od_show_plan an_show_plan : Option Addr} {sl_show_plan : Array (Option Value)} {oc_show_plan kV_show_plan dc_show_plan pm_show_plan ct_show_plan : Value}
    {cd_show_plan : Value}
    {f_read_row : Addr}
    {od_read_row an_read_row : Option Addr} {sl_read_row : Array (Option Value)} {oc_read_row kV_read_row dc_read_row pm_read_row ct_read_row : Value}
    {cd_read_row : Value}
    {f_read_plan : Addr}
    {od_read_plan an_read_plan : Option Addr} {sl_read_plan : Array (Option Value)} {oc_read_plan kV_read_plan dc_read_plan pm_read_plan ct_read_plan : Value}
    {cd_read_plan : Value}
    {f__law_pen : Addr}
    {od__law_pen an__law_pen : Option Addr} {sl__law_pen : Array (Option Value)} {oc__law_pen kV__law_pen dc__law_pen pm__law_pen ct__law_pen : Value}
    {cd__law_pen : Value}
    {f__law_draw : Addr}
    {od__law_draw an__law_draw : Option Addr} {sl__law_draw : Array (Option Value)} {oc__law_draw kV__law_draw dc__law_draw pm__law_draw ct__law_draw : Value}
    {cd__law_draw : Value}
    {f__law_pick : Addr}
    {od__law_pick an__law_pick : Option Addr} {sl__law_pick : Array (Option Value)} {oc__law_pick kV__law_pick dc__law_pick pm__law_pick ct__law_pick : Value}
    {cd__law_pick : Value}
    {f__law_is_name : Addr}
    {od__law_is_name an__law_is_name : Option Addr} {sl__law_is_name : Array (Option Value)} {oc__law_is_name kV__law_is_name dc__law_is_name pm__law_is_name ct__law_is_name : Value}
    {cd__law_is_name : Value}
    {f__law_bent : Addr}
    {od__law_bent an__law_bent : Option Addr} {sl__law_bent : Array (Option Value)} {oc__law_bent kV__law_bent dc__law_bent pm__law_bent ct__law_bent : Value}
    {cd__law_bent : Value}
    {f__law_row_fault : Addr}
    {od__law_row_fault an__law_row_fault : Option Addr} {sl__law_row_fault : Array (Option Value)} {oc__law_row_fault kV__law_row_fault dc__law_row_fault pm__law_row_fault ct__law_row_fault : Value}
    {cd__law_row_fault : Value}
    {f__law_fault : Addr}
    {od__law_fault an__law_fault : Option Addr} {sl__law_fault : Array (Option Value)} {oc__law_fault kV__law_fault dc__law_fault pm__law_fault ct__law_fault : Value}
    {cd__law_fault : Value}
    {f__law_heard : Addr}
    {od__law_heard an__law_heard : Option Addr} {sl__law_heard : Array (Option Value)} {oc__law_heard kV__law_heard dc__law_heard pm__law_heard ct__law_heard : Value}
    {cd__law_heard : Value}
    {f_law : Addr}
    {q1 P1 : Addr} {qd1 : Option Addr} {qv1 : Array Value} {qs1 : Array (Option Value)} {qf1 : Str} {qt1 qg1 qh1 : Tok} {qi1 qj1 : Int} {qb1 : Bool}
    {od_law an_law : Option Addr} {sl_law : Array (Option Value)} {oc_law kV_law dc_law pm_law ct_law : Value}
    (b0 : PySem.W.nsIn K mainGlobals "len" = some none)
    (b1 : PySem.W.nsIn K mainGlobals "int" = some none)
    (b2 : PySem.W.nsIn K mainGlobals "abs" = some none)
    (b3 : PySem.W.nsIn K mainGlobals "list" = some none)
    (b4 : PySem.W.nsIn K mainGlobals "str" = some none)
    (b5 : PySem.W.nsIn K mainGlobals "isinstance" = some none)
    (b6 : PySem.W.nsIn K mainGlobals "all" = some none)
    (b7 : PySem.W.nsIn K mainGlobals "enumerate" = some none)
    (b8 : PySem.W.nsIn K mainGlobals "range" = some none)
    (b9 : PySem.W.nsIn K mainGlobals "tuple" = some none)
    (b10 : PySem.W.nsIn K mainGlobals "super" = some none)
    (b11 : PySem.W.nsIn K mainGlobals "repr" = some none)
    (gL : PySem.W.nsIn K mainGlobals "LETTERS" = some (some (.str zL tL)))
    (eL : zL = lettersS)
    (gN : PySem.W.nsIn K mainGlobals "LONGEST_NAME" = some (some (.int 6 tN)))
    (gW : PySem.W.nsIn K mainGlobals "MOVE_WORDS" = some (some (.ref mw)))
    (lW : K.lookup mw = some ⟨.type "tuple", ddW, .seq #[.str z1 t1, .str z2 t2, .str z3 t3, .str z4 t4] nW_, slW⟩)
    (eW : [z1, z2, z3, z4] = W4)
    (gM : PySem.W.nsIn K mainGlobals "Move" = some (some (.ref CM)))
    (hn : PySem.W.specialIn K (.builtin "object.__class__") "__get__" = some (some (.builtin "getset_descriptor.__get__")))
    (htk : PySem.W.takesIn K (.builtin "object.__class__") = some true)
    (any_ : PySem.W.nsIn K cStatics "thirdparty.any" = some none)
    (top_ : (l.prog.main.scope.names.lookup ("super" : Str)).isSome = false)
    (gCE : PySem.W.nsIn K mainGlobals "StowError" = some (some (.ref CE)))
    (eE1 : PySem.W.subIn K (.ref CE) (.type "BaseException") = some true)
    (eE2 : PySem.W.hasDictIn K CE = true)
    (eE3 : PySem.W.typeIn K (.ref CE) = some (.type "type"))
    (aMI : PySem.W.findIn K (.ref CM) "__init__" = some (some (.ref fMI)))
    (lMI : K.lookup fMI = some ⟨ocMI, odMI, .func (PySem.W.fnOf "__init__" "Move.__init__" (defArgs s_Move_init) (defBody s_Move_init) (defScope s_Move_init) .none kVMI dcMI pmMI anMI cdMI ctMI), slMI⟩)
    (cMI : PySem.W.codeIn K cdMI "Move.__init__" = true)
    (kMI : PySem.W.keepIn K (.ref fMI) = true)
    (tMI : PySem.W.typeIn K (.ref fMI) = some (.type "function"))
    (fiMI : PySem.W.fnIn K fMI = true)
    (aE : PySem.W.findIn K (.ref CM) "__eq__" = some (some (.ref fE)))
    (aS : PySem.W.findIn K (.ref CM) "__str__" = some (some (.ref fS)))
    (lS : K.lookup fS = some ⟨ocS, odS, .func (PySem.W.fnOf "__str__" "Move.__str__" (defArgs s_Move_str) (defBody s_Move_str) (defScope s_Move_str) .none kVS dcS pmS anS cdS ctS), slS⟩)
    (cS : PySem.W.codeIn K cdS "Move.__str__" = true)
    (kS : PySem.W.keepIn K (.ref fS) = true)
    (iS : PySem.W.isFn K (.ref fS) = true)
    (tyM : PySem.W.typeIn K (.ref CM) = some mc)
    (rdM : PySem.W.readsIn K CM mc = true)
    (gaM : PySem.W.specialIn K (.ref CM) "__getattribute__" = some (some (.builtin "type.__getattribute__")))
    (atR : PySem.W.findCls K (.ref CM) mc "read" = some (.get (.builtin "classmethod.__get__") (.ref pR) .none (.ref CM)))
    (rcR : PySem.W.recIn K pR "classmethod" = some (.ref fR :: restR))
    (fiR : PySem.W.fnIn K fR = true)
    (lR : K.lookup fR = some ⟨ocR, odR, .func (PySem.W.fnOf "read" "Move.read" (defArgs s_Move_read) (defBody s_Move_read) (defScope s_Move_read) .none kVR dcR pmR anR cdR ctR), slR⟩)
    (cR : PySem.W.codeIn K cdR "Move.read" = true)
    (kR : PySem.W.keepIn K (.ref fR) = true)
    (gL_ : PySem.W.nsIn K mainGlobals "Load" = some (some (.ref CL)))
    (pgL : PySem.W.plainGet K CL Str.empty = true)
    (hdL : PySem.W.hasDictIn K CL = true)
    (poL : PySem.W.plainOver K CL = true)
    (saL : PySem.W.findIn K (.ref CL) "__setattr__" = some (some (.builtin "object.__setattr__")))
    (nWL : PySem.W.findIn K (.ref CL) "word" = some none)
    (nNL : PySem.W.findIn K (.ref CL) "name" = some none)
    (haL : PySem.W.findIn K (.ref CL) "__class__" = some (some (.builtin "object.__class__")))
    (hmL : PySem.W.mroIn K CL (.type "object") = some true)
    (kitL : PySem.W.kitOne K (.ref CL) (.ref CM) = some true)
    (stL : PySem.W.findIn K (.ref CL) "__str__" = some (some (.ref fS)))
    (eqL : PySem.W.findIn K (.ref CL) "__eq__" = some (some (.ref fE)))
    (mkL : PySem.W.makesIn K CL = true)
    (inL : PySem.W.findIn K (.ref CL) "__init__" = some (some (.ref fL_)))
    (fnL : PySem.W.isFn K (.ref fL_) = true)
    (kpL : PySem.W.keepIn K (.ref CL) = true)
    (lIL : K.lookup fL_ = some ⟨ocIL, odIL, .func (PySem.W.ksFn "__init__" "Load.__init__" (defArgs s_Load_init) (defBody s_Load_init) (defScope s_Load_init) .none kVIL dcIL pmIL anIL (.ref cdaL) ctIL ccL), slIL⟩)
    (cIL : PySem.W.codeIn K (.ref cdaL) "Load.__init__" = true)
    (kIL : PySem.W.keepIn K (.ref fL_) = true)
    (ceL : K.lookup ccL = some ⟨clL, cldL, .cell (some (.ref CL)), cslL⟩)
    (coL : K.lookup cdaL = some ⟨cclL, cddL, .fields vsL, ccsL⟩)
    (v2L : vsL[2]? = some (.str fileL tfL))
    (flL : ((l.prog.main.file : Str) == fileL) = true)
    (cd_L : PySem.W.clsIn K CL = some cdatL)
    (sbL : PySem.W.mroIn K CL (.ref CL) = some true)
    (fd_L : PySem.W.ks_superIn K CL CL "__init__" = some (some (.ref fMI)))
    (gA_ : PySem.W.nsIn K mainGlobals "Again" = some (some (.ref CA)))
    (pgA : PySem.W.plainGet K CA Str.empty = true)
    (hdA : PySem.W.hasDictIn K CA = true)
    (poA : PySem.W.plainOver K CA = true)
    (saA : PySem.W.findIn K (.ref CA) "__setattr__" = some (some (.builtin "object.__setattr__")))
    (nWA : PySem.W.findIn K (.ref CA) "word" = some none)
    (nNA : PySem.W.findIn K (.ref CA) "name" = some none)
    (haA : PySem.W.findIn K (.ref CA) "__class__" = some (some (.builtin "object.__class__")))
    (hmA : PySem.W.mroIn K CA (.type "object") = some true)
    (kitA : PySem.W.kitOne K (.ref CA) (.ref CM) = some true)
    (stA : PySem.W.findIn K (.ref CA) "__str__" = some (some (.ref fS)))
    (eqA : PySem.W.findIn K (.ref CA) "__eq__" = some (some (.ref fE)))
    (mkA : PySem.W.makesIn K CA = true)
    (inA : PySem.W.findIn K (.ref CA) "__init__" = some (some (.ref fA_)))
    (fnA : PySem.W.isFn K (.ref fA_) = true)
    (kpA : PySem.W.keepIn K (.ref CA) = true)
    (lIA : K.lookup fA_ = some ⟨ocIA, odIA, .func (PySem.W.ksFn "__init__" "Again.__init__" (defArgs s_Again_init) (defBody s_Again_init) (defScope s_Again_init) .none kVIA dcIA pmIA anIA (.ref cdaA) ctIA ccA), slIA⟩)
    (cIA : PySem.W.codeIn K (.ref cdaA) "Again.__init__" = true)
    (kIA : PySem.W.keepIn K (.ref fA_) = true)
    (ceA : K.lookup ccA = some ⟨clA, cldA, .cell (some (.ref CA)), cslA⟩)
    (coA : K.lookup cdaA = some ⟨cclA, cddA, .fields vsA, ccsA⟩)
    (v2A : vsA[2]? = some (.str fileA tfA))
    (flA : ((l.prog.main.file : Str) == fileA) = true)
    (cd_A : PySem.W.clsIn K CA = some cdatA)
    (sbA : PySem.W.mroIn K CA (.ref CA) = some true)
    (fd_A : PySem.W.ks_superIn K CA CA "__init__" = some (some (.ref fMI)))
    (gS_ : PySem.W.nsIn K mainGlobals "Store" = some (some (.ref CS)))
    (pgS : PySem.W.plainGet K CS Str.empty = true)
    (hdS : PySem.W.hasDictIn K CS = true)
    (poS : PySem.W.plainOver K CS = true)
    (saS : PySem.W.findIn K (.ref CS) "__setattr__" = some (some (.builtin "object.__setattr__")))
    (nWS : PySem.W.findIn K (.ref CS) "word" = some none)
    (nNS : PySem.W.findIn K (.ref CS) "name" = some none)
    (haS : PySem.W.findIn K (.ref CS) "__class__" = some (some (.builtin "object.__class__")))
    (hmS : PySem.W.mroIn K CS (.type "object") = some true)
    (kitS : PySem.W.kitOne K (.ref CS) (.ref CM) = some true)
    (stS : PySem.W.findIn K (.ref CS) "__str__" = some (some (.ref fS)))
    (eqS : PySem.W.findIn K (.ref CS) "__eq__" = some (some (.ref fE)))
    (mkS : PySem.W.makesIn K CS = true)
    (inS : PySem.W.findIn K (.ref CS) "__init__" = some (some (.ref fS_)))
    (fnS : PySem.W.isFn K (.ref fS_) = true)
    (kpS : PySem.W.keepIn K (.ref CS) = true)
    (lIS : K.lookup fS_ = some ⟨ocIS, odIS, .func (PySem.W.ksFn "__init__" "Store.__init__" (defArgs s_Store_init) (defBody s_Store_init) (defScope s_Store_init) .none kVIS dcIS pmIS anIS (.ref cdaS) ctIS ccS), slIS⟩)
    (cIS : PySem.W.codeIn K (.ref cdaS) "Store.__init__" = true)
    (kIS : PySem.W.keepIn K (.ref fS_) = true)
    (ceS : K.lookup ccS = some ⟨clS, cldS, .cell (some (.ref CS)), cslS⟩)
    (coS : K.lookup cdaS = some ⟨cclS, cddS, .fields vsS, ccsS⟩)
    (v2S : vsS[2]? = some (.str fileS tfS))
    (flS : ((l.prog.main.file : Str) == fileS) = true)
    (cd_S : PySem.W.clsIn K CS = some cdatS)
    (sbS : PySem.W.mroIn K CS (.ref CS) = some true)
    (fd_S : PySem.W.ks_superIn K CS CS "__init__" = some (some (.ref fMI)))
    (gF_ : PySem.W.nsIn K mainGlobals "Forget" = some (some (.ref CF)))
    (pgF : PySem.W.plainGet K CF Str.empty = true)
    (hdF : PySem.W.hasDictIn K CF = true)
    (poF : PySem.W.plainOver K CF = true)
    (saF : PySem.W.findIn K (.ref CF) "__setattr__" = some (some (.builtin "object.__setattr__")))
    (nWF : PySem.W.findIn K (.ref CF) "word" = some none)
    (nNF : PySem.W.findIn K (.ref CF) "name" = some none)
    (haF : PySem.W.findIn K (.ref CF) "__class__" = some (some (.builtin "object.__class__")))
    (hmF : PySem.W.mroIn K CF (.type "object") = some true)
    (kitF : PySem.W.kitOne K (.ref CF) (.ref CM) = some true)
    (stF : PySem.W.findIn K (.ref CF) "__str__" = some (some (.ref fS)))
    (eqF : PySem.W.findIn K (.ref CF) "__eq__" = some (some (.ref fE)))
    (mkF : PySem.W.makesIn K CF = true)
    (inF : PySem.W.findIn K (.ref CF) "__init__" = some (some (.ref fF_)))
    (fnF : PySem.W.isFn K (.ref fF_) = true)
    (kpF : PySem.W.keepIn K (.ref CF) = true)
    (lIF : K.lookup fF_ = some ⟨ocIF, odIF, .func (PySem.W.ksFn "__init__" "Forget.__init__" (defArgs s_Forget_init) (defBody s_Forget_init) (defScope s_Forget_init) .none kVIF dcIF pmIF anIF (.ref cdaF) ctIF ccF), slIF⟩)
    (cIF : PySem.W.codeIn K (.ref cdaF) "Forget.__init__" = true)
    (kIF : PySem.W.keepIn K (.ref fF_) = true)
    (ceF : K.lookup ccF = some ⟨clF, cldF, .cell (some (.ref CF)), cslF⟩)
    (coF : K.lookup cdaF = some ⟨cclF, cddF, .fields vsF, ccsF⟩)
    (v2F : vsF[2]? = some (.str fileF tfF))
    (flF : ((l.prog.main.file : Str) == fileF) = true)
    (cd_F : PySem.W.clsIn K CF = some cdatF)
    (sbF : PySem.W.mroIn K CF (.ref CF) = some true)
    (fd_F : PySem.W.ks_superIn K CF CF "__init__" = some (some (.ref fMI)))
    (gT_ : PySem.W.nsIn K mainGlobals "BadText" = some (some (.ref CT)))
    (xoT : K.lookup CT = some (excClassObj xnmT xqT CT xNT xbsT xbmT true xsnT xsubT xabT xcolT xddT xaT xbT xcT xdT xeT "ValueError.__new__"))
    (xrT : PySem.HandSPX.refsVE xbmT = true)
    (saT : PySem.W.findIn K (.ref CT) "__setattr__" = some (some (.builtin "object.__setattr__")))
    (beT : PySem.W.subIn K (.ref CT) (.type "BaseException") = some true)
    (tyT : PySem.W.typeIn K (.ref CT) = some (.type "type"))
    (kpT : PySem.W.keepIn K (.ref CT) = true)
    (inT : PySem.W.findIn K (.ref CT) "__init__" = some (some (.ref fT_)))
    (tf_T : PySem.W.typeIn K (.ref fT_) = some (.type "function"))
    (lIT : K.lookup fT_ = some ⟨ocIT, odIT, .func (PySem.W.ksFn "__init__" "BadText.__init__" (defArgs s_BadText_init) (defBody s_BadText_init) (defScope s_BadText_init) .none kVIT dcIT pmIT anIT (.ref cdaT) ctIT ccT), slIT⟩)
    (cIT : PySem.W.codeIn K (.ref cdaT) "BadText.__init__" = true)
    (kIT : PySem.W.keepIn K (.ref fT_) = true)
    (ceT : K.lookup ccT = some ⟨clT, cldT, .cell (some (.ref CT)), cslT⟩)
    (coT : K.lookup cdaT = some ⟨cclT, cddT, .fields vsT, ccsT⟩)
    (v2T : vsT[2]? = some (.str fileT tfT))
    (flT : ((l.prog.main.file : Str) == fileT) = true)
    (cd_T : PySem.W.clsIn K CT = some cdatT)
    (sbT : PySem.W.mroIn K CT (.ref CT) = some true)
    (svT : PySem.W.mroIn K CT (.type "ValueError") = some true)
    (fd_T : PySem.W.ks_superIn K CT CT "__init__" = some (some (.builtin "ValueError.__init__")))
    (noT_line : PySem.W.findIn K (.ref CT) "line" = some none)
    (noT_word : PySem.W.findIn K (.ref CT) "word" = some none)
    (suT : PySem.W.subIn K (.ref CT) (.ref CE) = some true)
    (xgT : PySem.W.findIn K (.ref CT) "__getattribute__" = some (some (.builtin "BaseException.__getattribute__")))
    (xkT : PySem.W.findIn K (.ref CT) "__getattr__" = some none)
    (hdT : PySem.W.hasDictIn K CT = true)
    (haT : PySem.W.findIn K (.ref CT) "__class__" = some (some (.builtin "object.__class__")))
    (hmT : PySem.W.mroIn K CT (.type "object") = some true)
    (koT : PySem.W.kitOne K (.ref CT) (.ref CT) = some true)
    (kuT : PySem.W.kitOne K (.ref CT) (.ref CE) = some true)
    (a_is_name : PySem.W.nsIn K mainGlobals "is_name" = some (some (.ref f_is_name)))
    (l_is_name : K.lookup f_is_name = some ⟨oc_is_name, od_is_name, .func (PySem.W.fnOf "is_name" "is_name" (defArgs s_is_name) (defBody s_is_name) (defScope s_is_name) .none kV_is_name dc_is_name pm_is_name an_is_name cd_is_name ct_is_name), sl_is_name⟩)
    (c_is_name : PySem.W.codeIn K cd_is_name "is_name" = true)
    (k_is_name : PySem.W.keepIn K (.ref f_is_name) = true)
    (a_move_of : PySem.W.nsIn K mainGlobals "move_of" = some (some (.ref f_move_of)))
    (l_move_of : K.lookup f_move_of = some ⟨oc_move_of, od_move_of, .func (PySem.W.fnOf "move_of" "move_of" (defArgs s_move_of) (defBody s_move_of) (defScope s_move_of) .none kV_move_of dc_move_of pm_move_of an_move_of cd_move_of ct_move_of), sl_move_of⟩)
    (c_move_of : PySem.W.codeIn K cd_move_of "move_of" = true)
    (k_move_of : PySem.W.keepIn K (.ref f_move_of) = true)
    (a_lines_of : PySem.W.nsIn K mainGlobals "lines_of" = some (some (.ref f_lines_of)))
    (l_lines_of : K.lookup f_lines_of = some ⟨oc_lines_of, od_lines_of, .func (PySem.W.fnOf "lines_of" "lines_of" (defArgs s_lines_of) (defBody s_lines_of) (defScope s_lines_of) .none kV_lines_of dc_lines_of pm_lines_of an_lines_of cd_lines_of ct_lines_of), sl_lines_of⟩)
    (c_lines_of : PySem.W.codeIn K cd_lines_of "lines_of" = true)
    (k_lines_of : PySem.W.keepIn K (.ref f_lines_of) = true)
    (a_need_words : PySem.W.nsIn K mainGlobals "need_words" = some (some (.ref f_need_words)))
    (l_need_words : K.lookup f_need_words = some ⟨oc_need_words, od_need_words, .func (PySem.W.fnOf "need_words" "need_words" (defArgs s_need_words) (defBody s_need_words) (defScope s_need_words) .none kV_need_words dc_need_words pm_need_words an_need_words cd_need_words ct_need_words), sl_need_words⟩)
    (c_need_words : PySem.W.codeIn K cd_need_words "need_words" = true)
    (k_need_words : PySem.W.keepIn K (.ref f_need_words) = true)
    (a_show_plan : PySem.W.nsIn K mainGlobals "show_plan" = some (some (.ref f_show_plan)))
    (l_show_plan : K.lookup f_show_plan = some ⟨oc_show_plan, od_show_plan, .func (PySem.W.fnOf "show_plan" "show_plan" (defArgs s_show_plan) (defBody s_show_plan) (defScope s_show_plan) .none kV_show_plan dc_show_plan pm_show_plan an_show_plan cd_show_plan ct_show_plan), sl_show_plan⟩)
    (c_show_plan : PySem.W.codeIn K cd_show_plan "show_plan" = true)
    (k_show_plan : PySem.W.keepIn K (.ref f_show_plan) = true)
    (a_read_row : PySem.W.nsIn K mainGlobals "read_row" = some (some (.ref f_read_row)))
    (l_read_row : K.lookup f_read_row = some ⟨oc_read_row, od_read_row, .func (PySem.W.fnOf "read_row" "read_row" (defArgs s_read_row) (defBody s_read_row) (defScope s_read_row) .none kV_read_row dc_read_row pm_read_row an_read_row cd_read_row ct_read_row), sl_read_row⟩)
    (c_read_row : PySem.W.codeIn K cd_read_row "read_row" = true)
    (k_read_row : PySem.W.keepIn K (.ref f_read_row) = true)
    (a_read_plan : PySem.W.nsIn K mainGlobals "read_plan" = some (some (.ref f_read_plan)))
    (l_read_plan : K.lookup f_read_plan = some ⟨oc_read_plan, od_read_plan, .func (PySem.W.fnOf "read_plan" "read_plan" (defArgs s_read_plan) (defBody s_read_plan) (defScope s_read_plan) .none kV_read_plan dc_read_plan pm_read_plan an_read_plan cd_read_plan ct_read_plan), sl_read_plan⟩)
    (c_read_plan : PySem.W.codeIn K cd_read_plan "read_plan" = true)
    (k_read_plan : PySem.W.keepIn K (.ref f_read_plan) = true)
    (a__law_pen : PySem.W.nsIn K mainGlobals "_law_pen" = some (some (.ref f__law_pen)))
    (l__law_pen : K.lookup f__law_pen = some ⟨oc__law_pen, od__law_pen, .func (PySem.W.fnOf "_law_pen" "_law_pen" (defArgs s__law_pen) (defBody s__law_pen) (defScope s__law_pen) .none kV__law_pen dc__law_pen pm__law_pen an__law_pen cd__law_pen ct__law_pen), sl__law_pen⟩)
    (c__law_pen : PySem.W.codeIn K cd__law_pen "_law_pen" = true)
    (k__law_pen : PySem.W.keepIn K (.ref f__law_pen) = true)
    (a__law_draw : PySem.W.nsIn K mainGlobals "_law_draw" = some (some (.ref f__law_draw)))
    (l__law_draw : K.lookup f__law_draw = some ⟨oc__law_draw, od__law_draw, .func (PySem.W.fnOf "_law_draw" "_law_draw" (defArgs s__law_draw) (defBody s__law_draw) (defScope s__law_draw) .none kV__law_draw dc__law_draw pm__law_draw an__law_draw cd__law_draw ct__law_draw), sl__law_draw⟩)
    (c__law_draw : PySem.W.codeIn K cd__law_draw "_law_draw" = true)
    (k__law_draw : PySem.W.keepIn K (.ref f__law_draw) = true)
    (a__law_pick : PySem.W.nsIn K mainGlobals "_law_pick" = some (some (.ref f__law_pick)))
    (l__law_pick : K.lookup f__law_pick = some ⟨oc__law_pick, od__law_pick, .func (PySem.W.fnOf "_law_pick" "_law_pick" (defArgs s__law_pick) (defBody s__law_pick) (defScope s__law_pick) .none kV__law_pick dc__law_pick pm__law_pick an__law_pick cd__law_pick ct__law_pick), sl__law_pick⟩)
    (c__law_pick : PySem.W.codeIn K cd__law_pick "_law_pick" = true)
    (k__law_pick : PySem.W.keepIn K (.ref f__law_pick) = true)
    (a__law_is_name : PySem.W.nsIn K mainGlobals "_law_is_name" = some (some (.ref f__law_is_name)))
    (l__law_is_name : K.lookup f__law_is_name = some ⟨oc__law_is_name, od__law_is_name, .func (PySem.W.fnOf "_law_is_name" "_law_is_name" (defArgs s__law_is_name) (defBody s__law_is_name) (defScope s__law_is_name) .none kV__law_is_name dc__law_is_name pm__law_is_name an__law_is_name cd__law_is_name ct__law_is_name), sl__law_is_name⟩)
    (c__law_is_name : PySem.W.codeIn K cd__law_is_name "_law_is_name" = true)
    (k__law_is_name : PySem.W.keepIn K (.ref f__law_is_name) = true)
    (a__law_bent : PySem.W.nsIn K mainGlobals "_law_bent" = some (some (.ref f__law_bent)))
    (l__law_bent : K.lookup f__law_bent = some ⟨oc__law_bent, od__law_bent, .func (PySem.W.fnOf "_law_bent" "_law_bent" (defArgs s__law_bent) (defBody s__law_bent) (defScope s__law_bent) .none kV__law_bent dc__law_bent pm__law_bent an__law_bent cd__law_bent ct__law_bent), sl__law_bent⟩)
    (c__law_bent : PySem.W.codeIn K cd__law_bent "_law_bent" = true)
    (k__law_bent : PySem.W.keepIn K (.ref f__law_bent) = true)
    (a__law_row_fault : PySem.W.nsIn K mainGlobals "_law_row_fault" = some (some (.ref f__law_row_fault)))
    (l__law_row_fault : K.lookup f__law_row_fault = some ⟨oc__law_row_fault, od__law_row_fault, .func (PySem.W.fnOf "_law_row_fault" "_law_row_fault" (defArgs s__law_row_fault) (defBody s__law_row_fault) (defScope s__law_row_fault) .none kV__law_row_fault dc__law_row_fault pm__law_row_fault an__law_row_fault cd__law_row_fault ct__law_row_fault), sl__law_row_fault⟩)
    (c__law_row_fault : PySem.W.codeIn K cd__law_row_fault "_law_row_fault" = true)
    (k__law_row_fault : PySem.W.keepIn K (.ref f__law_row_fault) = true)
    (a__law_fault : PySem.W.nsIn K mainGlobals "_law_fault" = some (some (.ref f__law_fault)))
    (l__law_fault : K.lookup f__law_fault = some ⟨oc__law_fault, od__law_fault, .func (PySem.W.fnOf "_law_fault" "_law_fault" (defArgs s__law_fault) (defBody s__law_fault) (defScope s__law_fault) .none kV__law_fault dc__law_fault pm__law_fault an__law_fault cd__law_fault ct__law_fault), sl__law_fault⟩)
    (c__law_fault : PySem.W.codeIn K cd__law_fault "_law_fault" = true)
    (k__law_fault : PySem.W.keepIn K (.ref f__law_fault) = true)
    (a__law_heard : PySem.W.nsIn K mainGlobals "_law_heard" = some (some (.ref f__law_heard)))
    (l__law_heard : K.lookup f__law_heard = some ⟨oc__law_heard, od__law_heard, .func (PySem.W.fnOf "_law_heard" "_law_heard" (defArgs s__law_heard) (defBody s__law_heard) (defScope s__law_heard) .none kV__law_heard dc__law_heard pm__law_heard an__law_heard cd__law_heard ct__law_heard), sl__law_heard⟩)
    (c__law_heard : PySem.W.codeIn K cd__law_heard "_law_heard" = true)
    (k__law_heard : PySem.W.keepIn K (.ref f__law_heard) = true)
    (a_law : PySem.W.nsIn K mainGlobals "law" = some (some (.ref f_law)))
    (l_law : K.lookup f_law = some ⟨oc_law, od_law, .func (PySem.W.fnOf "law" "law" (defArgs s_law) (defBody s_law) (defScope s_law) .none kV_law dc_law pm_law an_law (.ref q1) ct_law), sl_law⟩)
    (c_law : PySem.W.codeIn K (.ref q1) "law" = true)
    (k_law : PySem.W.keepIn K (.ref f_law) = true)
    (qo1 : K.lookup q1 = some ⟨.type "code", qd1, .fields qv1, qs1⟩)
    (qp1 : qv1[11]? = some (.ref P1))
    (qr1 : qv1.getD 11 .none = .ref P1)
    (qs_1 : qv1.getD 18 .none = .str qf1 qt1)
    (qu1 : qv1.getD 7 .none = .int qi1 qg1)
    (qv_1 : qv1.getD 9 .none = .bool qb1)
    (qw1 : qv1.getD 10 .none = .int qj1 qh1)
    (qx1 : q1 ≠ P1)
    (qn1 : K.lookup P1 = none)
    (rc1 : ((recsOf q).any fun e => e.name == "law") = true) :
    LawG l w K CX0 13 63 "_law_script" mg fa h := by
  have e := hfa.symm.trans (PySem.W.mg_of X G a_law)
  cases e
  subst eL
  have T : Tx K mg CM CL CA CS CF CE CT mw tL tN := ⟨by
    intro x hx
    simp only [bns, List.mem_cons, List.not_mem_nil, or_false] at hx
    rcases hx with rfl | rfl | rfl | rfl | rfl | rfl | rfl | rfl | rfl | rfl | rfl | rfl
    · exact PySem.W.mg_none_of X G b0
    · exact PySem.W.mg_none_of X G b1
    · exact PySem.W.mg_none_of X G b2
    · exact PySem.W.mg_none_of X G b3
    · exact PySem.W.mg_none_of X G b4
    · exact PySem.W.mg_none_of X G b5
    · exact PySem.W.mg_none_of X G b6
    · exact PySem.W.mg_none_of X G b7
    · exact PySem.W.mg_none_of X G b8
    · exact PySem.W.mg_none_of X G b9
    · exact PySem.W.mg_none_of X G b10
    · exact PySem.W.mg_none_of X G b11, PySem.W.mg_of X G gL, PySem.W.mg_of X G gN, PySem.W.mg_of X G gW, PySem.W.mg_of X G gM, PySem.W.mg_of X G gCE, PySem.W.mg_of X G gT_⟩
  have FSL : FunS K "__init__" "Load.__init__" s_Load_init fL_ _ cdaL ccL := ⟨⟨_, _, _, _, _, _, _, _, rfl, lIL, cIL⟩, kIL⟩
  have CL_L : Cls K CL := ⟨pgL, hdL, poL, saL⟩
  have SPL : SupT l.prog K mg CL CL ccL cdaL "__init__" fMI := ⟨⟨_, _, _, ceL⟩, ⟨_, _, _, _, _, _, coL, v2L, flL⟩, ⟨_, cd_L⟩, sbL, T.bn _ (by decide +kernel), top_, any_, fd_L, tMI, fiMI⟩
  have TCL : ClT K CM CL fS fE := ⟨CL_L, nWL, nNL, haL, hn, htk, hmL, kitL, stL, eqL⟩
  have FSA : FunS K "__init__" "Again.__init__" s_Again_init fA_ _ cdaA ccA := ⟨⟨_, _, _, _, _, _, _, _, rfl, lIA, cIA⟩, kIA⟩
  have CL_A : Cls K CA := ⟨pgA, hdA, poA, saA⟩
  have SPA : SupT l.prog K mg CA CA ccA cdaA "__init__" fMI := ⟨⟨_, _, _, ceA⟩, ⟨_, _, _, _, _, _, coA, v2A, flA⟩, ⟨_, cd_A⟩, sbA, T.bn _ (by decide +kernel), top_, any_, fd_A, tMI, fiMI⟩
  have TCA : ClT K CM CA fS fE := ⟨CL_A, nWA, nNA, haA, hn, htk, hmA, kitA, stA, eqA⟩
  have FSS : FunS K "__init__" "Store.__init__" s_Store_init fS_ _ cdaS ccS := ⟨⟨_, _, _, _, _, _, _, _, rfl, lIS, cIS⟩, kIS⟩
  have CL_S : Cls K CS := ⟨pgS, hdS, poS, saS⟩
  have SPS : SupT l.prog K mg CS CS ccS cdaS "__init__" fMI := ⟨⟨_, _, _, ceS⟩, ⟨_, _, _, _, _, _, coS, v2S, flS⟩, ⟨_, cd_S⟩, sbS, T.bn _ (by decide +kernel), top_, any_, fd_S, tMI, fiMI⟩
  have TCS : ClT K CM CS fS fE := ⟨CL_S, nWS, nNS, haS, hn, htk, hmS, kitS, stS, eqS⟩
  have FSF : FunS K "__init__" "Forget.__init__" s_Forget_init fF_ _ cdaF ccF := ⟨⟨_, _, _, _, _, _, _, _, rfl, lIF, cIF⟩, kIF⟩
  have CL_F : Cls K CF := ⟨pgF, hdF, poF, saF⟩
  have SPF : SupT l.prog K mg CF CF ccF cdaF "__init__" fMI := ⟨⟨_, _, _, ceF⟩, ⟨_, _, _, _, _, _, coF, v2F, flF⟩, ⟨_, cd_F⟩, sbF, T.bn _ (by decide +kernel), top_, any_, fd_F, tMI, fiMI⟩
  have TCF : ClT K CM CF fS fE := ⟨CL_F, nWF, nNF, haF, hn, htk, hmF, kitF, stF, eqF⟩
  have FST : Ls.FunS K "__init__" "BadText.__init__" s_BadText_init fT_ _ cdaT ccT := ⟨⟨_, _, _, _, _, _, _, _, rfl, lIT, cIT⟩, kIT⟩
  have OXT : OexC K CT := ⟨⟨_, _, _, _, _, _, _, _, _, _, _, _, _, _, _, xoT, xrT⟩, saT, beT, tyT, kpT⟩
  have SET : SupE l.prog K mg CT CT ccT cdaT := ⟨⟨_, _, _, ceT⟩, ⟨_, _, _, _, _, _, coT, v2T, flT⟩, ⟨_, cd_T⟩, sbT, svT, T.bn _ (by decide +kernel), top_, any_, fd_T, OXT⟩
  have exmT := PySem.W.exm_ref eE1 eE2 eE3 suT
  have ecT : ExcC K CT := ⟨xgT, xkT, beT, hdT, haT, hn, htk, hmT⟩
  have xfT : XfC K CT := ⟨xgT, xkT, beT, hdT⟩
  have eT : ErrT K CE CT := ⟨exmT, ecT, koT, kuT, xfT, noT_line, noT_word⟩
  have FMI := fun_mk (st := s_Move_init) lMI cMI kMI
  have BMI := FMI.binds (ps := ["self", "word", "name"]) fun _ _ _ _ _ _ us hl => match us, hl with | [_, _, _], _ => rfl
  have FS_ := fun_mk (st := s_Move_str) lS cS kS
  have BS := FS_.binds (ps := ["self"]) fun _ _ _ _ _ _ us hl => match us, hl with | [_], _ => rfl
  have FR := fun_mk (st := s_Move_read) lR cR kR
  have BR := FR.binds (ps := ["cls", "text"]) fun _ _ _ _ _ _ us hl => match us, hl with | [_, _], _ => rfl
  have F_is_name := fun_mk (st := s_is_name) l_is_name c_is_name k_is_name
  have B_is_name := F_is_name.binds (ps := ["value"]) fun _ _ _ _ _ _ us hl => match us, hl with | [_], _ => rfl
  have F_move_of := fun_mk (st := s_move_of) l_move_of c_move_of k_move_of
  have B_move_of := F_move_of.binds (ps := ["word", "name"]) fun _ _ _ _ _ _ us hl => match us, hl with | [_, _], _ => rfl
  have F_lines_of := fun_mk (st := s_lines_of) l_lines_of c_lines_of k_lines_of
  have B_lines_of := F_lines_of.binds (ps := ["text"]) fun _ _ _ _ _ _ us hl => match us, hl with | [_], _ => rfl
  have F_need_words := fun_mk (st := s_need_words) l_need_words c_need_words k_need_words
  have B_need_words := F_need_words.binds (ps := ["at", "words", "least", "most"]) fun _ _ _ _ _ _ us hl => match us, hl with | [_, _, _, _], _ => rfl
  have F_show_plan := fun_mk (st := s_show_plan) l_show_plan c_show_plan k_show_plan
  have B_show_plan := F_show_plan.binds (ps := ["plan"]) fun _ _ _ _ _ _ us hl => match us, hl with | [_], _ => rfl
  have F_read_row := fun_mk (st := s_read_row) l_read_row c_read_row k_read_row
  have B_read_row := F_read_row.binds (ps := ["at", "words"]) fun _ _ _ _ _ _ us hl => match us, hl with | [_, _], _ => rfl
  have F_read_plan := fun_mk (st := s_read_plan) l_read_plan c_read_plan k_read_plan
  have B_read_plan := F_read_plan.binds (ps := ["text"]) fun _ _ _ _ _ _ us hl => match us, hl with | [_], _ => rfl
  have F__law_pen := fun_mk (st := s__law_pen) l__law_pen c__law_pen k__law_pen
  have B__law_pen := F__law_pen.binds (ps := ["_law_script"]) fun _ _ _ _ _ _ us hl => match us, hl with | [_], _ => rfl
  have F__law_draw := fun_mk (st := s__law_draw) l__law_draw c__law_draw k__law_draw
  have B__law_draw := F__law_draw.binds (ps := ["_law_pen_here", "_law_many"]) fun _ _ _ _ _ _ us hl => match us, hl with | [_, _], _ => rfl
  have F__law_pick := fun_mk (st := s__law_pick) l__law_pick c__law_pick k__law_pick
  have B__law_pick := F__law_pick.binds (ps := ["_law_pen_here", "_law_some"]) fun _ _ _ _ _ _ us hl => match us, hl with | [_, _], _ => rfl
  have F__law_is_name := fun_mk (st := s__law_is_name) l__law_is_name c__law_is_name k__law_is_name
  have B__law_is_name := F__law_is_name.binds (ps := ["_law_word"]) fun _ _ _ _ _ _ us hl => match us, hl with | [_], _ => rfl
  have F__law_bent := fun_mk (st := s__law_bent) l__law_bent c__law_bent k__law_bent
  have B__law_bent := F__law_bent.binds (ps := ["_law_pen_here", "_law_wording", "_law_odd"]) fun _ _ _ _ _ _ us hl => match us, hl with | [_, _, _], _ => rfl
  have F__law_row_fault := fun_mk (st := s__law_row_fault) l__law_row_fault c__law_row_fault k__law_row_fault
  have B__law_row_fault := F__law_row_fault.binds (ps := ["_law_words"]) fun _ _ _ _ _ _ us hl => match us, hl with | [_], _ => rfl
  have F__law_fault := fun_mk (st := s__law_fault) l__law_fault c__law_fault k__law_fault
  have B__law_fault := F__law_fault.binds (ps := ["_law_thing"]) fun _ _ _ _ _ _ us hl => match us, hl with | [_], _ => rfl
  have F__law_heard := fun_mk (st := s__law_heard) l__law_heard c__law_heard k__law_heard
  have B__law_heard := F__law_heard.binds (ps := ["_law_ask"]) fun _ _ _ _ _ _ us hl => match us, hl with | [_], _ => rfl
  have F_law := fun_mk (st := s_law) l_law c_law k_law
  have TC : ∀ wd ∈ W4, ClT K CM (clsOf CL CA CS CF wd) fS fE := by
    intro wd hwd
    rcases w4_cases hwd with rfl | rfl | rfl | rfl
    · exact TCL
    · exact TCA
    · exact TCS
    · exact TCF
  have hmw : ∀ H : Hp, SqT K H mw (W4.map V.str) := fun H => .inr ⟨_, _, _, lW, rfl, rfl, by show 4 ≤ sizeLine; decide, by
    rw [← eW]
    exact .cons ⟨_, rfl⟩ (.cons ⟨_, rfl⟩ (.cons ⟨_, rfl⟩ (.cons ⟨_, rfl⟩ .nil)))⟩
  refine ⟨_, [(q1, P1)], spLaw K [(P1, ("law.<locals>.<lambda>" : Str))], ?_, ?_, ?_, fun s u => .of_eq (fd := PySem.W.fnOf "law" "law" (defArgs s_law) (defBody s_law) (defScope s_law) .none kV_law dc_law pm_law an_law (.ref q1) ct_law) rfl, ?_, ?_⟩
  · intro p hp
    simp only [List.mem_cons, List.not_mem_nil, or_false] at hp
    rcases hp with rfl
    · exact ow "law" _ rc1 (PySem.W.mg_of X G a_law) q1 P1 _ _ _ _ _ _ l_law rfl rfl qo1 qp1
  · intro p hp
    simp only [List.mem_cons, List.not_mem_nil, or_false] at hp
    rcases hp with rfl
    · exact qn1
  · intro p hp
    simp only [List.mem_cons, List.not_mem_nil, or_false] at hp
    rcases hp with rfl
    · exact ⟨_, _, _, _, _, _, _, _, _, X _ _ qo1, rfl, rfl, qp1, qr1, qs_1, qu1, qv_1, qw1, qx1⟩
  · intro H a ns hl _ hH hS
    refine ⟨a, ns, rfl, hS, hl, fun p hp => ?_, fun _ => rfl⟩
    simp only [List.mem_cons, List.not_mem_nil, or_false] at hp
    rcases hp with rfl
    · exact LamX.TabS.nil (hH (q1, P1) (by simp))
  intro base _ _ TBs hsys
  have TB1 := TBs (q1, P1) (by simp)
  have hu1 : ∀ p ∈ [(P1, ("law.<locals>.<lambda>" : Str))], p.1 = P1 → p.2 = ("law.<locals>.<lambda>" : Str) := fun p hp e => by
    simp only [List.mem_cons, List.not_mem_nil, or_false] at hp
    rcases hp with rfl
    · rfl
  have raw : ∀ {CX : CXT} {k : Nat} {f : Addr} {fd : FuncData} {ps : List Str} {sp : Sp}, FnOk l.prog w K mg base CX k f fd ps sp → Binds K fd ps [] → FnR l.prog w K mg base CX k f sp := fun {CX k f fd ps sp} F b => (F.raw b .nil).imp fun vs H Q E h => by rw [List.append_nil]; exact h
  have c_is_name : Cal l.prog w K mg base CX0 1 "is_name" spName := ⟨_, PySem.W.mg_of X G a_is_name, k_is_name, raw (ok_name F_is_name T) B_is_name⟩
  have rMI : FnR l.prog w K mg base CX0 2 fMI (spMI K) := raw (ok_MI FMI T c_is_name) BMI
  have c_Load : Mkc l.prog w K mg base CX0 3 CL "Load" (spCI K "load" CL) := ⟨fL_, PySem.W.mg_of X G gL_, ⟨mkL, inL, fnL, kpL⟩, raw (ok_Load_init FSL CL_L nWL nNL SPL rMI) (Binds.all fun us hl => match us, hl with | [_, _], _ => rfl)⟩
  have c_Again : Mkc l.prog w K mg base CX0 3 CA "Again" (spCI K "again" CA) := ⟨fA_, PySem.W.mg_of X G gA_, ⟨mkA, inA, fnA, kpA⟩, raw (ok_Again_init FSA CL_A nWA nNA SPA rMI) (Binds.all fun us hl => match us, hl with | [_, _], _ => rfl)⟩
  have c_Store : Mkc l.prog w K mg base CX0 3 CS "Store" (spCI K "store" CS) := ⟨fS_, PySem.W.mg_of X G gS_, ⟨mkS, inS, fnS, kpS⟩, raw (ok_Store_init FSS CL_S nWS nNS SPS rMI) (Binds.all fun us hl => match us, hl with | [_, _], _ => rfl)⟩
  have c_Forget : Mkc l.prog w K mg base CX0 3 CF "Forget" (spCI K "forget" CF) := ⟨fF_, PySem.W.mg_of X G gF_, ⟨mkF, inF, fnF, kpF⟩, raw (ok_Forget_init FSF CL_F nWF nNF SPF rMI) (Binds.all fun us hl => match us, hl with | [_, _], _ => rfl)⟩
  have x_BadText : Xer l.prog w K mg base CT "BadText" ["line", "word"] := ⟨T.m_BadText, OXT, _, _, _, inT, tf_T, ok_BadText_init FST SET noT_line noT_word, Binds.all fun us hl => match us, hl with | [_, _, _], _ => rfl⟩
  have c_move_of : Cal l.prog w K mg base CX0 5 "move_of" (spOf (clsOf CL CA CS CF)) := ⟨_, PySem.W.mg_of X G a_move_of, k_move_of, raw (ok_of F_move_of T c_Load c_Again c_Store c_Forget) B_move_of⟩
  have rR := raw (ok_read FR T c_is_name c_move_of) BR
  have c_Move_read : Clm l.prog w K mg base CX0 6 CM "read" (spRead (clsOf CL CA CS CF)) := ⟨mc, pR, fR, ⟨rdM, gaM⟩, ⟨atR, ⟨_, rcR⟩, fiR⟩, rR⟩
  have rS := raw (ok_str (P := l.prog) (w := w) (base := base) FS_ T TC) BS
  have c_show_plan : Cal l.prog w K mg base CX0 4 "show_plan" (spShow (clsOf CL CA CS CF) K) := ⟨_, PySem.W.mg_of X G a_show_plan, k_show_plan, raw (ok_show F_show_plan T TC iS rS) B_show_plan⟩
  have c_lines_of : Cal l.prog w K mg base (L2.CX l.prog w) 3 "lines_of" (spLines CT) := ⟨_, PySem.W.mg_of X G a_lines_of, k_lines_of, raw (ok_lines F_lines_of T x_BadText) B_lines_of⟩
  have c_need_words : Cal l.prog w K mg base (L2.CX l.prog w) 3 "need_words" (spNeed K CT) := ⟨_, PySem.W.mg_of X G a_need_words, k_need_words, raw (ok_need F_need_words T x_BadText) B_need_words⟩
  have c_read_row : Cal l.prog w K mg base (L2.CX l.prog w) 7 "read_row" (spRow (clsOf CL CA CS CF) CT) := ⟨_, PySem.W.mg_of X G a_read_row, k_read_row, raw (ok_row F_read_row T hmw x_BadText c_is_name c_need_words c_Move_read) B_read_row⟩
  have c_read_plan : Cal l.prog w K mg base (L2.CX l.prog w) 8 "read_plan" (spRP (clsOf CL CA CS CF) CT) := ⟨_, PySem.W.mg_of X G a_read_plan, k_read_plan, raw (ok_plan F_read_plan T c_lines_of c_read_row) B_read_plan⟩
  have c__law_pen : Cal l.prog w K mg base CX0 1 "_law_pen" (spPen K) := ⟨_, PySem.W.mg_of X G a__law_pen, k__law_pen, raw (ok_pen F__law_pen T) B__law_pen⟩
  have c__law_draw : Cal l.prog w K mg base CX0 1 "_law_draw" spDraw := ⟨_, PySem.W.mg_of X G a__law_draw, k__law_draw, raw (ok_draw F__law_draw T) B__law_draw⟩
  have c__law_pick : Cal l.prog w K mg base CX0 2 "_law_pick" (spPick K) := ⟨_, PySem.W.mg_of X G a__law_pick, k__law_pick, raw (ok_pick F__law_pick T c__law_draw) B__law_pick⟩
  have c__law_is_name : Cal l.prog w K mg base CX0 1 "_law_is_name" spLIs := ⟨_, PySem.W.mg_of X G a__law_is_name, k__law_is_name, raw (ok_lis F__law_is_name T) B__law_is_name⟩
  have c__law_bent : Cal l.prog w K mg base CX0 3 "_law_bent" spBent := ⟨_, PySem.W.mg_of X G a__law_bent, k__law_bent, raw (ok_bent F__law_bent T c__law_draw c__law_pick) B__law_bent⟩
  have c__law_row_fault : Cal l.prog w K mg base CX0 2 "_law_row_fault" spRF := ⟨_, PySem.W.mg_of X G a__law_row_fault, k__law_row_fault, raw (ok_rf F__law_row_fault T c__law_is_name) B__law_row_fault⟩
  have c__law_fault : Cal l.prog w K mg base CX0 3 "_law_fault" spFault := ⟨_, PySem.W.mg_of X G a__law_fault, k__law_fault, raw (ok_fault F__law_fault T c__law_row_fault) B__law_fault⟩
  exact ok_law F_law T F__law_heard (PySem.W.mg_of X G a__law_heard) B__law_heard eT x_BadText rfl TB1 (by simp) hu1 hsys c__law_pen c__law_draw c__law_pick c__law_bent c__law_fault c_show_plan c_read_plan
theorem walk {l : PySem.W.OpenLaw} {q : Program} {loose : List Str} {XP : (Str → Option Value) → Heap → Prop} {YP : World → Heap → Prop} {d : DefRec} {K : Params → PySem.W.Frag} (hn : l.most = some 63) (hdf : d.params.defaults = []) (him : importsNone q = true)
    (hY : ∀ (w : World) (h : Heap), YP w h → (K w.params).In h)
    (F : ∀ (w : World) (mg : Str → Option Value) (fa : Addr) (h : Heap), (K w.params).In h → h.Ns mainGlobals mg → mg d.name = some (.ref fa) → (∀ (x : Str) (fx : Addr), ((recsOf q).any fun e => e.name == x) = true → mg x = some (.ref fx) → LamX.OwnTab (K w.params) fx h) → LawG l w (K w.params) CX0 13 63 "_law_script" mg fa h) :
    PySem.W.WalkO q loose XP YP l.row.toRowW d [] (fun f vs => PySem.call f vs) :=
  walk_G (n := 63) (k := 13) (x := "_law_script") (CX := fun _ => CX0) hn (by decide) hdf ⟨rfl, by decide, by decide⟩ him hY (fun w mg fa h _ => F w mg fa h) fun _ _ _ _ _ z => z
end K95
open PySem PySem.W PyProof.Rows
set_option maxRecDepth 100000 in
set_option maxHeartbeats 0 in
theorem PySem.Challenge.cw_loopstow_k95_plan_texts_refused_holds : PySem.Challenge.rw_loopstow_k95_plan_texts_refused.Holds := by
  w_on; o_law; k_head; (case hw => w_witness2)
  k_fill
  refine K95.walk (l := PySem.Challenge.rw_loopstow_k95_plan_texts_refused) rfl rfl (by decide +kernel) (fun w h Y => PySem.W.km_in_of Y) ?F
  case F =>
    intro w mg fa h KX G hmg ow
    refine' K95.all_mk KX G hmg ow ?b0 ?b1 ?b2 ?b3 ?b4 ?b5 ?b6 ?b7 ?b8 ?b9 ?b10 ?b11 ?gL ?eL ?gN ?gW ?lW ?eW ?gM ?hn ?htk ?any_ ?top_ ?gCE ?eE1 ?eE2 ?eE3 ?aMI ?lMI ?cMI ?kMI ?tMI ?fiMI ?aE ?aS ?lS ?cS ?kS ?iS ?tyM ?rdM ?gaM ?atR ?rcR ?fiR ?lR ?cR ?kR ?gL_ ?pgL ?hdL ?poL ?saL ?nWL ?nNL ?haL ?hmL ?kitL ?stL ?eqL ?mkL ?inL ?fnL ?kpL ?lIL ?cIL ?kIL ?ceL ?coL ?v2L ?flL ?cd_L ?sbL ?fd_L ?gA_ ?pgA ?hdA ?poA ?saA ?nWA ?nNA ?haA ?hmA ?kitA ?stA ?eqA ?mkA ?inA ?fnA ?kpA ?lIA ?cIA ?kIA ?ceA ?coA ?v2A ?flA ?cd_A ?sbA ?fd_A ?gS_ ?pgS ?hdS ?poS ?saS ?nWS ?nNS ?haS ?hmS ?kitS ?stS ?eqS ?mkS ?inS ?fnS ?kpS ?lIS ?cIS ?kIS ?ceS ?coS ?v2S ?flS ?cd_S ?sbS ?fd_S ?gF_ ?pgF ?hdF ?poF ?saF ?nWF ?nNF ?haF ?hmF ?kitF ?stF ?eqF ?mkF ?inF ?fnF ?kpF ?lIF ?cIF ?kIF ?ceF ?coF ?v2F ?flF ?cd_F ?sbF ?fd_F ?gT_ ?xoT ?xrT ?saT ?beT ?tyT ?kpT ?inT ?tf_T ?lIT ?cIT ?kIT ?ceT ?coT ?v2T ?flT ?cd_T ?sbT ?svT ?fd_T ?noT_line ?noT_word ?suT ?xgT ?xkT ?hdT ?haT ?hmT ?koT ?kuT ?a_is_name ?l_is_name ?c_is_name ?k_is_name ?a_move_of ?l_move_of ?c_move_of ?k_move_of ?a_lines_of ?l_lines_of ?c_lines_of ?k_lines_of ?a_need_words ?l_need_words ?c_need_words ?k_need_words ?a_show_plan ?l_show_plan ?c_show_plan ?k_show_plan ?a_read_row ?l_read_row ?c_read_row ?k_read_row ?a_read_plan ?l_read_plan ?c_read_plan ?k_read_plan ?a__law_pen ?l__law_pen ?c__law_pen ?k__law_pen ?a__law_draw ?l__law_draw ?c__law_draw ?k__law_draw ?a__law_pick ?l__law_pick ?c__law_pick ?k__law_pick ?a__law_is_name ?l__law_is_name ?c__law_is_name ?k__law_is_name ?a__law_bent ?l__law_bent ?c__law_bent ?k__law_bent ?a__law_row_fault ?l__law_row_fault ?c__law_row_fault ?k__law_row_fault ?a__law_fault ?l__law_fault ?c__law_fault ?k__law_fault ?a__law_heard ?l__law_heard ?c__law_heard ?k__law_heard ?a_law ?l_law ?c_law ?k_law ?qo1 ?qp1 ?qr1 ?qs_1 ?qu1 ?qv_1 ?qw1 ?qx1 ?qn1 ?rc1
    (case b0 => k_is)
    (case b1 => k_is)
    (case b2 => k_is)
    (case b3 => k_is)
    (case b4 => k_is)
    (case b5 => k_is)
    (case b6 => k_is)
    (case b7 => k_is)
    (case b8 => k_is)
    (case b9 => k_is)
    (case b10 => k_is)
    (case b11 => k_is)
    (case gL => k_is)
    (case eL => decide +kernel)
    (case gN => k_is)
    (case gW => k_is)
    (case lW => k_is)
    (case eW => decide +kernel)
    (case gM => k_is)
    (case hn => k_is)
    (case htk => k_is)
    (case any_ => k_is)
    (case top_ => decide +kernel)
    (case gCE => k_is)
    (case eE1 => k_is)
    (case eE2 => k_is)
    (case eE3 => k_is)
    (case aMI => k_is)
    (case lMI => k_is)
    (case cMI => k_is)
    (case kMI => k_is)
    (case tMI => k_is)
    (case fiMI => k_is)
    (case aE => k_is)
    (case aS => k_is)
    (case lS => k_is)
    (case cS => k_is)
    (case kS => k_is)
    (case iS => k_is)
    (case tyM => k_is)
    (case rdM => k_is)
    (case gaM => k_is)
    (case atR => k_is)
    (case rcR => k_is)
    (case fiR => k_is)
    (case lR => k_is)
    (case cR => k_is)
    (case kR => k_is)
    (case gL_ => k_is)
    (case pgL => k_is)
    (case hdL => k_is)
    (case poL => k_is)
    (case saL => k_is)
    (case nWL => k_is)
    (case nNL => k_is)
    (case haL => k_is)
    (case hmL => k_is)
    (case kitL => kit_is)
    (case stL => k_is)
    (case eqL => k_is)
    (case mkL => k_is)
    (case inL => k_is)
    (case fnL => k_is)
    (case kpL => k_is)
    (case lIL => k_is)
    (case cIL => k_is)
    (case kIL => k_is)
    (case ceL => k_is)
    (case coL => k_is)
    (case v2L => rfl)
    (case flL => decide +kernel)
    (case cd_L => k_is)
    (case sbL => k_is)
    (case fd_L => ks_is)
    (case gA_ => k_is)
    (case pgA => k_is)
    (case hdA => k_is)
    (case poA => k_is)
    (case saA => k_is)
    (case nWA => k_is)
    (case nNA => k_is)
    (case haA => k_is)
    (case hmA => k_is)
    (case kitA => kit_is)
    (case stA => k_is)
    (case eqA => k_is)
    (case mkA => k_is)
    (case inA => k_is)
    (case fnA => k_is)
    (case kpA => k_is)
    (case lIA => k_is)
    (case cIA => k_is)
    (case kIA => k_is)
    (case ceA => k_is)
    (case coA => k_is)
    (case v2A => rfl)
    (case flA => decide +kernel)
    (case cd_A => k_is)
    (case sbA => k_is)
    (case fd_A => ks_is)
    (case gS_ => k_is)
    (case pgS => k_is)
    (case hdS => k_is)
    (case poS => k_is)
    (case saS => k_is)
    (case nWS => k_is)
    (case nNS => k_is)
    (case haS => k_is)
    (case hmS => k_is)
    (case kitS => kit_is)
    (case stS => k_is)
    (case eqS => k_is)
    (case mkS => k_is)
    (case inS => k_is)
    (case fnS => k_is)
    (case kpS => k_is)
    (case lIS => k_is)
    (case cIS => k_is)
    (case kIS => k_is)
    (case ceS => k_is)
    (case coS => k_is)
    (case v2S => rfl)
    (case flS => decide +kernel)
    (case cd_S => k_is)
    (case sbS => k_is)
    (case fd_S => ks_is)
    (case gF_ => k_is)
    (case pgF => k_is)
    (case hdF => k_is)
    (case poF => k_is)
    (case saF => k_is)
    (case nWF => k_is)
    (case nNF => k_is)
    (case haF => k_is)
    (case hmF => k_is)
    (case kitF => kit_is)
    (case stF => k_is)
    (case eqF => k_is)
    (case mkF => k_is)
    (case inF => k_is)
    (case fnF => k_is)
    (case kpF => k_is)
    (case lIF => k_is)
    (case cIF => k_is)
    (case kIF => k_is)
    (case ceF => k_is)
    (case coF => k_is)
    (case v2F => rfl)
    (case flF => decide +kernel)
    (case cd_F => k_is)
    (case sbF => k_is)
    (case fd_F => ks_is)
    (case gT_ => k_is)
    (case xoT => k_is)
    (case xrT => rfl)
    (case saT => k_is)
    (case beT => k_is)
    (case tyT => k_is)
    (case kpT => k_is)
    (case inT => k_is)
    (case tf_T => k_is)
    (case lIT => k_is)
    (case cIT => k_is)
    (case kIT => k_is)
    (case ceT => k_is)
    (case coT => k_is)
    (case v2T => rfl)
    (case flT => decide +kernel)
    (case cd_T => k_is)
    (case sbT => k_is)
    (case svT => k_is)
    (case fd_T => ks_is)
    (case noT_line => k_is)
    (case noT_word => k_is)
    (case suT => k_is)
    (case xgT => k_is)
    (case xkT => k_is)
    (case hdT => k_is)
    (case haT => k_is)
    (case hmT => k_is)
    (case koT => kit_is)
    (case kuT => kit_is)
    (case a_is_name => k_is)
    (case l_is_name => k_is)
    (case c_is_name => k_is)
    (case k_is_name => k_is)
    (case a_move_of => k_is)
    (case l_move_of => k_is)
    (case c_move_of => k_is)
    (case k_move_of => k_is)
    (case a_lines_of => k_is)
    (case l_lines_of => k_is)
    (case c_lines_of => k_is)
    (case k_lines_of => k_is)
    (case a_need_words => k_is)
    (case l_need_words => k_is)
    (case c_need_words => k_is)
    (case k_need_words => k_is)
    (case a_show_plan => k_is)
    (case l_show_plan => k_is)
    (case c_show_plan => k_is)
    (case k_show_plan => k_is)
    (case a_read_row => k_is)
    (case l_read_row => k_is)
    (case c_read_row => k_is)
    (case k_read_row => k_is)
    (case a_read_plan => k_is)
    (case l_read_plan => k_is)
    (case c_read_plan => k_is)
    (case k_read_plan => k_is)
    (case a__law_pen => k_is)
    (case l__law_pen => k_is)
    (case c__law_pen => k_is)
    (case k__law_pen => k_is)
    (case a__law_draw => k_is)
    (case l__law_draw => k_is)
    (case c__law_draw => k_is)
    (case k__law_draw => k_is)
    (case a__law_pick => k_is)
    (case l__law_pick => k_is)
    (case c__law_pick => k_is)
    (case k__law_pick => k_is)
    (case a__law_is_name => k_is)
    (case l__law_is_name => k_is)
    (case c__law_is_name => k_is)
    (case k__law_is_name => k_is)
    (case a__law_bent => k_is)
    (case l__law_bent => k_is)
    (case c__law_bent => k_is)
    (case k__law_bent => k_is)
    (case a__law_row_fault => k_is)
    (case l__law_row_fault => k_is)
    (case c__law_row_fault => k_is)
    (case k__law_row_fault => k_is)
    (case a__law_fault => k_is)
    (case l__law_fault => k_is)
    (case c__law_fault => k_is)
    (case k__law_fault => k_is)
    (case a__law_heard => k_is)
    (case l__law_heard => k_is)
    (case c__law_heard => k_is)
    (case k__law_heard => k_is)
    (case a_law => k_is)
    (case l_law => k_is)
    (case c_law => k_is)
    (case k_law => k_is)
    (case qo1 => k_is)
    (case qp1 => rfl)
    (case qr1 => rfl)
    (case qs_1 => rfl)
    (case qu1 => rfl)
    (case qv_1 => rfl)
    (case qw1 => rfl)
    (case qx1 => decide)
    (case qn1 => first | rfl | kernel_rfl)
    (case rc1 => decide +kernel)
end
