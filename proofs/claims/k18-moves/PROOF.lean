import PyProof.Rows.All
import Wide.All
import OpenK.AllK
import Wide.FinOn
import KE.KSuper
import KE.KCallOwn
import HandS.ForMost
import HandS.ClsMeth
import HandS.OwnEq
import HandS.FStr
import HandS.IsInst
import HandS.Star
import HandS.SlotsOwn
import HandS.Defaults
import HandS.RaiseMore
import PyProof.NeKinds
import HandS.Walk
import KE.KFromBytes
import HandS.Exc
import HandS.ExcInit
import HandS.ExcSuper
import HandS.ExcIs
import KE.KExcIs
import HandS.ExcField
import HandS.ExcValue
import HandS.Lambda
import HandS.EndTab
import HandS.EndOwn
import HandS.Words
import HandS.WordsExc
import HandS.Dict
import HandS.Text
import PyProof.InstNe
import PyProof.ReprLen
import HandS.Codes
import PySem.Challenge.RW_loopstow_k18_moves
import KE.RegKSuper
import KE.RegKIsAll
section
set_option Elab.async false
set_option linter.all false
set_option maxRecDepth 100000
set_option maxHeartbeats 4000000
/-! Own rules over the hand layer. -/
namespace Ls
open PySem PySem.Spec PyProof.Rows L2

/-! ### what a for walks: one of two kinds -/
theorem PI.or {X : Cx} {tg iter : Expr} {w1 w2 : TI} (h1 : PI X tg iter w1) (h2 : PI X tg iter w2) : PI X tg iter (fun σ H R => w1 σ H R ∨ w2 σ H R) :=
  ⟨fun pins s σ H R I h => h.elim (fun h => h1.run pins s σ H R I h) (fun h => h2.run pins s σ H R I h)⟩
/-- a list or a tuple -/
theorem pi_seq {X : Cx} {tg l : Expr} {tl : TE} (hl : PE X l tl) : PI X tg l (fun σ H R => iList X.K tl σ H R ∨ iTup X.K tl σ H R) := PI.or (pi_list hl) (pi_tup hl)

/-! ### f(k = v, ..), no positional argument -/
section
variable {X : Cx} {CX : CXT} {k : Nat} {f : Addr} {fd : FuncData} {ps ks : List Str} {sp : Sp} {E : XK} {x : Str} {p pos : Pos} {kws : List Keyword} {tk : TA} {g : List Value → List Value → List Value} {gV : List V → List V → List V}
theorem pe_callK0 (F : FnOk X.prog X.w X.K X.mg X.base CX k f fd ps sp) (hr : Room k X.A) (hg : Gl X x) (hm : X.mg x = some (.ref f)) (hk : PySem.W.keepIn X.K (.ref f) = true) (hb : KBn X.K fd ps 0 ks g gV) (hx : Passes CX X E)
    (hkw : PK X kws tk) (hall : (backToKw pos (keywordEach kws X.env)).all (·.1.isSome) = true := by rfl) (hks : (backToKw pos (keywordEach kws X.env)).filterMap (·.1) = ks := by rfl)
    (hdb : (x == ("__debug__" : Str)) = false := by decide)
    (hpl : ((backTo pos (starEach [] X.env)).any (·.1) || (backToKw pos (keywordEach kws X.env)).any (·.1.isNone)) = false := by rfl) :
    PE X (.Call (.Name x p) [] kws pos) (tCallN 0 ks.length sp gV E tNil tk) := by
  refine ⟨fun pins s σ H Q I h => ?_⟩
  refine wpAny_Call_Name_kw (ld_glob I hg hm ?_ hdb)
  refine PySem.W.callWith_KW0 (h₀ := X.base) I.ok.mod.kin hk hall ?_ hpl
  refine thn (hkw.run pos pins s σ H _ I h) fun ws s2 ⟨zs, H2, I2, rz, l1, l2, q2⟩ => ⟨I2.kIn, ?_⟩
  rw [hks]
  exact run_fnN (us := []) (vs := []) F hr hb hx I2 .nil rz l1 l2 q2
/-- one parameter, given by its name -/
theorem kbn_one {K : PySem.W.Frag} {x qual : Str} {st : Stmt} {f : Addr} {fd : FuncData} {a : Str} (F : Fun K x qual st f fd)
    (h : ∀ (kV doc pm : Value) (an : Option Addr) (cdv ct u : Value), bindArgs (PySem.W.fnOf x qual (defArgs st) (defBody st) (defScope st) .none kV doc pm an cdv ct) ⟨[], [(a, u)]⟩ = pure [(a, u)]) :
    KBn K fd [a] 0 [a] (fun _ ws => ws) (fun _ zs => zs) := by
  obtain ⟨oc, od, kV, doc, pm, an, cdv, ct, osl, rfl, lk, hcd⟩ := F.ex
  refine ⟨fun s us ws _ l1 l2 => ?_, fun _ r => r⟩
  match us, ws, l1, l2 with
  | [], [u], _, _ => exact .of_eq (h kV doc pm an cdv ct u)
end

/-! ### str(x), x an instance whose class has the text's own __str__ -/
def rStrOwn (K : PySem.W.Frag) (g : Addr) (sp : Sp) (E : XK) : List V → Hp → VK → Prop := fun xs H Q => ∃ a C dx fs, xs = [V.ref a] ∧ H a = some (.ins C dx fs) ∧ PySem.W.findIn K (.ref C) "__str__" = some (some (.ref g)) ∧ sp [.ref a] H (fun z H' => ∃ y, z = .str y ∧ Q z H') E
section
variable {X : Cx} {CX : CXT} {g : Addr} {n : Nat} {sp : Sp} {E : XK}
theorem call_strOwn (hf : PySem.W.isFn X.K (.ref g) = true) (F : FnR X.prog X.w X.K X.mg X.base CX n g sp) (hr : Room (n + 2) X.A) (hx : Passes CX X E) : CallR X (.type "str") (rStrOwn X.K g sp E) := by
  intro pins s σ H xs us Q I r h
  obtain ⟨a, C, dx, fs, rfl, ha, hs, q⟩ := h
  obtain ⟨u, rfl, ru⟩ := r.one
  cases (show u = Value.ref a from ru)
  obtain ⟨mA, O, _⟩ := ins_get I.hok ha
  obtain ⟨od, J, _⟩ := O.look
  have hr2 : Room n X.A.in1.in1 := (show Room (n + 1) X.A.in1 from Room.in1 hr).in1
  refine PySem.W.kso_call hr2.units0 I.kIn J hs hf (wpAny_mono (wpAny_call (SlX.run_at (us := [.ref a]) (ws := [.ref a]) F hr2 I.env0.in1.in1 hx I (.cons rfl .nil) q)) (fun w s' z => ?_) fun _ _ x => x)
  obtain ⟨z', H', I', rz, y, ey, qz⟩ := z
  subst ey
  obtain ⟨t, e⟩ := (show ∃ t, w = Value.str y t from rz)
  cases e
  exact ⟨.str y, H', I', ⟨t, rfl⟩, qz⟩
/-- .. the written part by its own name (for a block) -/
theorem call_strOwnK {P : Program} {w : World} {K : PySem.W.Frag} {mg : Str → Option Value} {base : Heap} (hf : PySem.W.isFn K (.ref g) = true) (F : FnR P w K mg base CX n g sp) {A : Around} (hr : Room (n + 2) A) (hP : X.prog = P) (hw : X.w = w) (hK : X.K = K) (hmg : X.mg = mg) (hb : X.base = base) (hA : X.A = A) (hx : Passes CX X E) :
    CallR X (.type "str") (rStrOwn K g sp E) := by
  subst hP hw hK hmg hb hA
  exact call_strOwn hf F hr hx
end
end Ls
end
section
set_option Elab.async false
set_option linter.all false
set_option maxRecDepth 100000
set_option maxHeartbeats 4000000
namespace Ls
open PySem PySem.Spec PyProof.Rows L2

/-! ### a def that closes over __class__, its first statement super().__init__(..) -/
structure ScS (N ps : List Str) (sc : Scope) : Prop where
  kind : sc.kind = .function
  co : sc.isCoroutine = false
  gen : sc.isGenerator = false
  nd : N.Nodup
  pre : N.take ps.length = ps
  par : ∀ x ∈ ps, sc.names.lookup x = some .local
  nocell : ∀ y ∈ sc.names, y.2 ≠ .cell
  free : ∀ y ∈ sc.names, y.2 = .free → y.1 = "__class__"

def cxS (CX : CXT) (P : Program) (w : World) (K : PySem.W.Frag) (mg : Str → Option Value) (base : Heap) (N : List Str) (qual : Str) (scope : Scope) (f : Addr) (cd : Value) (cc : Addr) (A : Around) (outer : List Env) (s : Shared) (H : Hp) (E : XK) : Cx where
  prog := P
  w := w
  K := K
  mg := mg
  base := base
  A := A.deeper (PySem.W.ksEnv qual scope s.heap.objs.size f cd cc)
  N := N
  s_0 := s
  H_0 := H
  env := PySem.W.ksEnv qual scope s.heap.objs.size f cd cc
  outer := outer
  stack := PySem.W.ksEnv qual scope s.heap.objs.size f cd cc :: outer
  ex := []
  calm := true
  fn := fun x => !(x == ("__class__" : Str))
  pn := []
  xe := fun e s' => wpAny (model P w) (A.deeper (PySem.W.ksEnv qual scope s.heap.objs.size f cd cc)) (leaving (PySem.W.ksEnv qual scope s.heap.objs.size f cd cc) e) (fun _ s'' => CX outer H s E e s'') (fun e' s'' => CX outer H s E e' s'') s'

theorem rev_lookup {x : Str} {v : Value} : ∀ {ps : List Str} {us : List Value} {i : Nat}, ps.Nodup → ps[i]? = some x → us[i]? = some v → (ps.zip us).reverse.lookup x = some v
  | [], _, _, _, h, _ => by simp at h
  | _ :: _, [], _, _, _, h => by simp at h
  | p :: ps, u :: us, 0, nd, h1, h2 => by
    simp at h1 h2
    subst h1; subst h2
    rw [List.zip_cons_cons, List.reverse_cons, List.lookup_append]
    have : (ps.zip us).reverse.lookup p = none := by
      rw [List.lookup_eq_none_iff]
      rintro ⟨a, b⟩ hm
      have hm' := List.mem_reverse.mp hm
      have ha := (List.of_mem_zip hm').1
      have : p ≠ a := fun e => (List.nodup_cons.mp nd).1 (e ▸ ha)
      simpa using this
    rw [this]
    simp [List.lookup]
  | p :: ps, u :: us, i + 1, nd, h1, h2 => by
    rw [List.zip_cons_cons, List.reverse_cons, List.lookup_append, rev_lookup (i := i) (List.nodup_cons.mp nd).2 (by simpa using h1) (by simpa using h2)]
    rfl

section
variable {CX : CXT} {P : Program} {w : World} {K : PySem.W.Frag} {mg : Str → Option Value} {base : Heap} {N ps : List Str} {qual : Str} {scope : Scope} {f cc : Addr} {cd : Value} {A : Around} {outer : List Env} {s : Shared} {H : Hp} {E : XK} {us : List Value} {vs : List V}

theorem inv_startS {h1 : Heap} {tk : Nat} {ocell : Obj} {vc : Option Value} (S : ScS N ps scope) (hd : A.handled = none) (e0 : Env0 P w K mg base A outer s H) (hl : vs.length = ps.length) (r : Vals vs us)
    (hcell : K.lookup cc = some ocell) (hcd : ocell.data = .cell vc)
    (hns : h1.Ns s.heap.objs.size (fun x => (ps.zip us).reverse.lookup x)) (hk : ∀ b o, s.heap.get? b = some o → h1.get? b = some o) :
    Inv (cxS CX P w K mg base N qual scope f cd cc A outer s H E) [] (start N vs) H { s with heap := h1, toks := tk } := by
  have hpl : ps.length ≤ N.length := by have := congrArg List.length S.pre; rw [List.length_take] at this; omega
  have hccb : base.get? cc = some ocell := e0.mod.kin _ _ hcell
  have lkc : ∀ x c, List.lookup x [(("__class__" : Str), cc)] = some c → x = "__class__" ∧ c = cc := fun x c e => by
    by_cases hx : x = "__class__"
    · subst hx
      simp [List.lookup] at e
      exact ⟨rfl, e.symm⟩
    · have : (x == ("__class__" : Str)) = false := by simpa using hx
      simp [List.lookup, this] at e
  have noA : ∀ b : Addr, b ∉ (cxS CX P w K mg base N qual scope f cd cc A outer s H E).ex := fun b z => absurd (show b ∈ ([] : List Addr) from z) (by simp)
  refine ⟨⟨e0.mod, S.kind, rfl, rfl, Nat.le_refl _, fun y z c q1 q2 => ?_, fun y hy => ?_, fun y c hfn h => ?_, fun _ => hd, Around.frames_deeper e0.frames, .inr ⟨rfl, rfl⟩, fun b z => absurd z (noA b), e0.bs, e0.bsz, fun b _ _ => noA b, fun b z => absurd z (noA b), e0.funs, e0.frf⟩,
    rfl, e0.bare, Un.kept hk, ⟨_, hns, fun i y v q1 q2 q3 => ?_⟩, fun y c h => ?_, e0.hok.fresh (Nat.le_refl _), fun y c h => ?_, fun p hp => absurd (show p ∈ ([] : List (Addr × Obj)) from hp) (by simp), e0.hok.kept hk, ?_⟩
  · rw [(lkc y c q1).1, (lkc z c q2).1]
  · have hy : scope.names.lookup y = some .cell ∨ scope.names.lookup y = some .free := hy
    rcases hy with hy | hy
    · exact absurd rfl (S.nocell _ (PySem.mem_of_lookup hy))
    · have e := S.free _ (PySem.mem_of_lookup hy) rfl
      have e' : y = "__class__" := e
      subst e'
      exact ⟨cc, by show List.lookup _ [_] = _; simp [List.lookup]⟩
  · have e := (lkc y c h).1
    subst e
    exact absurd (show (!(("__class__" : Str) == ("__class__" : Str))) = true from hfn) (by simp)
  · have hi : i < vs.length := by
      unfold L2.start at q2
      by_cases hi : i < vs.length
      · exact hi
      · rw [List.getElem?_append_right (by simpa using hi)] at q2
        rw [List.getElem?_replicate] at q2
        split at q2 <;> cases q2
    have ha : vs[i]? = some v := by
      unfold L2.start at q2
      rw [List.getElem?_append_left (by simpa using hi), List.getElem?_map] at q2
      cases e : vs[i]? with
      | none => rw [e] at q2; cases q2
      | some a => rw [e] at q2; cases q2; rfl
    obtain ⟨u, hu, rv⟩ := r.get ha
    have hp : ps[i]? = some y := by
      rw [← S.pre, List.getElem?_take_of_lt (by omega)]; exact q1
    have ndP : ps.Nodup := by rw [← S.pre]; exact S.nd.sublist (List.take_sublist _ _)
    exact ⟨u, rv, .inl ⟨S.par y (List.mem_of_getElem? hp), rev_lookup ndP hp hu⟩⟩
  · obtain ⟨_, e⟩ := lkc y c h
    subst e
    exact ⟨vc, ocell, hk _ _ (e0.bs _ _ hccb).1, hcd⟩
  · obtain ⟨_, e⟩ := lkc y c h
    subst e
    exact (e0.bs _ _ hccb).2
  · unfold L2.start
    show _ = N.length
    rw [List.length_append, List.length_map, List.length_replicate]
    omega
end

/-- what the written part says for super().__init__ in a def of the class at D, of an instance of the class at C -/
structure SupT (P : Program) (K : PySem.W.Frag) (mg : Str → Option Value) (C D cc cda : Addr) (m : Str) (f2 : Addr) : Prop where
  cell : ∃ cl cld csl, K.lookup cc = some ⟨cl, cld, .cell (some (.ref D)), csl⟩
  code : ∃ ccl cdd vs ccs file tf, K.lookup cda = some ⟨ccl, cdd, .fields vs, ccs⟩ ∧ vs[2]? = some (.str file tf) ∧ ((P.main.file : Str) == file) = true
  clD : ∃ cdD, PySem.W.clsIn K D = some cdD
  sub : PySem.W.mroIn K C (.ref D) = some true
  sup : mg "super" = none
  top : (P.main.scope.names.lookup ("super" : Str)).isSome = false
  any : PySem.W.nsIn K cStatics "thirdparty.any" = some none
  fnd : PySem.W.ks_superIn K C D m = some (some (.ref f2))
  ty : PySem.W.typeIn K (.ref f2) = some (.type "function")
  fi : PySem.W.fnIn K f2 = true

section
variable {CX : CXT} {P : Program} {w : World} {K : PySem.W.Frag} {mg : Str → Option Value} {base : Heap} {k : Nat} {f cc cda : Addr} {name qual : Str} {params : Arguments} {scope : Scope} {dV kV doc pm ct oc : Value} {an od : Option Addr}
    {osl : Array (Option Value)} {N ps : List Str} {sp : Sp} {e : PySem.Expr} {es : List PySem.Expr} {rest : List Stmt} {m : Str} {p0 p1 apos pos epos : Pos} {pl : Sem Bool}
theorem fn_super (lk : K.lookup f = some ⟨oc, od, .func (PySem.W.ksFn name qual params (.Expr (.Call (.Attribute (.Call (.Name "super" p0) [] [] p1) m apos) (e :: es) [] pos) epos :: rest) scope dV kV doc pm an (.ref cda) ct cc), osl⟩)
    (hcd : PySem.W.codeIn K (.ref cda) qual = true) (S : ScS N ps scope)
    {ar : Arg} (hp0 : (params.posonlyargs ++ params.args).head? = some ar) (hps : ps.head? = some ar.arg) (hN0 : N.head? = some ar.arg) (har : scope.names.lookup ar.arg = some .local)
    (hks : scope.names.lookup ("super" : Str) = some .globalImplicit) (hkc : scope.names.lookup ("__class__" : Str) = some .free) (hmc : (m == ("__class__" : Str)) = false)
    (len : ∀ vs H Q E, sp vs H Q E → vs.length = ps.length)
    (hbody : ∀ (A : Around) (outer : List Env) (s : Shared) (H : Hp) (vs : List V) (Q : VK) (E : XK), Room k (A.deeper (PySem.W.ksEnv qual scope s.heap.objs.size f (.ref cda) cc)) → sp vs H Q E →
      ∃ (x C D dx f2 : Addr) (fs : List (Str × V)) (vs' : List V) (ta : TA) (u : TS) (spM : Sp) (CX' : CXT) (E' : XK), vs = .ref x :: vs' ∧ H x = some (.ins C dx fs) ∧ SupT P K mg C D cc cda m f2 ∧
        PA (cxS CX P w K mg base N qual scope f (.ref cda) cc A outer s H E) (e :: es) ta ∧ FnR P w K mg base CX' k f2 spM ∧ Passes CX' (cxS CX P w K mg base N qual scope f (.ref cda) cc A outer s H E) E' ∧
        PSs (cxS CX P w K mg base N qual scope f (.ref cda) cc A outer s H E) rest u ∧
        ta (start N vs) H (fun ws H1 => spM (.ref x :: ws) H1 (fun _ H2 => u { nx := fun _ H' => Q .non H', rt := Q } (start N vs) H2) E'))
    (hi : ∀ L, interactive (PySem.W.ksEnv qual scope L f (.ref cda) cc) = false) (hsw : ∀ L, swapsWith (.Call (.Attribute (.Call (.Name "super" p0) [] [] p1) m apos) (e :: es) [] pos) none epos.line (PySem.W.ksEnv qual scope L f (.ref cda) cc) = pure false)
    (he : ∀ L, eval (.Call (.Attribute (.Call (.Name "super" p0) [] [] p1) m apos) (e :: es) [] pos) (PySem.W.ksEnv qual scope L f (.ref cda) cc) = (do
      let ov ← attributeBase (.Call (.Name "super" p0) [] [] p1) m (PySem.W.ksEnv qual scope L f (.ref cda) cc) (eval (.Call (.Name "super" p0) [] [] p1) (PySem.W.ksEnv qual scope L f (.ref cda) cc))
      standAt apos.atName
      let (fn, first) ← holding [ov] (getMethod ov m pl)
      callWith pos fn first (backTo pos (starEach (e :: es) (PySem.W.ksEnv qual scope L f (.ref cda) cc))) []))
    (hst : ∀ L, starEach (e :: es) (PySem.W.ksEnv qual scope L f (.ref cda) cc) = (false, eval e (PySem.W.ksEnv qual scope L f (.ref cda) cc)) :: starEach es (PySem.W.ksEnv qual scope L f (.ref cda) cc))
    (hpl : ∀ L, (backTo pos (starEach es (PySem.W.ksEnv qual scope L f (.ref cda) cc))).any (·.1) = false) :
    FnOk P w K mg base CX (k + 1) f (PySem.W.ksFn name qual params (.Expr (.Call (.Attribute (.Call (.Name "super" p0) [] [] p1) m apos) (e :: es) [] pos) epos :: rest) scope dV kV doc pm an (.ref cda) ct cc) ps sp := by
  refine ⟨len, fun A outer s H args us vs Q E hr e0 hb r hsp => ?_⟩
  have hl := len _ _ _ _ hsp
  have KX : K.In s.heap := e0.mod.kin.keeps fun b o e => (e0.bs b o e).1
  have lim : s.heap.NoLimit := e0.mod.nolimit.keeps fun b o e => (e0.bs b o e).1
  obtain ⟨x, C, D, dx, f2, fs, vs', ta, u, spM, CX', E', rfl, hx, T, hta, FM, hpx, hrest, hq⟩ := hbody A outer s H vs Q E (hr.deeper _) hsp
  obtain ⟨cl, cld, csl, hcell⟩ := T.cell
  obtain ⟨ccl, cdd, cvs, ccs, file, tf, hcode, hvs, hfile⟩ := T.code
  obtain ⟨cdD, hD⟩ := T.clD
  refine PySem.ks_codeAny_call_defAt (binds := ps.zip us) hr.depth (KX _ _ lk) rfl lim (PySem.W.codeRec_of KX hcd) rfl hb S.nocell (fun y hy => S.par y.1 (List.of_mem_zip hy).1) (fun h1 hns hk => ?_) S.co S.gen S.kind
  have I : Inv (cxS CX P w K mg base N qual scope f (.ref cda) cc A outer s H E) [] (start N (.ref x :: vs')) H { s with heap := h1, toks := s.toks + (ps.zip us).length } :=
    inv_startS (vs := .ref x :: vs') S hr.hd e0 hl r hcell rfl hns hk
  have hX : K.In h1 := I.kIn
  obtain ⟨mA, O, _⟩ := ins_get I.hok hx
  obtain ⟨odx, J, _⟩ := O.look
  obtain ⟨oD, hD1, hD2⟩ : ∃ oD, h1.get? D = some oD ∧ oD.data = .cls cdD := by
    unfold PySem.W.clsIn at hD
    split at hD
    · rename_i c d cd' sl ho
      cases hD
      exact ⟨_, hX _ _ ho, rfl⟩
    · cases hD
  have hbase : ∀ b o, s.heap.get? b = some o → h1.get? b = some o := hk
  refine PySem.ks_wpAt_execs_cons (PySem.ks_wpAt_Expr_any (PySem.ks_wpAt_MethodCall (pl := pl) ?_ (he _)) (hi _) (hsw _))
  refine PySem.ks_wpAt_super_base (env := PySem.W.ksEnv qual scope s.heap.objs.size f (.ref cda) cc) hks hkc hmc rfl (hX _ _ lk) rfl hp0 rfl (hX _ _ hcode) rfl hvs hfile T.top ?_
  obtain ⟨mb, hb1, hb2⟩ := I.mod.blt
  refine PySem.W.ks_loadName_global S.kind hks (Calls.loadGlobal_builtin (env := PySem.W.ksEnv qual scope s.heap.objs.size f (.ref cda) cc) (I.mod.glob.keeps I.bk) T.sup (hb1.keeps I.bk) ((hb2 _ (by decide +kernel)).trans (show bootBuiltins "super" = some (.type "super") by first | rfl | kernel_rfl)) ⟨rfl, ?_⟩)
  refine wpAny_loadName_free S.kind hkc (by show List.lookup _ [_] = _; simp [List.lookup]) ⟨_, hX _ _ hcell, rfl⟩ ?_
  have hself : (ps.zip us).reverse.lookup ar.arg = some (.ref x) := by
    match ps, us, hps, r with
    | p :: ps', u' :: us', hp', .cons ru _ =>
      have hp'' : p = ar.arg := by simpa using hp'
      subst hp''
      cases (show u' = Value.ref x from ru)
      have ndP : (ar.arg :: ps').Nodup := by
        have := S.pre
        rw [← this]
        exact S.nd.sublist (List.take_sublist _ _)
      exact rev_lookup (i := 0) ndP rfl rfl
  refine wpAny_loadName_local S.kind har hns hself ?_
  refine PySem.ks_wpAny_isType_cls hD1 hD2 ⟨rfl, ?_⟩
  refine PySem.ks_wpAny_call_super hD1 hD2 J.at_ J.cls (fun c e => ?_) (PySem.W.looks_mroIn hX T.sub) (fun h' hso k' => ?_)
  · have := J.no
    unfold PySem.W.notCls at this
    rw [e] at this
    exact Bool.noConfusion this
  -- the super object is pinned
  have I1 : Inv (cxS CX P w K mg base N qual scope f (.ref cda) cc A outer s H E) [(h1.objs.size, PySem.W.ks_superObj D x C)] (start N (.ref x :: vs')) H { s with heap := h', toks := s.toks + (ps.zip us).length } :=
    ClX.pin_new (s := { s with heap := h1, toks := s.toks + (ps.zip us).length }) (t' := s.toks + (ps.zip us).length) I k' (Nat.le_refl _) hso (fun v z => nomatch z)
  have hX' : K.In h' := I1.kIn
  have fnd := T.fnd
  cases hc : PySem.W.clsIn K C with
  | none => unfold PySem.W.ks_superIn at fnd; rw [hc] at fnd; cases fnd
  | some cdC =>
    unfold PySem.W.ks_superIn at fnd
    rw [hc] at fnd
    obtain ⟨of, hof, hofc⟩ : ∃ of, h'.get? f2 = some of ∧ of.cls = .type "function" := by
      have ht' : (K.lookup f2).map (·.cls) = some (.type "function") := T.ty
      cases z : K.lookup f2 with
      | none => rw [z] at ht'; cases ht'
      | some of => rw [z] at ht'; exact ⟨of, hX' _ _ z, Option.some.inj ht'⟩
    refine PySem.ks_wpAny_getMethod_super (h := h') hso (PySem.W.looks_opaque hX' T.any) (l₀ := cdC.mro) ?_ rfl hX' fnd hof hofc (PySem.W.ks_ne hX J hc) hmc ?_
    · exact fun A Q E s k q => wpAny_bind ((PySem.W.looks_clsIn hX' hc) A _ E s k (wpAny_pure q))
    · have I2 := ClX.pin_new (s := { s with heap := h', toks := s.toks + (ps.zip us).length }) (o := PySem.W.methodObj (.ref f2) (.ref x)) (t' := s.toks + (ps.zip us).length + 1) I1 (fun _ _ z => Heap.get?_push_of_some _ z) (Nat.le_refl _) (Heap.get?_push_size h' rfl) (fun v z => nomatch z)
      refine ClX.callwith_cm (X := cxS CX P w K mg base N qual scope f (.ref cda) cc A outer s H E) I2 (ClX.base_none I1 (Nat.le_refl _)) T.fi (thn (hta.run pos _ _ _ H _ I2 hq) fun us2 s3 ⟨ws, H2, I3, rv, q2⟩ => ⟨⟨ClX.pin_at I3, I3.kIn⟩, ?_⟩) (hst _) (hpl _)
      refine thn (ClX.run_cm FM (hr.deeper _) hpx I3 rv q2) fun v s4 h4 => ?_
      obtain ⟨v4, H4, I4, _, q4⟩ := ClX.unpinE h4
      refine wpAt_of_wpAny (wpAny_mono (hrest.run [] s4 _ H4 _ I4 q4) (fun fl s' hs => ?_) fun e s' hs => hs)
      have fin : ∀ {σ' : L2.St} {H' : Hp} {v : V} {u : Value}, Inv (cxS CX P w K mg base N qual scope f (.ref cda) cc A outer s H E) [] σ' H' s' → RelV v u → Q v H' → CE outer P w H s Q u s' :=
        fun {σ' H' v u} J rv q => ⟨v, H', J.os, J.bare, J.base, J.hok, rv, q⟩
      cases fl with
      | ret u =>
        obtain ⟨v, σ', H', J, rv, q⟩ := hs
        exact fin J rv q
      | next =>
        obtain ⟨σ', H', J, q⟩ := hs
        exact fin (v := V.non) (u := Value.none) J rfl q
      | brk =>
        obtain ⟨_, _, _, q⟩ := hs
        exact False.elim q
      | cont =>
        obtain ⟨_, _, _, q⟩ := hs
        exact False.elim q
end
end Ls
end
section
set_option Elab.async false
set_option linter.all false
set_option maxRecDepth 100000
set_option maxHeartbeats 4000000
namespace LsN
open PySem PySem.SeqAt
open AutoSeq1 (wpAny_loadPart')
open MeetsSeq MeetsSeq2 MeetsSeq3 SeqRoads2
section
variable {prog : Program} {w : World} {A : Around} {R : Result → Shared → Prop}
theorem ne_loopG (l b : Addr) (N : Nat) (I : Nat → Shared → Prop) (hl : GQ.ListI prog w A (fun e s' => R (.error e) s') l b N I)
    (fin : ∀ s, I N s → R (.ok (.ret (.bool false))) s) (k : Nat) :
    ∀ i : Nat, N - i = k → i ≤ N → ∀ s, I i s →
      wpAny (model prog w) A.in1 (Builtin.«list.__eq__.loop» ⟨[.ref l, .ref b, rawInt i, rawInt 3], []⟩) (GQ.FinOf prog w A R) (fun e s' => R (.error e) s') s := by
  induction k with
  | zero =>
    intro i hk hi s h
    obtain ⟨items, items2, n, n2, hl1, hb1, hs1, hs2, _⟩ := hl _ _ h
    have hi' : i = N := by omega
    have hR : R (.ok (.ret (.bool false))) s := fin s (hi' ▸ h)
    obtain ⟨hp, g, d, tk, os⟩ := s
    wp_walk using wpAny_loadPart' hl1, wpAny_loadPart' hb1
    have hi1 : items[((i : Nat) : Int).toNat]? = none := by simp; omega
    have hi2 : items2[((i : Nat) : Int).toNat]? = none := by simp; omega
    rw [hi1, hi2]
    wp_walk using wpAny_loadPart' hl1, wpAny_loadPart' hb1
    show R (.ok (.ret (.bool (items.size != items2.size)))) _
    rw [hs1, hs2]
    simpa using hR
  | succ k ih =>
    intro i hk hi s h
    obtain ⟨items, items2, n, n2, hl1, hb1, hs1, hs2, turn⟩ := hl _ _ h
    have hlt : i < items.size := by omega
    have hlt2 : i < items2.size := by omega
    have ht := turn hlt hlt2
    obtain ⟨hp, g, d, tk, os⟩ := s
    wp_walk using wpAny_loadPart' hl1, wpAny_loadPart' hb1
    have hi1 : items[((i : Nat) : Int).toNat]? = some items[i] := by simp [hlt]
    have hi2 : items2[((i : Nat) : Int).toNat]? = some items2[i] := by simp [hlt2]
    have hc : ((i : Int) + 1) = ((i + 1 : Nat) : Int) := by omega
    rw [hi1, hi2]
    refine wpAny_bind (wpAny_mono ht (fun r s2 h2 => ?_) fun _ _ x => x)
    obtain ⟨hr, h2⟩ := h2
    subst hr
    have hrec := ih (i + 1) (by omega) (by omega) s2 h2
    obtain ⟨hp2, g2, d2, tk2, os2⟩ := s2
    wp_walk
    rw [hc]
    exact ⟨plainId_quiet plain_eq_loop _, codeAny_builtin entry_eq_loop (by
      rw [Around.under_plainId plain_eq_loop _]
      exact hrec)⟩
theorem list_neG (l b : Addr) (N : Nat) (I : Nat → Shared → Prop) (hl : GQ.ListI prog w A (fun e s' => R (.error e) s') l b N I)
    (fin : ∀ s, I N s → R (.ok (.ret (.bool false))) s) {s : Shared} (h : I 0 s) :
    wpAny (model prog w) A.in1 (Builtin.«list.__ne__» ⟨[.ref l, .ref b], []⟩) (GQ.FinOf prog w A R) (fun e s' => R (.error e) s') s := by
  obtain ⟨items, items2, n, n2, hl1, hb1, hs1, hs2, _⟩ := hl _ _ h
  have hrec := ne_loopG (A := A) (R := R) l b N I hl fin _ 0 rfl (Nat.zero_le _) s h
  obtain ⟨hp, g, d, tk, os⟩ := s
  have f3 := AutoSeq1.sub_list_list
  have hne : ¬ (items.size != items2.size) = true := by simp [hs1, hs2]
  wp_walk using wpAny_loadPart' hl1, wpAny_loadPart' hb1
  exact ⟨plainId_quiet plain_eq_loop _, codeAny_builtin entry_eq_loop (by
    rw [Around.under_plainId plain_eq_loop _]
    exact hrec)⟩
end
section
variable {prog : Program} {w : World} {A : Around} {E : Value → Shared → Prop} {s : Shared}
theorem rc_listNe {l b : Addr} {N : Nat} {Q : Value → Shared → Prop} (hu : A.units < cLine) (I : Nat → Shared → Prop) (hl : GQ.ListI prog w A E l b N I)
    (fin : ∀ s, I N s → Q (.bool false) s) (h : I 0 s) : wpAny (model prog w) A (richCompare .NotEq (.ref l) (.ref b)) Q E s := by
  obtain ⟨items, items2, n, n2, hl1, hb1, _, _, _⟩ := hl _ _ h
  refine wpAny_richCompare_same_room (op := .NotEq) ⟨_, hl1, rfl⟩ ⟨_, hb1, rfl⟩ F.slot_list_ne (GQ.call_here F.slot_list_ne ⟨_, hl1, rfl⟩ F.entry_list_ne (F.args_list_ne_2 _ _) ?_) hu
  exact list_neG (R := wants (fun v s' => v ≠ .notImplemented ∧ Q v s') E) l b N I hl (fun s' q => ⟨(fun x => nomatch x), fin s' q⟩) h
end
end LsN
namespace Ls
open PySem PySem.Spec PyProof.Rows L2
section
variable {X : Cx} {n : Nat} {D : Eqv}
/-- x != y of two lists whose items are equal (by ==, which only makes objects): False -/
def rNeG (D : Eqv) : R2 := fun x y H Q => DList D x y H ∧ ∀ H', Ext H H' → Q (.bl false) H'
theorem op_neG (hD : Mon D) (h : EqG X n D) (hr : Room (n + 1) X.A) : OpR X (compareOp .NotEq) (rNeG D) := by
  intro pins s σ H x y v u Q I rx ry hq
  obtain ⟨⟨a, b, xs, ys, rfl, rfl, ha, hb, p⟩, q⟩ := hq
  cases (show v = Value.ref a from rx)
  cases (show u = Value.ref b from ry)
  show wpAny (model X.prog X.w) X.A (richCompare .NotEq (.ref a) (.ref b)) (EP X pins σ Q) X.xe s
  have sb : L2.Sub X (n + 1) X.A := ⟨hr, rfl⟩
  refine LsN.rc_listNe (N := xs.length) hr.units0 (fun _ s' => LoopI X pins σ H s') (fun i s' q => ?_) (fun s' q' => ?_) ⟨H, I, Ext.rfl'⟩
  · obtain ⟨H1, I1, e1⟩ := id q
    obtain ⟨z, its, k, r, e⟩ := I1.hok a _ (e1 _ _ ha)
    obtain ⟨z2, its2, k2, r2, e2⟩ := I1.hok b _ (e1 _ _ hb)
    refine ⟨its.toArray, its2.toArray, k, k2, e, e2, by rw [List.size_toArray, ← r.length], by rw [List.size_toArray, ← r2.length, ← p.1], fun h1 h2 => ?_⟩
    exact turnG hD h sb p r r2 i h1 h2 s' q
  · obtain ⟨H', I', e'⟩ := q'
    exact ⟨.bl false, H', I', rfl, q H' e'⟩
end
end Ls
end
section
set_option Elab.async false
set_option linter.all false
set_option maxRecDepth 100000
set_option maxHeartbeats 4000000
namespace Ls
open PySem PySem.Spec PyProof.Rows L2

/-! ### callees in one word -/
section
variable (P : Program) (w : World) (K : PySem.W.Frag) (mg : Str → Option Value) (base : Heap) (CX : CXT) (k : Nat)
/-- the def under the module's name x keeps sp -/
structure Cal (x : Str) (sp : Sp) : Prop where
  ex : ∃ f, mg x = some (.ref f) ∧ PySem.W.keepIn K (.ref f) = true ∧ FnR P w K mg base CX k f sp
/-- .. called with one keyword -/
structure CalK (x a : Str) (sp : Sp) : Prop where
  ex : ∃ f fd, mg x = some (.ref f) ∧ PySem.W.keepIn K (.ref f) = true ∧ KBn K fd [a] 0 [a] (fun _ ws => ws) (fun _ zs => zs) ∧ FnOk P w K mg base CX k f fd [a] sp
/-- the class at C under the module's name x; its __init__ keeps sp -/
structure Mkc (C : Addr) (x : Str) (sp : Sp) : Prop where
  ex : ∃ f, mg x = some (.ref C) ∧ Mk K C f ∧ FnR P w K mg base CX k f sp
/-- the classmethod m of the class at C keeps sp -/
structure Clm (C : Addr) (m : Str) (sp : Sp) : Prop where
  ex : ∃ mc p g, ClX.CRead K C mc ∧ ClX.CMet K C mc m p g ∧ FnR P w K mg base CX k g sp
end
def tCl (sp : Sp) (E : XK) (t : TA) : TE := fun σ H Q => t σ H fun vs H1 => sp vs H1 Q E
section
variable {X : Cx} {CX : CXT} {k : Nat} {C : Addr} {sp : Sp} {E : XK} {x m a : Str} {p pos apos : Pos} {e o : PySem.Expr} {es : List PySem.Expr} {kws : List Keyword} {ta : TE} {t tk : TA} {pl : Sem Bool}
theorem pe_cal (c : Cal X.prog X.w X.K X.mg X.base CX k x sp) (hr : Room k X.A) (hg : Gl X x) (hx : Passes CX X E) (ha : PA X (e :: es) t) (hd : (x == ("__debug__" : Str)) = false := by decide)
    (he : starEach (e :: es) X.env = (false, eval e X.env) :: starEach es X.env := by rfl) (hpl : (backTo pos (starEach es X.env)).any (·.1) = false := by rfl) :
    PE X (.Call (.Name x p) (e :: es) [] pos) (tCl sp E t) := by
  obtain ⟨f, hm, hk, F⟩ := c.ex
  refine ⟨fun pins s σ H Q I h => ?_⟩
  refine wpAny_Call_Name_kw (ld_glob I hg hm ?_ hd)
  refine PySem.W.callWith_K (h₀ := X.base) I.ok.mod.kin hk (thn (ha.run pos pins s σ H _ I h) fun us s1 ⟨vs, H1, I1, r, q⟩ => ⟨I1.kIn, ?_⟩) he hpl
  exact wpAny_call (run_fnR F hr hx I1 r q)
theorem pe_calk (c : CalK X.prog X.w X.K X.mg X.base CX k x a sp) (hr : Room k X.A) (hg : Gl X x) (hx : Passes CX X E)
    (hkw : PK X kws tk) (hall : (backToKw pos (keywordEach kws X.env)).all (·.1.isSome) = true := by rfl) (hks : (backToKw pos (keywordEach kws X.env)).filterMap (·.1) = [a] := by rfl)
    (hdb : (x == ("__debug__" : Str)) = false := by decide)
    (hpl : ((backTo pos (starEach [] X.env)).any (·.1) || (backToKw pos (keywordEach kws X.env)).any (·.1.isNone)) = false := by rfl) :
    PE X (.Call (.Name x p) [] kws pos) (tCallN 0 1 sp (fun _ zs => zs) E tNil tk) := by
  obtain ⟨f, fd, hm, hk, hb, F⟩ := c.ex
  exact pe_callK0 F hr hg hm hk hb hx hkw hall hks hdb hpl
theorem pe_mkc (c : Mkc X.prog X.w X.K X.mg X.base CX k C x sp) (hr : Room (k + 1) X.A) (hg : Gl X x) (hx : Passes CX X E) (ha : PA X (e :: es) t) (hdb : (x == ("__debug__" : Str)) = false := by decide)
    (he : starEach (e :: es) X.env = (false, eval e X.env) :: starEach es X.env := by rfl) (hpl : (backTo pos (starEach es X.env)).any (·.1) = false := by rfl) :
    PE X (.Call (.Name x p) (e :: es) [] pos) (StX.tMakeR C sp E t) := by
  obtain ⟨f, hm, M, F⟩ := c.ex
  exact StX.pe_makeR M F hr hg hm hx ha hdb he hpl
theorem pe_clm (c : Clm X.prog X.w X.K X.mg X.base CX k C m sp) (hr : Room k X.A) (ho : PE X o ta) (hx : Passes CX X E) (ha : PA X (e :: es) t)
    (hst : starEach (e :: es) X.env = (false, eval e X.env) :: starEach es X.env := by rfl) (hpl : (backTo pos (starEach es X.env)).any (·.1) = false := by rfl)
    (ht : eval (.Call (.Attribute o m apos) (e :: es) [] pos) X.env = (do
      let ov ← eval o X.env
      standAt apos.atName
      let (f, first) ← holding [ov] (getMethod ov m pl)
      callWith pos f first (backTo pos (starEach (e :: es) X.env)) (backToKw pos (keywordEach [] X.env))) := by rfl) :
    PE X (.Call (.Attribute o m apos) (e :: es) [] pos) (ClX.tCMeth C sp E ta t) := by
  obtain ⟨mc, p, g, r, c, F⟩ := c.ex
  exact ClX.pe_cmeth (pl := pl) ho r c F hr hx ha hst hpl ht
end

theorem iteNo {c : Bool} {A B : Prop} (hc : c = false) (h : B) : if c = true then A else B := by rw [hc, if_neg Bool.false_ne_true]; exact h
theorem strNo {a b : Str} (h : ¬ a = b) : decide (V.str a = V.str b) = false := decide_eq_false fun e => h (V.str.inj e)
theorem iteYes {c : Bool} {A B : Prop} (hc : c = true) (h : A) : if c = true then A else B := by rw [hc, if_pos rfl]; exact h
/-! ### constants of the module -/
section
variable {X : Cx} {x z : Str} {i : Int} {tk : Tok} {a : Addr} {pos : Pos}
theorem pe_gstr (hg : Gl X x) (hm : X.mg x = some (.str z tk)) (hd : (x == ("__debug__" : Str)) = false := by decide) : PE X (.Name x pos) (tC (.str z)) := pe_glob hg hm ⟨_, rfl⟩ hd
theorem pe_gint (hg : Gl X x) (hm : X.mg x = some (.int i tk)) (hd : (x == ("__debug__" : Str)) = false := by decide) : PE X (.Name x pos) (tC (.int i)) := pe_glob hg hm ⟨_, rfl⟩ hd
theorem pe_gref (hg : Gl X x) (hm : X.mg x = some (.ref a)) (hd : (x == ("__debug__" : Str)) = false := by decide) : PE X (.Name x pos) (tC (.ref a)) := pe_glob hg hm rfl hd
theorem pe_gty {T : String} (hg : Gl X x) (hm : X.mg x = none) (hv : bootBuiltins x = some (.type T)) (hn : x ≠ "__name__" := by decide) (hd : (x == ("__debug__" : Str)) = false := by decide) : PE X (.Name x pos) (tC (.ty T)) := pe_bltn hg hm hv rfl hn hd
end

/-! ### what a dict's table says behind a store -/
theorem len_put {κ : Type} [DecidableEq κ] {kvs : List (κ × V)} {k : κ} {x v : V} (h : valV kvs k = some x) : (putK kvs k v).length = kvs.length := by
  unfold putK
  rw [valV_any, h]
  simp
theorem val_same {κ : Type} [DecidableEq κ] {kvs : List (κ × V)} {k : κ} {v : V} : valV (putK kvs k v) k = some v := by rw [valV_put, if_pos rfl]
theorem val_other {κ : Type} [DecidableEq κ] {kvs : List (κ × V)} {k j : κ} {v : V} {r : Option V} (hne : ¬ j = k) (h : valV kvs j = r) : valV (putK kvs k v) j = r := by rw [valV_put, if_neg hne]; exact h

/-! ### heaps that keep all but two objects -/
def Keep (p c : Addr) (H H' : Hp) : Prop := ∀ b o, H b = some o → b ≠ p → b ≠ c → H' b = some o
theorem Keep.refl {p c : Addr} {H : Hp} : Keep p c H H := fun _ _ e _ _ => e
theorem Keep.trans {p c : Addr} {H H1 H2 : Hp} (a : Keep p c H H1) (b : Keep p c H1 H2) : Keep p c H H2 := fun d o e h1 h2 => b d o (a d o e h1 h2) h1 h2
theorem Keep.upd1 {p c : Addr} {H : Hp} {o : HO} : Keep p c H (upd H p o) := fun b u e h1 _ => by rw [upd_ne h1]; exact e
theorem Keep.upd2 {p c : Addr} {H : Hp} {o : HO} : Keep p c H (upd H c o) := fun b u e _ h2 => by rw [upd_ne h2]; exact e
theorem Keep.ext {p c : Addr} {H H' : Hp} (e : Ext H H') : Keep p c H H' := fun b o h _ _ => e b o h
theorem Keep.new {p c a : Addr} {H : Hp} {o : HO} (h : H a = none) : Keep p c H (upd H a o) := Keep.ext (Ext.upd h)

/-! ### rules within a comprehension's block: the written part by its own name -/
section
variable {X : Cx} {K : PySem.W.Frag}
theorem pi_listK {tg l : PySem.Expr} {tl : TE} (hK : X.K = K) (hl : PE X l tl) : PI X tg l (iList K tl) := by subst hK; exact pi_list hl
theorem pi_tupK {tg l : PySem.Expr} {tl : TE} (hK : X.K = K) (hl : PE X l tl) : PI X tg l (iTup K tl) := by subst hK; exact pi_tup hl
def rTupOf (K : PySem.W.Frag) : List V → Hp → VK → Prop := fun xs H Q => ∃ p ys, xs = [.ref p] ∧ ((SqL K H p ys ∧ ∀ l, H l = none → Q (.ref l) (upd H l (.tup ys))) ∨ (SqT K H p ys ∧ Q (.ref p) H))
theorem call_tupK (hK : X.K = K) : CallR X (.type "tuple") (rTupOf K) := by subst hK; exact call_tuple_of
def rLenSeq (K : PySem.W.Frag) : List V → Hp → VK → Prop := fun xs H Q => ∃ p ys, xs = [.ref p] ∧ (SqL K H p ys ∨ SqT K H p ys) ∧ Q (.int ys.length) H
theorem call_lenK (hK : X.K = K) : CallR X (.builtin "len") (rLenSeq K) := by subst hK; exact call_len_seq
theorem call_isiB (hK : X.K = K) : CallR X (.builtin "isinstance") (rIsi K) := by subst hK; exact call_isi
def rJoinK (K : PySem.W.Frag) : V → List V → Hp → VK → Prop := fun x xs H Q => ∃ a p, ∃ ys : List Str, x = .str a ∧ xs = [.ref p] ∧ (SqL K H p (ys.map V.str) ∨ SqT K H p (ys.map V.str)) ∧ (ys.map (·.length)).sum + ys.length * a.length ≤ 16777216 ∧ Q (.str (Txt.join a ys)) H
theorem pe_joinK {o e : PySem.Expr} {to te : TE} {apos pos : Pos} (hK : X.K = K) (ho : PE X o to) (he : PE X e te) (hs : starEach [e] X.env = [(false, eval e X.env)] := by rfl) (hbase : attributeBase o "join" X.env (eval o X.env) = eval o X.env := by rfl) (hline : (apos.endLine == pos.line) = true := by rfl) :
    PE X (.Call (.Attribute o "join" apos) [e] [] pos) (tM1 (rJoinK K) to te) := by subst hK; exact pe_join ho he hs hbase hline
end

/-! ### a list beside [] -/
def rNeNil : R2 := fun x y H Q => ∃ a b xs, x = .ref a ∧ y = .ref b ∧ H a = some (.lst xs) ∧ H b = some (.lst []) ∧ Q (.bl (!xs.isEmpty)) H
def rEqNil : R2 := fun x y H Q => ∃ a b xs, x = .ref a ∧ y = .ref b ∧ H a = some (.lst xs) ∧ H b = some (.lst []) ∧ Q (.bl xs.isEmpty) H
section
variable {X : Cx}
theorem op_neNil {k : Nat} (hr : Room k X.A) : OpR X (compareOp .NotEq) rNeNil := by
  intro pins s σ H x y v u Q I rx ry hq
  obtain ⟨a, b, xs, rfl, rfl, ha, hb, q⟩ := hq
  cases (show v = Value.ref a from rx)
  cases (show u = Value.ref b from ry)
  show wpAny (model X.prog X.w) X.A (richCompare .NotEq (.ref a) (.ref b)) (EP X pins σ Q) X.xe s
  obtain ⟨its, r, p1, _⟩ := I.list (SqL.of (K := X.K) ha)
  obtain ⟨its2, r2, p2, _⟩ := I.list (SqL.of (K := X.K) hb)
  cases r2
  cases r with
  | nil => exact SeqAt.RcNeAt.lists (e := fun _ => true) p1.isList p2.isList rfl hr.units0 (fun j h1 _ => absurd h1 (by simp)) X.prog X.w X.xe _ ⟨.bl false, H, I, rfl, q⟩
  | cons r0 r1 => exact SeqAt.RcNeAt.lists_lengths p1.isList p2.isList (by simp) hr.units0 X.prog X.w X.xe _ ⟨.bl true, H, I, rfl, q⟩
theorem op_eqNil {k : Nat} (hr : Room k X.A) : OpR X (compareOp .Eq) rEqNil := by
  intro pins s σ H x y v u Q I rx ry hq
  obtain ⟨a, b, xs, rfl, rfl, ha, hb, q⟩ := hq
  cases (show v = Value.ref a from rx)
  cases (show u = Value.ref b from ry)
  show wpAny (model X.prog X.w) X.A (richCompare .Eq (.ref a) (.ref b)) (EP X pins σ Q) X.xe s
  obtain ⟨its, r, p1, _⟩ := I.list (SqL.of (K := X.K) ha)
  obtain ⟨its2, r2, p2, _⟩ := I.list (SqL.of (K := X.K) hb)
  cases r2
  cases r with
  | nil => exact SeqAt.RcAt.lists (e := fun _ => true) p1.isList p2.isList rfl hr.units0 (fun j h1 _ => absurd h1 (by simp)) X.prog X.w X.xe _ ⟨.bl true, H, I, rfl, q⟩
  | cons r0 r1 => exact SeqAt.RcAt.lists_lengths p1.isList p2.isList (by simp) hr.units0 X.prog X.w X.xe _ ⟨.bl false, H, I, rfl, q⟩
end
end Ls
end
section
set_option Elab.async false
set_option linter.all false
set_option maxRecDepth 100000
set_option maxHeartbeats 4000000
namespace Ls
open PySem PySem.Spec PyProof.Rows L2

/-! ### parts of a heap -/
/-- what is new in H' beside H -/
def nw (H H' : Hp) : Hp := fun b => match H b with | none => H' b | some _ => none
theorem nw_at {H H' : Hp} {b : Addr} (h : H b = none) : nw H H' b = H' b := by unfold nw; rw [h]
theorem nw_some {H H' : Hp} {b : Addr} {o : HO} (h : nw H H' b = some o) : H b = none ∧ H' b = some o := by
  unfold nw at h
  cases e : H b with
  | none => rw [e] at h; exact ⟨rfl, h⟩
  | some u => rw [e] at h; cases h
theorem nw_ext {H H' : Hp} : Ext (nw H H') H' := fun a o e => (nw_some e).2
/-- new beside H1, where H1 has grown from H: new beside H -/
theorem nw_back {H H1 H2 : Hp} (e : Ext H H1) : Ext (nw H1 H2) (nw H H2) := fun a o h => by
  obtain ⟨h1, h2⟩ := nw_some h
  have : H a = none := by
    cases q : H a with
    | none => rfl
    | some u => rw [e a u q] at h1; cases h1
  rw [nw_at this]; exact h2
theorem nw_more {H H1 H2 : Hp} (e : Ext H1 H2) : Ext (nw H H1) (nw H H2) := fun a o h => by
  obtain ⟨h1, h2⟩ := nw_some h
  rw [nw_at h1]; exact e a o h2
/-- H without the objects at S -/
def hid (S : List Addr) (H : Hp) : Hp := fun b => if b ∈ S then none else H b
theorem hid_at {S : List Addr} {H : Hp} {b : Addr} (h : b ∉ S) : hid S H b = H b := by unfold hid; rw [if_neg h]
theorem hid_some {S : List Addr} {H : Hp} {b : Addr} {o : HO} (h : hid S H b = some o) : b ∉ S ∧ H b = some o := by
  unfold hid at h
  by_cases e : b ∈ S
  · rw [if_pos e] at h; cases h
  · rw [if_neg e] at h; exact ⟨e, h⟩
theorem hid_ext {S : List Addr} {H : Hp} : Ext (hid S H) H := fun a o e => (hid_some e).2
theorem hid_nil {H : Hp} : hid [] H = H := by funext b; unfold hid; simp
theorem hid_mono {S : List Addr} {H H' : Hp} (e : Ext H H') : Ext (hid S H) (hid S H') := fun a o h => by
  obtain ⟨h1, h2⟩ := hid_some h
  rw [hid_at h1]; exact e a o h2
/-- a fresh place more is hidden -/
theorem hid_cons {S : List Addr} {H : Hp} {D : Addr} (h : H D = none) : Ext (hid S H) (hid (D :: S) H) := fun a o e => by
  obtain ⟨h1, h2⟩ := hid_some e
  have : a ≠ D := ne_of_none h2 h
  rw [hid_at (by simp [this, h1])]; exact h2
theorem hid_less {S S' : List Addr} {H : Hp} (h : ∀ b ∈ S', b ∈ S) : Ext (hid S H) (hid S' H) := fun a o e => by
  obtain ⟨h1, h2⟩ := hid_some e
  rw [hid_at fun z => h1 (h a z)]; exact h2
theorem hid_upd {S : List Addr} {H : Hp} {D : Addr} {o : HO} (h : D ∈ S) : hid S (upd H D o) = hid S H := by
  funext b
  unfold hid
  by_cases e : b ∈ S
  · rw [if_pos e, if_pos e]
  · rw [if_neg e, if_neg e, upd_ne (show b ≠ D from fun z => e (by rw [z]; exact h))]
theorem hid_upd_new {S : List Addr} {H : Hp} {a : Addr} {o : HO} (h : H a = none) : Ext (hid S H) (hid S (upd H a o)) := hid_mono (Ext.upd h)
/-- what is new beside H lies outside of what stood -/
theorem nw_hid {S : List Addr} {H H' : Hp} (h : ∀ b ∈ S, H b ≠ none) : Ext (nw H H') (hid S H') := fun a o e => by
  obtain ⟨h1, h2⟩ := nw_some e
  rw [hid_at fun z => h a z h1]; exact h2
theorem hid_keep {p c : Addr} {H H' : Hp} (k : Keep p c H H') : Ext (hid [p, c] H) (hid [p, c] H') := fun a o e => by
  obtain ⟨h1, h2⟩ := hid_some e
  rw [hid_at h1]
  exact k a o h2 (fun z => h1 (by simp [z])) fun z => h1 (by simp [z])

theorem hid_keepS {p c : Addr} {S : List Addr} {H H' : Hp} (k : Keep p c H H') (hp : p ∈ S) (hc : c ∈ S) : Ext (hid S H) (hid S H') := fun a o e => by
  obtain ⟨h1, h2⟩ := hid_some e
  rw [hid_at h1]
  exact k a o h2 (fun z => h1 (by rw [z]; exact hp)) fun z => h1 (by rw [z]; exact hc)
theorem Ext.at' {S : List Addr} {H H' : Hp} (e : Ext (hid S H) (hid S H')) {a : Addr} {o : HO} (h : a ∉ S) (q : H a = some o) : H' a = some o := (hid_some (e a o (by rw [hid_at h]; exact q))).2

/-! ### a comprehension that makes one item a turn: R tells what the items are, in the heap without S -/
section
variable {J : It} {n : Nat} {G : Hp → Prop} {Y : Nat → Hp → V → Hp → Prop} {g : TG} {te : TE} {vs : List Nat} {σ : L2.St} {H1 : Hp} {D : Addr} {Qd : Hp → Prop}
theorem lc_map (w : Walk J n G Y) (S : List Addr) (hS : D ∈ S) (Iv : Hp → Prop) (R : Nat → V → Hp → Prop) (hn : n ≤ 100000) (hm : ∀ j y H H', Ext H H' → R j y H → R j y H')
    (hIv : ∀ H o, Iv H → Iv (upd H D o)) (h0 : Iv (upd H1 D (.lst []))) (hG : ∀ H, Ext (hid S H1) (hid S H) → Iv H → G H)
    (hs : ∀ i x H H' acc (C : VK), i < n → Ext (hid S H1) (hid S H) → Iv H → H D = some (.lst acc) → Y i H x H' → (∀ y H4, H4 D = some (.lst acc) → Ext (hid S H) (hid S H4) → Iv H4 → R i y (hid S H4) → C y H4) →
      g x (wipe σ vs) H' fun σ2 H2 => wipe σ2 vs = wipe σ vs ∧ te σ2 H2 C)
    (hd : ∀ H ys, Ext (hid S H1) (hid S H) → Iv H → H D = some (.lst ys) → ys.length = n → (∀ j y, ys[j]? = some y → R j y (hid S H)) → Qd H) :
    ∃ W : Nat → Nat → Hp → Prop, (∃ m, W 0 m (upd H1 D (.lst []))) ∧ ∀ i m H, W i m H →
      (J.stop i H ∧ Qd H) ∨ (J.go i H ∧ ∃ Nx : Hp → Prop, (∀ H', Nx H' → ∃ m', m' < m ∧ W (i + 1) m' H') ∧ ∀ x H', J.yld i H x H' → g x (wipe σ vs) H' fun σ2 H2 => wipe σ2 vs = wipe σ vs ∧ tYes σ2 H2 fun b H3 =>
        if b = true then te σ2 H3 fun y H4 => ∃ acc, H4 D = some (.lst acc) ∧ acc.length < sizeLine ∧ Nx (upd H4 D (.lst (acc ++ [y]))) else Nx H3) := by
  refine lc_it w (fun i H => ∃ ys : List V, H D = some (.lst ys) ∧ ys.length = i ∧ Ext (hid S H1) (hid S H) ∧ Iv H ∧ ∀ j y, ys[j]? = some y → R j y (hid S H))
    ⟨[], upd_same, rfl, by rw [hid_upd hS]; exact Ext.rfl', h0, fun j y e => by simp at e⟩ (fun i H _ ⟨_, _, _, e, iv, _⟩ => hG H e iv) ?_ ?_
  · rintro i x H H' hi ⟨ys, hD, hl, e, iv, r⟩ y
    refine hs i x H H' ys _ hi e iv hD y fun v H4 h4 e4 iv4 r4 => ?_
    refine ⟨ys, h4, Nat.lt_of_le_of_lt (show ys.length ≤ 100000 by omega) (by decide), ys ++ [v], upd_same, by rw [List.length_append, hl]; rfl, by rw [hid_upd hS]; exact e.trans e4, hIv _ _ iv4, fun j z hz => ?_⟩
    rw [hid_upd hS]
    by_cases hj : j < ys.length
    · rw [List.getElem?_append_left hj] at hz
      exact hm j z _ _ e4 (r j z hz)
    · rw [List.getElem?_append_right (by omega)] at hz
      have : j = i := by
        cases q : j - ys.length with
        | zero => omega
        | succ k => rw [q] at hz; simp at hz
      subst this
      rw [hl] at hz
      simp at hz
      subst hz
      exact r4
  · rintro H ⟨ys, hD, hl, e, iv, r⟩
    exact hd H ys e iv hD hl r
end
end Ls
end
section
set_option Elab.async false
set_option linter.all false
set_option maxRecDepth 100000
set_option maxHeartbeats 4000000
namespace Ls
open PySem PySem.Spec PyProof.Rows L2

/-! ### an exception that is kept as a value -/
/-- at a: an exception of the class cls, its dict at d -/
def exk (a : Addr) (cls : Value) (d : Option Addr) : HO := .ext fun h => ∃ (oe : Obj) (vs : Array Value), h.get? a = some oe ∧ Zc cls d oe ∧ oe.data = .fields vs
theorem exk_ok {P : Program} {w : World} {H : Hp} {h : Heap} {a : Addr} {cls : Value} {d : Option Addr} {oe : Obj} {vs : Array Value} (e : h.get? a = some oe) (z : Zc cls d oe) (q : oe.data = .fields vs) : ObjOk P w H h a (exk a cls d) :=
  ⟨⟨oe, vs, e, z, q⟩, ⟨oe, e⟩, fun _ _ ⟨o, v, q, r⟩ k => ⟨o, v, k o q, r⟩⟩
theorem exk_at {P : Program} {w : World} {H : Hp} {h : Heap} {a : Addr} {cls : Value} {d : Option Addr} (hok : HOk P w H h) (e : H a = some (exk a cls d)) : ∃ (oe : Obj) (vs : Array Value), h.get? a = some oe ∧ Zc cls d oe ∧ oe.data = .fields vs := by
  have x : ObjOk P w H h a (.ext fun h => ∃ (oe : Obj) (vs : Array Value), h.get? a = some oe ∧ Zc cls d oe ∧ oe.data = .fields vs) := hok a _ e
  exact x.1
section
variable {X : Cx} {pins : List (Addr × Obj)} {σ : L2.St} {H : Hp} {s : Shared}
/-- an object that stands and is not known from before is tracked from now on -/
theorem inv_track {a : Addr} {o : HO} (I : Inv X pins σ H s) (hn : H a = none) (h0 : X.s_0.heap.get? a = none) (hl : a ≠ X.env.locals) (hc : ∀ x c, X.env.cells.lookup x = some c → c ≠ a) (hp : ∀ p ∈ X.pn ++ pins, p.1 ≠ a)
    (new : ObjOk X.prog X.w (upd H a o) s.heap a o) : Inv X pins σ (upd H a o) s := by
  have n0 : ∀ b u, X.s_0.heap.get? b = some u → b ≠ a := fun b u e z => by
    rw [z, h0] at e
    cases e
  refine ⟨I.ok, I.os, I.bare, ⟨I.base.keep, I.base.slot, fun b u e n hq => ?_, I.base.there, fun b xs e => ?_, fun b u v e => ?_, fun b ps e => ?_⟩, I.loc, I.cell, ?_, fun x c e => ?_, fun p q => ?_, I.hok.laidN (fun _ _ z => z) hn new, I.len⟩
  · rw [upd_ne (n0 b u e)]
    exact I.base.free b u e n hq
  · have q := I.base.tups b xs e
    rw [upd_ne (ne_of_none q hn)]
    exact q
  · have q := I.base.frzs b u v e
    rw [upd_ne (ne_of_none q hn)]
    exact q
  · obtain ⟨m, q⟩ := I.base.tbls b ps e
    exact ⟨m, by rw [upd_ne (ne_of_none q hn)]; exact q⟩
  · rw [upd_ne (Ne.symm hl)]
    exact I.free
  · rw [upd_ne (hc x c e)]
    exact I.freeC x c e
  · obtain ⟨z1, z2, z3⟩ := I.pin p q
    exact ⟨z1, by rw [upd_ne (hp p q)]; exact z2, z3⟩
theorem inv_suite0 (I : Inv X pins σ H s) (a : Addr) : Inv (X.suite a (X.pn ++ pins)) [] σ H s :=
  ⟨I.ok.suite _ _, I.os, I.bare, I.base, I.loc, I.cell, I.free, I.freeC, fun p hp => I.pin p (by rw [List.append_nil] at hp; exact hp), I.hok, I.len⟩
theorem inv_unsuite0 {a : Addr} {pn' : List (Addr × Obj)} (I : Inv (X.suite a (X.pn ++ pins)) pn' σ H s) (ok : X.Ok) : Inv X pins σ H s :=
  ⟨ok, I.os, I.bare, I.base, I.loc, I.cell, I.free, I.freeC, fun p hp => I.pin p (List.mem_append_left _ hp), I.hok, I.len⟩
end
/-- what the clause 'except x as n' wishes, the exception tracked in the suite and behind it -/
def wAsk (K : PySem.W.Frag) (c : Value) (i : Nat) (ts : TS) (Wout : WX) (D : Ends) : WX := fun cls d σ H =>
  ∃ b, PySem.W.exmOne K cls c = some b ∧ (b = true → ∀ a, H a = none → ts { nx := fun σ' H' => D.nx (σ'.set i none) H', rt := D.rt, bk := fun σ' H' => D.bk (σ'.set i none) H', ct := fun σ' H' => D.ct (σ'.set i none) H' } (σ.set i (some (.ref a))) (upd H a (exk a cls d))) ∧
    (b = false → Wout cls d σ H)
section
variable {X : Cx} {x n : Str} {c : Value} {i : Nat} {body suite : List Stmt} {b₀ : Stmt} {np pos pos' : Pos} {tb : WX → TS} {ts : TS} {Wout : WX}
theorem ps_try_ask (hs : X.stack = X.env :: X.outer) (hf : X.env.frame = some X.env.locals) (hN : X.N.Nodup) (hi : X.N[i]? = some n) (hln : X.env.kindOf n = some .local) (hc : Names X x c) (tk : Takes X Wout) (hx : X.ex = [])
    (hb : ∀ (W : WX) (pn : List (Addr × Obj)) (xe : Value → Shared → Prop), Takes (X.tr pn xe) W → PassesOwn (model X.prog X.w) X.A X.env xe → PSs (X.tr pn xe) body (tb W))
    (hsu : ∀ (a : Addr) (pn : List (Addr × Obj)), PSs (X.suite a pn) (b₀ :: suite) ts) :
    PS X (.Try body [.ExceptHandler (some (.Name x np)) (some n) (b₀ :: suite) pos'] [] [] pos) (fun D σ H => tb (wAsk X.K c i ts Wout D) D σ H) := by
  refine ⟨fun pins s σ H D I h => ?_⟩
  have ok := I.ok
  have hfr : X.A.frames = some (X.env :: X.outer) := by rw [ok.frames, hs]
  refine wpAny_Try_except ?_
  refine wpAny_mono ((hb (wAsk X.K c i ts Wout D) (X.pn ++ pins) (fun e s₁ => wpAny (model X.prog X.w) X.A (noteFrame e X.env) (fun _ s₂ => wpAny (model X.prog X.w) X.A (setFlight e none) (fun _ s₃ =>
    wpAny (model X.prog X.w) X.A (handleBy e X.env [.ExceptHandler (some (.Name x np)) (some n) (b₀ :: suite) pos']) (SP X pins D) X.xe s₃) X.xe s₂) X.xe s₁) (fun u s' xx => ?_) PassesOwn.looking).run [] s σ H D (I.toTry _) h) (fun f s1 hsp => ?_) (fun e s1 he => he)
  · obtain ⟨a, B, sI, pins', σ', H', cls, d, rfl, J', nb, up, sky, na, os, ag, b, hb1, hyes, hno⟩ := xx
    have J : Inv X pins σ' H' sI := J'.ofTry ok
    have sky' : Sky B (X.env :: X.outer) a (Zc cls d) X.env.locals s'.heap := by rw [← hs]; exact sky
    show wpAny (model X.prog X.w) X.A (noteFrame (.ref a) X.env) _ _ _
    refine Sky.land Zc.steady hfr hf sky' fun h3 fl3 up3 => ?_
    have J3 : Inv X pins σ' H' { s' with heap := h3 } := J.landed nb fl3.1 (up.trans up3) os ag
    obtain ⟨oe3, vs3, he3, hz3, hd3⟩ := fl3.there
    have nfr : a ∉ frs (X.env :: X.outer) := fun hm => by
      obtain ⟨_, o', e', hnf⟩ := fl3.2.2.1.mem hm
      rw [he3] at e'
      cases e'
      exact hnf _ hd3
    have nL : a ≠ X.env.locals := fun z => nfr (List.mem_filterMap.mpr ⟨X.env, List.mem_cons_self, by rw [hf, z]⟩)
    have nI : sI.heap.get? a = none := by
      cases q : sI.heap.get? a with
      | none => rfl
      | some o =>
        have z := nb a o q (by rw [hs]; exact nfr)
        rw [fl3.2.1] at z
        cases z
    have hexe : ∀ b o, X.s_0.heap.get? b = some o → b ∈ X.ex → False := fun b o e hb => by
      rw [hx] at hb
      cases hb
    have n0 : X.s_0.heap.get? a = none := by
      cases q : X.s_0.heap.get? a with
      | none => rfl
      | some o =>
        obtain ⟨o', z⟩ := J.base.there a o q (fun z => hexe a o q z)
        rw [nI] at z
        cases z
    have LT : PySem.W.Looks (model X.prog X.w) h3 (typeOf (.ref a)) cls := fun A Q E s k q => wpAny_typeOf_ref (k _ _ he3) (by rw [hz3.1]; exact q)
    have LM := PySem.W.exm_one (M := model X.prog X.w) (J3.kIn) LT hb1
    have S3 := inv_suite0 J3 a
    refine wpAny_handleBy_cons (codeAny_handlers_test ?_) (by intro q; cases q)
    have test : ∀ {Q : Value → Shared → Prop} {E : Value → Shared → Prop}, Q c { s' with heap := h3 } → wpAny (model X.prog X.w) (X.A.mark (some (.ref a))) (eval (.Name x np) X.env) Q E { s' with heap := h3 } := fun {Q E} q => by
      obtain ⟨hg, hdbg, hm | ⟨hm, hv, hnn⟩⟩ := hc
      · exact ld_glob (X := X.suite a (X.pn ++ pins)) S3 hg hm q hdbg
      · exact ld_blt (X := X.suite a (X.pn ++ pins)) S3 hg hm hv q hnn hdbg
    refine test (LM.here ?_)
    cases b with
    | true =>
      refine codeAny_handlers_suite_as ?_
      refine HandSPX.lands_againZ fl3 fun h4 fl4 up4 => ?_
      have J4 : Inv X pins σ' H' { s' with heap := h4 } := J.landed nb fl4.1 ((up.trans up3).trans up4) os ag
      obtain ⟨oe4, vs4, he4, hz4, hd4⟩ := fl4.there
      have T4 : Inv X pins σ' (upd H' a (exk a cls d)) { s' with heap := h4 } := inv_track J4 na n0 nL (fun y c e z => by
          obtain ⟨v, o, ho, _⟩ := J.cell y c e
          rw [z, nI] at ho
          cases ho) (fun p hp z => by
          have q := (J.pin p hp).1
          rw [z, nI] at q
          cases q) (exk_ok he4 hz4 hd4)
      have S4 := inv_suite0 T4 a
      refine store_ok (X := X.suite a (X.pn ++ pins)) (v := .ref a) S4 hN hi (.inl hln) rfl (fun s5 S5 => ?_) (.inr hln)
      refine wpAny_mono ((hsu a (X.pn ++ pins)).run [] s5 _ _ _ S5 (hyes rfl a na)) (fun f s6 hsp => ?_) (fun _ _ z => False.elim z)
      have fin : ∀ {σ6 : L2.St} {H6 : Hp} {Q : Shared → Prop}, Inv (X.suite a (X.pn ++ pins)) [] σ6 H6 s6 → (∀ s7, Inv X pins (σ6.set i none) H6 s7 → Q s7) →
          wpAny (model X.prog X.w) X.A (do bindName X.env n .none; unbindBehindTheSuite X.env n pos') (fun _ s7 => Q s7) X.xe s6 := fun {σ6 H6 Q} S6 hq => gone_ok (inv_unsuite0 S6 ok) hN hi hln hq
      cases f with
      | next =>
        obtain ⟨σ6, H6, S6, q6⟩ := hsp
        exact fin S6 fun s7 J7 => ⟨_, _, J7, q6⟩
      | brk =>
        obtain ⟨σ6, H6, S6, q6⟩ := hsp
        exact fin S6 fun s7 J7 => ⟨_, _, J7, q6⟩
      | cont =>
        obtain ⟨σ6, H6, S6, q6⟩ := hsp
        exact fin S6 fun s7 J7 => ⟨_, _, J7, q6⟩
      | ret u =>
        obtain ⟨v6, σ6, H6, S6, r6, q6⟩ := hsp
        exact fin S6 fun s7 J7 => ⟨_, _, _, J7, r6, q6⟩
    | false =>
      show wpAny _ X.A (handleBy (.ref a) X.env []) _ _ _
      refine wpAny_handleBy_nil ?_
      obtain ⟨k1, k2, k3, oe, vs, T, oT, ts', he, hz, hd, h1, hr⟩ := id fl3
      unfold PySem.passOn
      refine wpAny_bind (wpAny_field he hd h1 ?_)
      rw [if_neg (show ¬ ((Value.ref T == Value.none) = true) from by simp)]
      have last : wpAny (model X.prog X.w) X.A (setFlight (.ref a) X.env.frame) (fun _ s4 => wpAny (model X.prog X.w) X.A (throw (.ref a) : Sem Flow) (SP X pins D) X.xe s4) X.xe { s' with heap := h3 } := by
        rw [hf]
        refine HandSPX.setFlight_upZ fl3 fun h4 hh4 up4 => wpAny_throw (tk _ _ ?_)
        exact ⟨a, B, sI, pins, σ', H', cls, d, rfl, J, nb, (up.trans up3).trans up4, .inr (.inr (by rw [hs]; exact hh4)), na, os, ag, hno rfl⟩
      first
        | exact wpAny_bind (wpAny_pure (wpAny_bind last))
        | exact wpAny_bind last
  · cases f with
    | next =>
      obtain ⟨σ', H', J', q⟩ := hsp
      exact wpAny_execs_nil ⟨σ', H', J'.ofTry ok, q⟩
    | brk =>
      obtain ⟨σ', H', J', q⟩ := hsp
      exact ⟨σ', H', J'.ofTry ok, q⟩
    | cont =>
      obtain ⟨σ', H', J', q⟩ := hsp
      exact ⟨σ', H', J'.ofTry ok, q⟩
    | ret u =>
      obtain ⟨v, σ', H', J', r, q⟩ := hsp
      exact ⟨v, σ', H', J'.ofTry ok, r, q⟩
end

/-! ### C(..) as a value; isinstance and fields of a kept exception -/
section
variable {X : Cx} {e : Expr}
theorem pe_mkx {t : L2.St → Hp → XK → Prop} (h : PMk X e t) : PE X e (fun σ H Q => t σ H fun cls d H' => ∀ a, H' a = none → Q (.ref a) (upd H' a (exk a cls d))) := by
  refine ⟨fun pins s σ H Q I hh => ?_⟩
  refine wpAny_mono (h pins s σ H _ I hh) (fun u s1 hu => ?_) fun _ _ x => x
  obtain ⟨a, oe, vs, sI, H', cls, d, rfl, J, k, hne, ha, hz, hd, h1, na, os, ag, r, q⟩ := hu
  have J2 : Inv X pins σ H' { sI with heap := sI.heap, gens := s1.gens, drawn := s1.drawn, toks := s1.toks } := J.call (ch := []) (Un.kept fun _ _ z => z) J.hok ag (fun _ z => nomatch z)
  have J3 := J2.laidN (h' := s1.heap) (a := a) (o := exk a cls d) (t' := s1.toks) k hne na (exk_ok ha hz hd)
  obtain ⟨a1, a2, a3, a4, a5⟩ := s1
  have e5 : a5 = sI.os := os
  subst e5
  exact ⟨.ref a, _, J3, rfl, q a na⟩
/-- isinstance(e, c), e a kept exception -/
def rIsX (K : PySem.W.Frag) : List V → Hp → VK → Prop := fun xs H Q => ∃ (a D : Addr) (d : Option Addr) (c : V) (cv : Value) (b : Bool), xs = [.ref a, c] ∧ H a = some (exk a (.ref D) d) ∧ ExcC K D ∧ (∀ dd, d = some dd → ∃ fs, H dd = some (.xd fs)) ∧ (∀ u, RelV c u → u = cv) ∧ PySem.W.kitOne K (.ref D) cv = some b ∧ Q (.bl b) H
theorem inst_of {pins : List (Addr × Obj)} {σ : L2.St} {H : Hp} {s : Shared} {a D : Addr} {d : Option Addr} (I : Inv X pins σ H s) (ea : H a = some (exk a (.ref D) d)) (hd : ∀ dd, d = some dd → ∃ fs, H dd = some (.xd fs)) : ∃ oe od, PySem.W.InstAt s.heap a oe D od := by
  obtain ⟨oe, vs, ho, hz, hv⟩ := exk_at I.hok ea
  cases d with
  | none =>
    refine ⟨oe, none, ?_⟩
    obtain ⟨oc, od, oda, osl⟩ := oe
    obtain ⟨h1, h2⟩ := hz
    dsimp only at h1 h2 hv
    subst h1 h2 hv
    exact ⟨ho, rfl, rfl, trivial⟩
  | some dd =>
    obtain ⟨fs, ed⟩ := hd dd rfl
    obtain ⟨mA, hns, hr⟩ := (show ObjOk X.prog X.w H s.heap dd (.xd fs) from I.hok dd _ ed)
    obtain ⟨od, hod, hl⟩ := lookIn_ns hns
    exact ⟨oe, some od, ho, hz.1, by unfold PySem.W.notCls; rw [hv] <;> rfl, by rw [hz.2]; exact hod⟩
theorem call_isX : CallR X (.builtin "isinstance") (rIsX X.K) := by
  intro pins s σ H xs us Q I r h
  obtain ⟨a, D, d, c, cv, b, rfl, ea, C, hd, hcv, e, q⟩ := h
  obtain ⟨u1, u2, rfl, r1, r2⟩ := vals2 r
  cases (show u1 = Value.ref a from r1)
  have ec := hcv _ r2
  subst ec
  obtain ⟨oe, od, J⟩ := inst_of I ea hd
  have hcl : (PySem.W.clsIn X.K D).isSome = true := by
    obtain ⟨cd, hc, _⟩ := PySem.W.any_some C.hd
    rw [hc]
    rfl
  exact PySem.W.kia_one (PySem.W.kitx_exc hcl C.hg C.hk C.hs C.ha C.hn C.ht C.hm) I.kIn J e (fun z => nomatch z) fun tk => ⟨.bl b, H, I.kept (t' := tk) fun _ _ z => z, rfl, q⟩
/-- e.f, e a kept exception -/
def tXk (K : PySem.W.Frag) (f : Str) (te : TE) : TE := fun σ H Q => te σ H fun x H1 => ∃ (a C dd : Addr) (fs : List (Str × V)) (v : V), x = .ref a ∧ H1 a = some (exk a (.ref C) (some dd)) ∧ XfC K C ∧ PySem.W.findIn K (.ref C) f = some none ∧ H1 dd = some (.xd fs) ∧ fs.lookup f = some v ∧ Q v H1
theorem pe_xk {te : TE} {pos : Pos} {n : Str} (he : PE X e te) (hb : attributeBase e n X.env (eval e X.env) = eval e X.env := by rfl) : PE X (.Attribute e n pos) (tXk X.K n te) := by
  refine ⟨fun pins s σ H Q I h => ?_⟩
  refine attr_of hb (thn (he.run pins s σ H _ I h) fun u s1 hh => ?_)
  obtain ⟨x, H1, I1, rx, a, C, dd, fs, v, ex, ea, T, hno, ed, l, q⟩ := hh
  subst ex
  obtain rfl : u = Value.ref a := rx
  obtain ⟨oe, vs, ho, hz, hv⟩ := exk_at I1.hok ea
  obtain ⟨mA, hns, hr⟩ := (show ObjOk X.prog X.w H1 s1.heap dd (.xd fs) from I1.hok dd _ ed)
  obtain ⟨od, hod, hl⟩ := lookIn_ns hns
  obtain ⟨u, hu, ru⟩ := RelO.some_of (v := v) (o := mA n) (by rw [← l]; exact hr n)
  have J : PySem.W.InstAt s1.heap a oe C (some od) := ⟨ho, hz.1, by unfold PySem.W.notCls; rw [hv] <;> rfl, by rw [hz.2]; exact hod⟩
  exact HandSPX.exc_get I1.kIn J T.ga T.gg T.exC (PySem.W.findObj_own T.hdC hno rfl (by rw [hl, hu])) (handed_of ru) ⟨v, H1, I1.tok _, ru, q⟩
end

/-! ### super().__init__(..) of an own error class over ValueError -/
namespace SE
open PySem.W
abbrev wv (x : Addr) : Obj := { cls := .type "method-wrapper", dict := none, data := .fields #[.builtin "ValueError.__init__", .ref x], slots := #[] }
theorem ty_vi : typeOf (.builtin "ValueError.__init__") = pure (.type "wrapper_descriptor") := by
  show builtinType _ = _
  rw [builtinType_eq_fast]
  kernel_rfl
theorem nc_vi : (kfb_private% "nameAndClass") (Value.builtin "ValueError.__init__") = (pure (("__init__" : Str), Value.type "ValueError") : Sem (Str × Value)) := by kernel_rfl
section
variable {prog : Program} {w : World} {M : Model} {A : Around} {E : Value → Shared → Prop} {h : Heap} {g : Array GenState} {dr : Drawn} {t : Nat} {os : OsState}
theorem bind_vi {x C : Addr} {P : Fin → Shared → Prop} (hin : Looks M h (isInstance (.ref x) (.type "ValueError")) true) (hq : P (.done (.ret (.ref h.objs.size))) ⟨h.push (wv x), g, dr, t, os⟩) :
    wpAny M A (Builtin.«wrapper_descriptor.__get__» ⟨[.builtin "ValueError.__init__", .ref x, .ref C], []⟩) P E ⟨h, g, dr, t, os⟩ := by
  unfold Builtin.«wrapper_descriptor.__get__»
  refine wpAny_bind (wpAny_of_eq (a := (.builtin "ValueError.__init__", some (.ref x), some (.ref C))) (by first | rfl | kernel_rfl) ?_)
  show wpAny M A ((kfb_private% "checkInstance") (.builtin "ValueError.__init__") (.ref x) >>= fun _ => newFields "method-wrapper" [.builtin "ValueError.__init__", .ref x] >>= fun r => ret r) P E _
  refine wpAny_bind ?_
  show wpAny M A ((kfb_private% "nameAndClass") (.builtin "ValueError.__init__") >>= _) _ E _
  refine wpAny_bind (wpAny_of_eq nc_vi ?_)
  show wpAny M A (isInstance (.ref x) (.type "ValueError") >>= _) _ E _
  refine wpAny_bind (hin.at (KFB.if_not rfl (wpAny_pure ?_)))
  exact wpAny_bind (wpAny_newObj_type (wpAny_pure hq))
theorem super_gav {so D x C : Addr} {l₀ l : List Value} {K : Frag} {name : Str} {tk : Tok} {Q : Fin → Shared → Prop}
    (hso : h.get? so = some { cls := .type "super", dict := none, data := .fields #[.ref D, .ref x, .ref C], slots := #[] }) (hno : Looks (model prog w) h (opaqueClassAbove (.ref C)) none)
    (hC : Looks (model prog w) h (mroOf (.ref C)) l₀) (hl : (l₀.dropWhile (· != .ref D)).drop 1 = l) (X : K.In h)
    (hf : alongIn K name l = some (some (.builtin "ValueError.__init__"))) (hxC : x ≠ C) (hn : (name == ("__class__" : Str)) = false) (hin : Looks (model prog w) h (isInstance (.ref x) (.type "ValueError")) true)
    (hq : Q (.done (.ret (.ref h.objs.size))) ⟨h.push (wv x), g, dr, t, os⟩) :
    wpAny (model prog w) A (Builtin.«super.__getattribute__» ⟨[.ref so, .str name tk], []⟩) Q E ⟨h, g, dr, t, os⟩ := by
  have hlk := ESX.slot_wd.lookup
  have ner : (Value.ref x == Value.ref C) = false := by simp [hxC]
  have hTf := ty_vi
  have hTi : Shared.TypeIs ⟨h, g, dr, t, os⟩ (.builtin "ValueError.__init__") "wrapper_descriptor" := ty_vi
  have dso : ({ cls := .type "super", dict := none, data := .fields #[.ref D, .ref x, .ref C], slots := #[] } : Obj).data = .fields #[.ref D, .ref x, .ref C] := rfl
  have q0 : (#[.ref D, .ref x, .ref C] : Array Value)[0]? = some (.ref D) := rfl
  have q1 : (#[.ref D, .ref x, .ref C] : Array Value)[1]? = some (.ref x) := rfl
  have q2 : (#[.ref D, .ref x, .ref C] : Array Value)[2]? = some (.ref C) := rfl
  unfold Builtin.«super.__getattribute__»
  repeat (first
    | (with_reducible refine wpAny_field hso dso q0 ?_) | (with_reducible refine wpAny_field hso dso q1 ?_) | (with_reducible refine wpAny_field hso dso q2 ?_)
    | (with_reducible refine ks_wpAny_notOpaque hno ?_)
    | (with_reducible refine Looks.at hC ?_; rw [hl])
    | (refine ks_forIn_along X (fun _ _ => rfl) rfl ?_ hf)
    | (with_reducible refine wpAny_call_entry ESX.slot_wd hTi ESX.entry_wd ?_ (ESX.args_wd _ _ _))
    | (with_reducible refine bind_vi hin ?_)
    | (with_reducible refine ⟨_, rfl, ?_⟩)
    | (simp only [hn, ner, Bool.or_false, Bool.false_eq_true, if_false])
    | wp_step
    | dsimp only)
  all_goals exact hq
theorem getMethod_superv {so D x C : Addr} {l₀ l : List Value} {K : Frag} {name : Str} {pl : Sem Bool} {Q : Value × List Value → Shared → Prop}
    (hso : h.get? so = some { cls := .type "super", dict := none, data := .fields #[.ref D, .ref x, .ref C], slots := #[] }) (hno : Looks (model prog w) h (opaqueClassAbove (.ref C)) none)
    (hC : Looks (model prog w) h (mroOf (.ref C)) l₀) (hl : (l₀.dropWhile (· != .ref D)).drop 1 = l) (X : K.In h)
    (hf : alongIn K name l = some (some (.builtin "ValueError.__init__"))) (hxC : x ≠ C) (hn : (name == ("__class__" : Str)) = false) (hin : Looks (model prog w) h (isInstance (.ref x) (.type "ValueError")) true)
    (hq : Q (.ref h.objs.size, []) ⟨h.push (wv x), g, dr, t + 1, os⟩) :
    wpAny (model prog w) A (getMethod (.ref so) name pl) Q E ⟨h, g, dr, t, os⟩ := by
  have hlk := F.ks_slot_super_ga.lookup
  have hT : ∀ t', (⟨h, g, dr, t', os⟩ : Shared).TypeIs (.ref so) "super" := fun _ => ⟨_, hso, rfl⟩
  unfold getMethod
  refine wpAny_bind (wpAny_specialOf (hT _) hlk ?_)
  show wpAny _ _ (if (Manifest.canonical "super.__getattribute__" != "object.__getattribute__") = true then _ else _) _ _ _
  rw [if_pos F.ks_canon_super_ga]
  unfold getAttr getAttrBy
  refine wpAny_bind (wpAny_bind (wpAny_mkText (wpAny_holding (wpAny_bind (wpAny_typeOf (hT _) (wpAny_bind (wpAny_of_eq hlk ?_)))))))
  show wpAny _ _ (getAttrByItsOwn (.ref so) (.str name t) (.type "super") (.builtin "super.__getattribute__") true false) _ _ _
  unfold getAttrByItsOwn hookBefore callGetattribute boundAndCalled
  refine wpAny_bind (wpAny_of_eq (show (if onTheHeap (.type "super") then typeLookup (.type "super") "__getattr__" else pure none) = pure none from rfl) (wpAny_bind (wpAny_attempt (wpAny_holding ?_))))
  show wpAny _ _ (bindSpecial (.builtin "super.__getattribute__") (.ref so) >>= _) _ _ _
  refine wpAny_bind (wpAny_of_eq (F.ks_slot_super_ga.bind _) ?_)
  refine wpAny_mono (Q := fun v s' => v = .ref h.objs.size ∧ s' = ⟨h.push (wv x), g, dr, t + 1, os⟩) (E := fun _ _ => False)
    (wpAny_call_entry F.ks_slot_super_ga (hT _) F.ks_entry_super_ga (super_gav hso hno hC hl X hf hxC hn hin ⟨_, rfl, rfl, rfl⟩) (F.ks_gaArgs_super _ _)) (fun v s' hv => ?_) fun _ _ z => z.elim
  obtain ⟨rfl, rfl⟩ := hv
  exact wpAny_pure (wpAny_pure hq)
end
section
open PySem.Calls
variable {prog : Program} {w : World} {M : Model} {A : Around} {E : Value → Shared → Prop} {s : Shared}
theorem callWith_wv {pos : Pos} {u x : Addr} {env : Env} {e : Expr} {rest : List Expr} {Q : Value → Shared → Prop}
    (h : wpAny M A (spliced (backTo pos (starEach (e :: rest) env))) (fun vs s₁ => s₁.heap.get? u = some (wv x) ∧ wpAny M A (call (.ref u) vs) Q E s₁) E s)
    (he : starEach (e :: rest) env = (false, eval e env) :: starEach rest env) (hplain : (backTo pos (starEach rest env)).any (·.1) = false) :
    wpAny M A (callWith pos (.ref u) [] (backTo pos (starEach (e :: rest) env)) []) Q E s := by
  rw [he] at h ⊢
  have hp : (backTo pos ((false, eval e env) :: starEach rest env)).any (·.1) = false := by
    show (false || (backTo pos (starEach rest env)).any (·.1)) = false
    rw [hplain]
    rfl
  have h2 : wpAny M A (evalArgs (.ref u) true (backTo pos ((false, eval e env) :: starEach rest env)) []) (fun a s₁ => s₁.heap.get? u = some (wv x) ∧ wpAny M A (call (.ref u) ([] ++ a.pos) a.kw) Q E s₁) E s := evalArgs_plain h
  unfold callWith
  refine wpAny_bind (wpAny_holding (wpAny_mono h2 (fun a s₁ h₁ => wpAny_bind (wpAny_standAt ?_)) fun _ _ x => x))
  obtain ⟨ho, hcall⟩ := h₁
  simp only [hp, List.any_nil, Bool.or_false]
  refine wpAny_bind (m := keeperOf (.ref u)) ?_
  unfold keeperOf
  refine wpAny_bind (wpAny_load ho ?_)
  simp only [wv, show (Value.type "method-wrapper" != Value.type "method") = true by decide, show (Value.type "method-wrapper" == Value.type "builtin_function_or_method" || Value.type "method-wrapper" == Value.type "method-wrapper") = true by decide, if_true]
  refine wpAny_pure ?_
  exact wpAny_bind (wpAny_mono hcall (fun r s₂ hr => wpAny_bind (wpAny_holding (wpAny_point (wpAny_pure hr)))) fun _ _ x => x)
end
section
variable {prog : Program} {w : World} {A : Around} {E : Value → Shared → Prop} {h : Heap} {g : Array GenState} {dr : Drawn} {t : Nat} {os : OsState}
variable {nm q : Str} {C N : Addr} {bs bm : List Value} {hdct : Bool} {sn : List Str} {sub : List Value} {ab : Bool} {col : Option Bool} {dd : Option Addr} {k0 k1 k2 k3 k5 : Option Value}
theorem call_wv {u e t0 : Addr} {rest : List Value} {Q : Value → Shared → Prop}
    (hC : h.get? C = some (excClassObj nm q C N bs bm hdct sn sub ab col dd k0 k1 k2 k3 k5 "ValueError.__new__")) (he : h.get? e = some (HandSPX.excO C t0)) (hu : h.get? u = some (wv e)) (hrest : rest.length ≤ sizeLine)
    (hq : ∀ h' t1, (∀ b o, b ≠ e → h.get? b = some o → h'.get? b = some o) → h'.get? e = some (HandSPX.excO C t1) → Q .none ⟨h', g, dr, t, os⟩) :
    wpAny (model prog w) A (call (.ref u) rest) Q E ⟨h, g, dr, t, os⟩ := by
  refine wpAny_call (codeAny_of_tree ?_)
  show wpAny _ A.in1 (callAny (.ref u) ⟨rest, []⟩) _ _ _
  simp only [callAny]
  refine wpAny_bind (wpAny_load hu ?_)
  simp only [wv, show (Value.type "method-wrapper" == Value.type "method" || Value.type "method-wrapper" == Value.type "builtin_function_or_method" || Value.type "method-wrapper" == Value.type "method-wrapper") = true by decide, if_true]
  refine W.KFB.if_so (by decide) ?_
  refine wpAny_bind (ESX.check_bound F.excBase_ValueError hC he rfl (wpAny_bind (wpAny_pure (wpAny_pure ?_))))
  refine ⟨Code.quiet_builtin _ (by decide +kernel), codeAny_builtin F.excBase_ValueError.initEntry ?_⟩
  rw [Around.under_plainId F.excBase_ValueError.init.plain _]
  wp_walk
  refine hq _ h.objs.size (fun b o hb ho => ?_) ?_
  · rw [Heap.get?_update_other _ _ (Ne.symm hb)]
    exact Heap.get?_push_of_some _ ho
  · rw [Heap.get?_update_self _ (Heap.get?_push_of_some _ he) rfl]
    rfl
end
end SE

/-- what the written part says for super().__init__ in a def of the error class at D, of an instance of the class at C -/
structure SupE (P : Program) (K : PySem.W.Frag) (mg : Str → Option Value) (C D cc cda : Addr) : Prop where
  cell : ∃ cl cld csl, K.lookup cc = some ⟨cl, cld, .cell (some (.ref D)), csl⟩
  code : ∃ ccl cdd vs ccs file tf, K.lookup cda = some ⟨ccl, cdd, .fields vs, ccs⟩ ∧ vs[2]? = some (.str file tf) ∧ ((P.main.file : Str) == file) = true
  clD : ∃ cdD, PySem.W.clsIn K D = some cdD
  sub : PySem.W.mroIn K C (.ref D) = some true
  suv : PySem.W.mroIn K C (.type "ValueError") = some true
  sup : mg "super" = none
  top : (P.main.scope.names.lookup ("super" : Str)).isSome = false
  any : PySem.W.nsIn K cStatics "thirdparty.any" = some none
  fnd : PySem.W.ks_superIn K C D "__init__" = some (some (.builtin "ValueError.__init__"))
  oex : OexC K C

section
variable {CX : CXT} {P : Program} {w : World} {K : PySem.W.Frag} {mg : Str → Option Value} {base : Heap} {k : Nat} {f cc cda : Addr} {name qual : Str} {params : Arguments} {scope : Scope} {dV kV doc pm ct oc : Value} {an od : Option Addr}
    {osl : Array (Option Value)} {N ps : List Str} {sp : Sp} {e : PySem.Expr} {es : List PySem.Expr} {rest : List Stmt} {p0 p1 apos pos epos : Pos} {pl : Sem Bool}
theorem fn_superE (lk : K.lookup f = some ⟨oc, od, .func (PySem.W.ksFn name qual params (.Expr (.Call (.Attribute (.Call (.Name "super" p0) [] [] p1) "__init__" apos) (e :: es) [] pos) epos :: rest) scope dV kV doc pm an (.ref cda) ct cc), osl⟩)
    (hcd : PySem.W.codeIn K (.ref cda) qual = true) (S : ScS N ps scope)
    {ar : Arg} (hp0 : (params.posonlyargs ++ params.args).head? = some ar) (hps : ps.head? = some ar.arg) (har : scope.names.lookup ar.arg = some .local)
    (hks : scope.names.lookup ("super" : Str) = some .globalImplicit) (hkc : scope.names.lookup ("__class__" : Str) = some .free)
    (len : ∀ vs H Q E, sp vs H Q E → vs.length = ps.length)
    (hbody : ∀ (A : Around) (outer : List Env) (s : Shared) (H : Hp) (vs : List V) (Q : VK) (E : XK), Room k (A.deeper (PySem.W.ksEnv qual scope s.heap.objs.size f (.ref cda) cc)) → sp vs H Q E →
      ∃ (x C D : Addr) (vs' : List V) (ta : TA) (u : TS), vs = .ref x :: vs' ∧ H x = some (exo x C none) ∧ SupE P K mg C D cc cda ∧
        PA (cxS CX P w K mg base N qual scope f (.ref cda) cc A outer s H E) (e :: es) ta ∧
        PSs (cxS CX P w K mg base N qual scope f (.ref cda) cc A outer s H E) rest u ∧
        ta (start N vs) H (fun ws H1 => ws.length ≤ 1000 ∧ H1 x = some (exo x C none) ∧ u { nx := fun _ H' => Q .non H', rt := Q } (start N vs) H1))
    (hi : ∀ L, interactive (PySem.W.ksEnv qual scope L f (.ref cda) cc) = false) (hsw : ∀ L, swapsWith (.Call (.Attribute (.Call (.Name "super" p0) [] [] p1) "__init__" apos) (e :: es) [] pos) none epos.line (PySem.W.ksEnv qual scope L f (.ref cda) cc) = pure false)
    (he : ∀ L, eval (.Call (.Attribute (.Call (.Name "super" p0) [] [] p1) "__init__" apos) (e :: es) [] pos) (PySem.W.ksEnv qual scope L f (.ref cda) cc) = (do
      let ov ← attributeBase (.Call (.Name "super" p0) [] [] p1) "__init__" (PySem.W.ksEnv qual scope L f (.ref cda) cc) (eval (.Call (.Name "super" p0) [] [] p1) (PySem.W.ksEnv qual scope L f (.ref cda) cc))
      standAt apos.atName
      let (fn, first) ← holding [ov] (getMethod ov "__init__" pl)
      callWith pos fn first (backTo pos (starEach (e :: es) (PySem.W.ksEnv qual scope L f (.ref cda) cc))) []))
    (hst : ∀ L, starEach (e :: es) (PySem.W.ksEnv qual scope L f (.ref cda) cc) = (false, eval e (PySem.W.ksEnv qual scope L f (.ref cda) cc)) :: starEach es (PySem.W.ksEnv qual scope L f (.ref cda) cc))
    (hpl : ∀ L, (backTo pos (starEach es (PySem.W.ksEnv qual scope L f (.ref cda) cc))).any (·.1) = false) :
    FnOk P w K mg base CX (k + 1) f (PySem.W.ksFn name qual params (.Expr (.Call (.Attribute (.Call (.Name "super" p0) [] [] p1) "__init__" apos) (e :: es) [] pos) epos :: rest) scope dV kV doc pm an (.ref cda) ct cc) ps sp := by
  refine ⟨len, fun A outer s H args us vs Q E hr e0 hb r hsp => ?_⟩
  have hl := len _ _ _ _ hsp
  have KX : K.In s.heap := e0.mod.kin.keeps fun b o e => (e0.bs b o e).1
  have lim : s.heap.NoLimit := e0.mod.nolimit.keeps fun b o e => (e0.bs b o e).1
  obtain ⟨x, C, D, vs', ta, u, rfl, hx, T, hta, hrest, hq⟩ := hbody A outer s H vs Q E (hr.deeper _) hsp
  obtain ⟨cl, cld, csl, hcell⟩ := T.cell
  obtain ⟨ccl, cdd, cvs, ccs, file, tf, hcode, hvs, hfile⟩ := T.code
  obtain ⟨cdD, hD⟩ := T.clD
  refine PySem.ks_codeAny_call_defAt (binds := ps.zip us) hr.depth (KX _ _ lk) rfl lim (PySem.W.codeRec_of KX hcd) rfl hb S.nocell (fun y hy => S.par y.1 (List.of_mem_zip hy).1) (fun h1 hns hk => ?_) S.co S.gen S.kind
  have I : Inv (cxS CX P w K mg base N qual scope f (.ref cda) cc A outer s H E) [] (start N (.ref x :: vs')) H { s with heap := h1, toks := s.toks + (ps.zip us).length } :=
    inv_startS (vs := .ref x :: vs') S hr.hd e0 hl r hcell rfl hns hk
  have hX : K.In h1 := I.kIn
  obtain ⟨t1, ho⟩ := exo_at I.hok hx
  have J : PySem.W.InstAt h1 x { cls := .ref C, dict := none, data := .fields #[.ref t1, .none, .none, .none, .bool false, .none] } C none := ⟨ho, rfl, rfl, trivial⟩
  obtain ⟨oD, hD1, hD2⟩ : ∃ oD, h1.get? D = some oD ∧ oD.data = .cls cdD := by
    unfold PySem.W.clsIn at hD
    split at hD
    · rename_i c d cd' sl ho
      cases hD
      exact ⟨_, hX _ _ ho, rfl⟩
    · cases hD
  refine PySem.ks_wpAt_execs_cons (PySem.ks_wpAt_Expr_any (PySem.ks_wpAt_MethodCall (pl := pl) ?_ (he _)) (hi _) (hsw _))
  refine PySem.ks_wpAt_super_base (env := PySem.W.ksEnv qual scope s.heap.objs.size f (.ref cda) cc) hks hkc (by decide) rfl (hX _ _ lk) rfl hp0 rfl (hX _ _ hcode) rfl hvs hfile T.top ?_
  obtain ⟨mb, hb1, hb2⟩ := I.mod.blt
  refine PySem.W.ks_loadName_global S.kind hks (Calls.loadGlobal_builtin (env := PySem.W.ksEnv qual scope s.heap.objs.size f (.ref cda) cc) (I.mod.glob.keeps I.bk) T.sup (hb1.keeps I.bk) ((hb2 _ (by decide +kernel)).trans (show bootBuiltins "super" = some (.type "super") by first | rfl | kernel_rfl)) ⟨rfl, ?_⟩)
  refine wpAny_loadName_free S.kind hkc (by show List.lookup _ [_] = _; simp [List.lookup]) ⟨_, hX _ _ hcell, rfl⟩ ?_
  have hself : (ps.zip us).reverse.lookup ar.arg = some (.ref x) := by
    match ps, us, hps, r with
    | p :: ps', u' :: us', hp', .cons ru _ =>
      have hp'' : p = ar.arg := by simpa using hp'
      subst hp''
      cases (show u' = Value.ref x from ru)
      have ndP : (ar.arg :: ps').Nodup := by
        have := S.pre
        rw [← this]
        exact S.nd.sublist (List.take_sublist _ _)
      exact rev_lookup (i := 0) ndP rfl rfl
  refine wpAny_loadName_local S.kind har hns hself ?_
  refine PySem.ks_wpAny_isType_cls hD1 hD2 ⟨rfl, ?_⟩
  refine PySem.ks_wpAny_call_super hD1 hD2 J.at_ J.cls (fun c e => nomatch e) (PySem.W.looks_mroIn hX T.sub) (fun h' hso k' => ?_)
  have I1 : Inv (cxS CX P w K mg base N qual scope f (.ref cda) cc A outer s H E) [(h1.objs.size, PySem.W.ks_superObj D x C)] (start N (.ref x :: vs')) H { s with heap := h', toks := s.toks + (ps.zip us).length } :=
    ClX.pin_new (s := { s with heap := h1, toks := s.toks + (ps.zip us).length }) (t' := s.toks + (ps.zip us).length) I k' (Nat.le_refl _) hso (fun v z => nomatch z)
  have hX' : K.In h' := I1.kIn
  have J' : PySem.W.InstAt h' x { cls := .ref C, dict := none, data := .fields #[.ref t1, .none, .none, .none, .bool false, .none] } C none := ⟨k' _ _ ho, rfl, rfl, trivial⟩
  have fnd := T.fnd
  cases hc : PySem.W.clsIn K C with
  | none => unfold PySem.W.ks_superIn at fnd; rw [hc] at fnd; cases fnd
  | some cdC =>
    unfold PySem.W.ks_superIn at fnd
    rw [hc] at fnd
    refine SE.getMethod_superv (h := h') hso (PySem.W.looks_opaque hX' T.any) (l₀ := cdC.mro) ?_ rfl hX' fnd (PySem.W.ks_ne hX J hc) (by decide) (J'.type.andThen (PySem.W.looks_mroIn hX' T.suv)) ?_
    · exact fun A Q E s k q => wpAny_bind ((PySem.W.looks_clsIn hX' hc) A _ E s k (wpAny_pure q))
    · have I2 := ClX.pin_new (s := { s with heap := h', toks := s.toks + (ps.zip us).length }) (o := SE.wv x) (t' := s.toks + (ps.zip us).length + 1) I1 (fun _ _ z => Heap.get?_push_of_some _ z) (Nat.le_refl _) (Heap.get?_push_size h' rfl) (fun v z => nomatch z)
      refine SE.callWith_wv (x := x) (thn (hta.run pos _ _ _ H _ I2 hq) fun us2 s3 ⟨ws, H2, I3, rv, hl2, hx2, q2⟩ => ⟨ClX.pin_at I3, ?_⟩) (hst _) (hpl _)
      obtain ⟨nm, q, N', bs, bm, sn, sub, ab, col, dd, k0, k1, k2, k3, k5, hCo, hbm⟩ := T.oex.cls
      obtain ⟨t2, ho2⟩ := exo_at I3.hok hx2
      have hu2 : s3.heap.get? h'.objs.size = some (SE.wv x) := ClX.pin_at I3
      have kC := I3.kIn
      obtain ⟨hp3, g3, d3, tk3, os3⟩ := s3
      refine SE.call_wv (kC _ _ hCo) ho2 hu2 (by rw [← Paired.length rv, sizeLine_eq]; omega) fun h4 t4 k4 hx4 => ?_
      have I4 := (ClX.unpin (ClX.unpin I3)).write (t' := tk3) (x := x) (e := x) (o := exo x C none) (by rw [hx2]; exact True.intro) (.inl rfl) k4 ⟨_, hx4⟩ (exo_ok hx4)
      have eu : upd H2 x (exo x C none) = H2 := by
        funext b
        by_cases hb : b = x
        · rw [hb, upd_same, hx2]
        · rw [upd_ne hb]
      rw [eu] at I4
      refine wpAt_of_wpAny (wpAny_mono (hrest.run [] _ _ H2 _ I4 q2) (fun fl s' hs => ?_) fun e s' hs => hs)
      have fin : ∀ {σ' : L2.St} {H' : Hp} {v : V} {u : Value}, Inv (cxS CX P w K mg base N qual scope f (.ref cda) cc A outer s H E) [] σ' H' s' → RelV v u → Q v H' → CE outer P w H s Q u s' :=
        fun {σ' H' v u} J rv q => ⟨v, H', J.os, J.bare, J.base, J.hok, rv, q⟩
      cases fl with
      | ret u =>
        obtain ⟨v, σ', H', J, rv, q⟩ := hs
        exact fin J rv q
      | next =>
        obtain ⟨σ', H', J, q⟩ := hs
        exact fin (v := V.non) (u := Value.none) J rfl q
      | brk =>
        obtain ⟨_, _, _, q⟩ := hs
        exact False.elim q
      | cont =>
        obtain ⟨_, _, _, q⟩ := hs
        exact False.elim q
end
end Ls
end
section
set_option Elab.async false
set_option linter.all false
set_option maxRecDepth 100000
set_option maxHeartbeats 4000000
namespace Ls
open PySem PySem.Spec PyProof.Rows L2

/-! ### defs that must know that no repr is under way -/
structure FnG (P : Program) (w : World) (K : PySem.W.Frag) (mg : Str → Option Value) (base : Heap) (CX : CXT) (k : Nat) (f : Addr) (fd : FuncData) (ps : List Str) (sp : Sp) : Prop where
  len : ∀ vs H Q E, sp vs H Q E → vs.length = ps.length
  run : ∀ (A : Around) (outer : List Env) (s : Shared) (H : Hp) (args : Args) (us : List Value) (vs : List V) (Q : VK) (E : XK), A.guards = some [] → Room k A → Env0 P w K mg base A outer s H → BindsTo s fd args (ps.zip us) → Vals vs us → sp vs H Q E →
    codeAny (model P w) A (.call (.ref f) args) (CR CX outer P w H s Q E) s
section
variable {P : Program} {w : World} {K : PySem.W.Frag} {mg : Str → Option Value} {base : Heap}
theorem FnG.of {CX : CXT} {k : Nat} {f : Addr} {fd : FuncData} {ps : List Str} {sp : Sp} (F : FnOk P w K mg base CX k f fd ps sp) : FnG P w K mg base CX k f fd ps sp := ⟨F.len, fun A outer s H args us vs Q E _ => F.run A outer s H args us vs Q E⟩
theorem okG {x qual : Str} {st : Stmt} {f : Addr} {fd : FuncData} {N ps : List Str} {k : Nat} {sp : Sp} (F : Fun K x qual st f fd) (S : FnScope N ps (defScope st)) (len : ∀ vs H Q E, sp vs H Q E → vs.length = ps.length)
    (hbody : ∀ (cdv : Value) (A : Around) (outer : List Env) (s : Shared) (H : Hp) (vs : List V) (Q : VK) (E : XK), fd.code = cdv → A.guards = some [] → Room k (A.deeper (envOfC qual (defScope st) s.heap.objs.size f cdv)) → sp vs H Q E →
      ∃ t, PSs (cxOf CX0 P w K mg base N qual (defScope st) f cdv A outer s H E).nox (defBody st) t ∧ t { nx := fun _ H' => Q .non H', rt := Q } (start N vs) H) : FnG P w K mg base CX0 (k + 1) f fd ps sp := by
  obtain ⟨oc, od, kV, doc, pm, an, cdv, ct, osl, rfl, lk, hcd⟩ := F.ex
  refine ⟨len, fun A outer s H args us vs Q E hg hr e0 hb r hs => ?_⟩
  refine LamX.run_ofS lk hcd S hr e0 hb r (len _ _ _ _ hs) fun hr' => ?_
  obtain ⟨t, h, q⟩ := hbody cdv A outer s H vs Q E rfl hg hr' hs
  exact ⟨t, h.nox, q⟩
end
section
variable (P : Program) (w : World) (K : PySem.W.Frag) (mg : Str → Option Value) (base : Heap) (CX : CXT) (k : Nat)
/-- the def under the module's name x keeps sp, where no repr is under way -/
structure CalG (x : Str) (sp : Sp) : Prop where
  ex : ∃ f fd ps, mg x = some (.ref f) ∧ PySem.W.keepIn K (.ref f) = true ∧ Binds K fd ps [] ∧ FnG P w K mg base CX k f fd ps sp
end
section
variable {X : Cx} {CX : CXT} {k : Nat} {sp : Sp} {E : XK} {x : Str} {p pos : Pos} {e : PySem.Expr} {es : List PySem.Expr} {t : TA}
theorem pe_calG (hgd : X.A.guards = some []) (c : CalG X.prog X.w X.K X.mg X.base CX k x sp) (hr : Room k X.A) (hg : Gl X x) (hx : Passes CX X E) (ha : PA X (e :: es) t) (hd : (x == ("__debug__" : Str)) = false := by decide)
    (he : starEach (e :: es) X.env = (false, eval e X.env) :: starEach es X.env := by rfl) (hpl : (backTo pos (starEach es X.env)).any (·.1) = false := by rfl) :
    PE X (.Call (.Name x p) (e :: es) [] pos) (tCl sp E t) := by
  obtain ⟨f, fd, ps, hm, hk, hb, F⟩ := c.ex
  refine ⟨fun pins s σ H Q I h => ?_⟩
  refine wpAny_Call_Name_kw (ld_glob I hg hm ?_ hd)
  refine PySem.W.callWith_K (h₀ := X.base) I.ok.mod.kin hk (thn (ha.run pos pins s σ H _ I h) fun us s1 ⟨vs, H1, I1, r, q⟩ => ⟨I1.kIn, ?_⟩) he hpl
  have hl : us.length = ps.length := by
    rw [← r.length]
    exact F.len _ _ _ _ q
  have bd := hb s1 us I1.kIn (by rw [List.append_nil]; exact hl)
  rw [List.append_nil] at bd
  refine wpAny_call (codeAny_mono (F.run X.A X.stack s1 H1 ⟨us, []⟩ us vs Q E hgd hr I1.env0 bd r q) fun res s' hq => ?_)
  match res, hq with
  | .error e, hq => exact hx pins σ H1 s1 e s' I1 hq
  | .ok (.ret u), hq => exact I1.after hq
end

/-! ### the top: tables of code objects, no repr under way -/
def tabH (T : List Addr) : Hp := fun b => if b ∈ T then some (.tbl #[]) else none
theorem tab_in {T : List Addr} {b : Addr} (h : b ∈ T) : tabH T b = some (.tbl #[]) := if_pos h
theorem tab_out {T : List Addr} {b : Addr} (h : b ∉ T) : tabH T b = none := if_neg h
/-- what is tracked at the start: the script (if it is no object of the module), the tables -/
theorem top_heap {P : Program} {w : World} {K : PySem.W.Frag} {a : Addr} {T : List Addr} {s : Shared} {vs : List Value} {ns : List Int} (KX : K.In s.heap) (hT : ∀ b ∈ T, s.heap.get? b = some { cls := .none, data := .fields #[] })
    (ha : s.heap.get? a = some { cls := .type "list", data := .seq vs.toArray }) (hi : IntsAre vs ns) (hl : ns.length ≤ sizeLine) :
    ∃ H : Hp, (∀ b ∈ T, H b = some (.tbl #[])) ∧ SqL K H a (ns.map V.int) ∧ HOk P w H s.heap ∧
      ∀ b u, H b = some u → (b ∈ T ∧ u = .tbl #[]) ∨ (b = a ∧ K.lookup a = none ∧ ∃ o xs, u = .frz o (.lst xs)) := by
  have rv := vals_ints hi
  have aT : a ∉ T := fun z => by
    have q := hT a z
    rw [ha] at q
    cases congrArg Obj.data (Option.some.inj q)
  cases hk : K.lookup a with
  | some o =>
    have e := KX a o hk
    rw [ha] at e
    cases e
    refine ⟨tabH T, fun b hb => tab_in hb, .inr ⟨_, vs.toArray, _, hk, rfl, rfl, rfl, by rw [List.size_toArray, hi.length]; exact hl, by simpa using rv⟩, fun b u z => ?_, fun b u z => ?_⟩
    · by_cases hb : b ∈ T
      · rw [tab_in hb] at z
        cases z
        exact hT b hb
      · rw [tab_out hb] at z
        cases z
    · by_cases hb : b ∈ T
      · rw [tab_in hb] at z
        exact .inl ⟨hb, (Option.some.inj z).symm⟩
      · rw [tab_out hb] at z
        cases z
  | none =>
    refine ⟨upd (tabH T) a (.frz { cls := .type "list", data := .seq vs.toArray } (.lst (ns.map V.int))), fun b hb => ?_, .inl (.inr ⟨_, upd_same⟩), fun b u z => ?_, fun b u z => ?_⟩
    · have nb : b ≠ a := fun e => aT (by rw [← e]; exact hb)
      rw [upd_ne nb]
      exact tab_in hb
    · by_cases hb : b = a
      · subst hb
        rw [upd_same] at z
        cases z
        exact ⟨ha, by rw [List.length_map]; exact hl, vs, _, rv, ha⟩
      · rw [upd_ne hb] at z
        by_cases hb : b ∈ T
        · rw [tab_in hb] at z
          cases z
          exact hT b hb
        · rw [tab_out hb] at z
          cases z
    · by_cases hb : b = a
      · subst hb
        rw [upd_same] at z
        exact .inr ⟨rfl, rfl, _, _, (Option.some.inj z).symm⟩
      · rw [upd_ne hb] at z
        by_cases hb : b ∈ T
        · rw [tab_in hb] at z
          exact .inl ⟨hb, (Option.some.inj z).symm⟩
        · rw [tab_out hb] at z
          cases z
theorem top_call {P : Program} {w : World} {K : PySem.W.Frag} {mg mb : Str → Option Value} {CX : CXT} {k : Nat} {fa a : Addr} {cs : List (Addr × Addr)} {fd : FuncData} {x : Str} {sp : Sp} {s : Shared} {vs : List Value} {ns : List Int}
    (KX : K.In s.heap) (gl : s.heap.Ns mainGlobals mg) (bl : s.heap.Ns builtinsNs mb) (bb : ∀ x : Str, x ≠ "__name__" → mb x = bootBuiltins x) (nl : s.heap.NoLimit) (gn : s.gens = #[])
    (hT : ∀ p ∈ cs, s.heap.get? p.2 = some { cls := .none, data := .fields #[] }) (nT : ∀ p ∈ cs, K.lookup p.2 = none) (C : ∀ p ∈ cs, PySem.W.CodeHd s.heap p.1 p.2)
    (hbm : ∃ (bm : Addr) (ob : Obj), mg "__builtins__" = some (.ref bm) ∧ bm ≠ builtinsNs ∧ s.heap.get? bm = some ob ∧ ob.cls = .type "module" ∧ ob.dict = some builtinsNs ∧ ob.data = .plain)
    (ha : s.heap.get? a = some { cls := .type "list", data := .seq vs.toArray }) (hi : IntsAre vs ns) (hl : ns.length ≤ sizeLine) (hr : Room k callerA)
    (F : ∀ base : Heap, K.In base → base.Ns mainGlobals mg → (∀ p ∈ cs, LamX.TabB base mg p.1 p.2) → (base.get? sysModules).isSome = true → FnG P w K mg base CX k fa fd [x] sp) (hsy : ∃ mm, s.heap.Ns sysModules mm) (hbind : ∀ (s : Shared) (u : Value), BindsTo s fd ⟨[u], []⟩ [(x, u)])
    (hsp : ∀ H : Hp, (∀ p ∈ cs, H p.2 = some (.tbl #[])) → SqL K H a (ns.map V.int) → sp [.ref a] H (fun v _ => v = .bl true) fun _ _ _ => False)
    (hCX : ∀ H e s', CX [] H s (fun _ _ _ => False) e s' → False) :
    codeAny (model P w) callerA (.call (.ref fa) ⟨[.ref a], []⟩) (fun r s' => r = .ok (.ret (.bool true)) ∧ OldK s.heap s'.heap ∧ s'.os = s.os ∧ AllBare s'.gens) s := by
  have hT' : ∀ b ∈ cs.map (·.2), s.heap.get? b = some { cls := .none, data := .fields #[] } := fun b hb => by
    obtain ⟨p, hp, rfl⟩ := List.mem_map.mp hb
    exact hT p hp
  obtain ⟨H, H1, H2, H3, H4⟩ := top_heap (P := P) (w := w) KX hT' ha hi hl
  -- what is no list and no empty record is not tracked
  have un : ∀ {b : Addr} {o : Obj}, s.heap.get? b = some o → (∀ l n, o.data ≠ .seq l n) → o.data ≠ .fields #[] → H b = none := fun {b o} e n1 n2 => by
    cases q : H b with
    | none => rfl
    | some u =>
      rcases H4 b u q with ⟨hb, _⟩ | ⟨hb, _⟩
      · rw [hT' b hb] at e
        cases e
        exact absurd rfl n2
      · rw [hb, ha] at e
        cases e
        exact absurd rfl (n1 _ _)
  have ns' : ∀ {b : Addr} {m : Str → Option Value}, s.heap.Ns b m → (hidT s.heap H).Ns b m := fun {b m} ⟨o, es, ep, e, d, r⟩ =>
    ⟨o, es, ep, hidT_get e (un e (fun l n z => by rw [d] at z; cases z) fun z => by rw [d] at z; cases z), d, r⟩
  have kb : K.In (hidT s.heap H) := fun b o e => hidT_get (KX b o e) (by
    cases q : H b with
    | none => rfl
    | some u =>
      rcases H4 b u q with ⟨hb, _⟩ | ⟨hb, hn, _⟩
      · obtain ⟨p, hp, rfl⟩ := List.mem_map.mp hb
        rw [nT p hp] at e
        cases e
      · rw [hb, hn] at e
        cases e)
  have TB : ∀ p ∈ cs, LamX.TabB (hidT s.heap H) mg p.1 p.2 := fun p hp => by
    refine ⟨?_, ?_, fun z => ?_⟩
    · obtain ⟨o, us, file, tf, flags, tg, inF, text, tt, e1, r1, r2, r3, rest⟩ := C p hp
      refine ⟨o, us, file, tf, flags, tg, inF, text, tt, hidT_get e1 (un e1 (fun l n z => by rw [r2] at z; cases z) fun z => ?_), r1, r2, r3, rest⟩
      rw [r2] at z
      cases z
      simp at r3
    · obtain ⟨bm, ob, b1, b2, b3, b4, b5, b6⟩ := hbm
      refine ⟨bm, ob, b1, b2, fun q => ?_, fun q => ?_, hidT_get b3 (un b3 (fun l n z => by rw [b6] at z; cases z) fun z => by rw [b6] at z; cases z), b4, b5, b6⟩
      · obtain ⟨o, es, ep, e, d, _⟩ := gl
        rw [q, e] at b3
        cases b3
        rw [d] at b6
        cases b6
      · rw [q, hT p hp] at b3
        cases b3
        cases b6
    · obtain ⟨o, es, ep, e, d, _⟩ := gl
      rw [z, hT p hp] at e
      cases e
      cases d
  have sy : ((hidT s.heap H).get? sysModules).isSome = true := by
    obtain ⟨mm, z⟩ := hsy
    obtain ⟨o, _, _, e, _⟩ := ns' z
    rw [e]
    rfl
  have md : L2.Mod K mg (hidT s.heap H) := ⟨kb, ns' gl, ⟨mb, ns' bl, bb⟩, by
    obtain ⟨mc, z1, z2⟩ := nl
    exact ⟨mc, ns' z1, z2⟩⟩
  have e0 : Env0 P w K mg (hidT s.heap H) callerA [] s H := ⟨rfl, md, fun b o e => of_hidT e, Nat.le_of_eq (hidT_size _ _), trivial, fun b hb => absurd (show b ∈ ([] : List Addr) from hb) (by simp), H3, .of_eq gn⟩
  refine codeAny_mono ((F _ kb (ns' gl) TB sy).run callerA [] s H ⟨[.ref a], []⟩ [.ref a] [.ref a] _ _ rfl hr e0 (hbind s (.ref a)) (.cons rfl .nil) (hsp H (fun p hp => H1 _ (List.mem_map.mpr ⟨p, hp, rfl⟩)) H2)) fun r s' h => ?_
  match r, h with
  | .error e, h => exact (hCX H e s' h).elim
  | .ok (.ret u), h =>
    obtain ⟨v, H', os, bare, U, hok', rv, q⟩ := h
    cases (show v = .bl true from q)
    cases (show u = Value.bool true from rv)
    have stays : ∀ b o, s.heap.get? b = some o → s'.heap.get? b = some o ∨ (b ∈ cs.map (·.2) ∧ ∃ more : Array Value, s'.heap.get? b = some { cls := .none, data := .fields more }) := fun b o e => by
      cases q : H b with
      | none => exact .inl (U.keep b o e q (fun z => absurd (show b ∈ ([] : List Addr) from z) (by simp)) (by simp))
      | some u =>
        rcases H4 b u q with ⟨hb, hu⟩ | ⟨hb, _, ob, xs, hu⟩
        · obtain ⟨more, z⟩ := U.tbls b #[] (by rw [q, hu])
          exact .inr ⟨hb, _, hok' b _ z⟩
        · rw [hu] at q
          obtain ⟨z1, _⟩ := H3 b _ q
          obtain ⟨z2, _⟩ := hok' b _ (U.frzs b ob _ q)
          rw [e] at z1
          cases z1
          exact .inl z2
    refine ⟨rfl, ⟨fun b o e => ?_, fun b o e => ?_⟩, os, bare⟩
    · rcases stays b o e with z | ⟨hb, more, z⟩
      · exact .inl z
      · rw [hT' b hb] at e
        cases e
        obtain ⟨p, hp, rfl⟩ := List.mem_map.mp hb
        exact .inr (.inl ⟨((C p hp).tab (hT p hp)).isCodeTable, rfl, #[], more, rfl, by rw [Array.empty_append]; exact z⟩)
    · rcases stays b o e with z | ⟨hb, more, z⟩
      · exact ⟨o, z⟩
      · exact ⟨_, z⟩

/-- the law's promise at the head's heap h -/
def LawG (l : PySem.W.OpenLaw) (w : World) (K : PySem.W.Frag) (CX : CXT) (k n : Nat) (x : Str) (mg : Str → Option Value) (fa : Addr) (h : Heap) : Prop :=
  ∃ (fd : FuncData) (cs : List (Addr × Addr)) (sp : Sp), (∀ p ∈ cs, h.get? p.2 = some { cls := .none, data := .fields #[] }) ∧ (∀ p ∈ cs, K.lookup p.2 = none) ∧ (∀ p ∈ cs, PySem.W.CodeHd h p.1 p.2) ∧ (∀ (s : Shared) (u : Value), BindsTo s fd ⟨[u], []⟩ [(x, u)]) ∧
    (∀ (H : Hp) (a : Addr) (ns : List Int), ns.length ≤ n → (∀ z ∈ ns, Builtin.Int.intBits z ≤ 1048576) → (∀ p ∈ cs, H p.2 = some (.tbl #[])) → SqL K H a (ns.map V.int) → sp [.ref a] H (fun v _ => v = .bl true) fun _ _ _ => False) ∧
    ∀ base : Heap, K.In base → base.Ns mainGlobals mg → (∀ p ∈ cs, LamX.TabB base mg p.1 p.2) → (base.get? sysModules).isSome = true → FnG l.prog w K mg base CX k fa fd [x] sp
/-- the def under the module's name x: its code object's table is empty -/
theorem tab_of {q : Program} {loose : List Str} {mean : ExcName → Option Value} {mg mb : Str → Option Value} {h : Heap} {K : PySem.W.Frag} {x : Str} {fx : Addr} (T : Top q loose mean mg mb h) (KX : K.In h) (hx : ((recsOf q).any fun e => e.name == x) = true) (hm : mg x = some (.ref fx)) : LamX.OwnTab K fx h := by
  intro c P o fd e dd vs sl k1 k2 k3 k4 k5
  obtain ⟨r, hr, hn⟩ := List.any_eq_true.mp hx
  obtain ⟨a', o', fd', c', P', h1, h2, h3, h4, h5, ⟨oc, vc, e1, _, e3, e4⟩, hP⟩ := T.tab r hr
  rw [beq_iff_eq.mp hn, hm] at h1
  cases h1
  rw [KX _ _ k1] at h2
  cases h2
  rw [k2] at h3
  cases h3
  rw [k3] at h4
  cases h4
  rw [KX _ _ k4] at e1
  cases e1
  cases e3
  rw [k5] at e4
  cases e4
  exact hP
theorem walk_G {l : PySem.W.OpenLaw} {n k : Nat} {q : Program} {loose : List Str} {XP : (Str → Option Value) → Heap → Prop} {YP : World → Heap → Prop} {d : DefRec} {K : Params → PySem.W.Frag} {CX : World → CXT} {x : Str}
    (hn : l.most = some n) (hn2 : n ≤ sizeLine) (hdf : d.params.defaults = []) (hr : Room k callerA) (him : importsNone q = true) (hY : ∀ (w : World) (h : Heap), YP w h → (K w.params).In h)
    (F : ∀ (w : World) (mg : Str → Option Value) (fa : Addr) (h : Heap), YP w h → (K w.params).In h → h.Ns mainGlobals mg → mg d.name = some (.ref fa) →
      (∀ (x : Str) (fx : Addr), ((recsOf q).any fun e => e.name == x) = true → mg x = some (.ref fx) → LamX.OwnTab (K w.params) fx h) → LawG l w (K w.params) (CX w) k n x mg fa h)
    (hCX : ∀ (w : World) (H : Hp) (s : Shared) (e : Value) (s' : Shared), CX w [] H s (fun _ _ _ => False) e s' → False) :
    PySem.W.WalkO q loose XP YP l.row.toRowW d [] (fun f vs => PySem.call f vs) := by
  refine Att.attach_callB hn hdf fun w s₀ s₁ mg mb fa o pm cd doc a vs ns G Y ho hd hcd hmg hobj hints hlen hbits hg => ?_
  have KX := hY w _ Y
  obtain ⟨fd, cs, sp, hT, nT, C, hb, hsp, hF⟩ := F w mg fa _ Y KX G.T.g hmg fun x fx z1 z2 => tab_of G.T KX z1 z2
  obtain ⟨mm, z, _⟩ := (G.T.seer him).mods
  exact top_call KX G.T.g G.T.b G.T.builtins G.T.nolimit hg hT nT C G.T.bmain hobj hints (Nat.le_trans hlen hn2) hr hF ⟨mm, z⟩ hb (fun H hH hS => hsp H a ns hlen hbits hH hS) fun H e s' => hCX w H s₁ e s'
end Ls
end
section
set_option Elab.async false
set_option linter.all false
set_option maxRecDepth 100000
set_option maxHeartbeats 4000000
namespace Ls
open PySem PySem.Spec PyProof.Rows L2

/-! ### a value as plain data; repr -/
mutual
inductive TV (H : Hp) : V → PyData → Prop
  | non : TV H .non .none
  | bl (b : Bool) : TV H (.bl b) (.bool b)
  | int (i : Int) : TV H (.int i) (.int i)
  | str (x : Str) : TV H (.str x) (.str x)
  | lst {a : Addr} {xs : List V} {ds : List PyData} (e : H a = some (.lst xs)) (h : TVs H xs ds) : TV H (.ref a) (.list ds)
  | tup {a : Addr} {xs : List V} {ds : List PyData} (e : H a = some (.tup xs)) (h : TVs H xs ds) : TV H (.ref a) (.tuple ds)
  | dct {a : Addr} {kvs : List (Key × V)} {ds : List (PyData × PyData)} (e : H a = some (.dK kvs)) (hk : TVs H (kvs.map fun p => kV p.1) (ds.map (·.1))) (hv : TVs H (kvs.map (·.2)) (ds.map (·.2))) : TV H (.ref a) (.dict ds)
inductive TVs (H : Hp) : List V → List PyData → Prop
  | nil : TVs H [] []
  | cons {v : V} {vs : List V} {d : PyData} {ds : List PyData} (h : TV H v d) (hs : TVs H vs ds) : TVs H (v :: vs) (d :: ds)
end
mutual
theorem TV.ext {H H' : Hp} (e : Ext H H') : ∀ {v : V} {d : PyData}, TV H v d → TV H' v d
  | _, _, .non => .non
  | _, _, .bl b => .bl b
  | _, _, .int i => .int i
  | _, _, .str x => .str x
  | _, _, .lst q h => .lst (e _ _ q) (h.ext e)
  | _, _, .tup q h => .tup (e _ _ q) (h.ext e)
  | _, _, .dct q h1 h2 => .dct (e _ _ q) (h1.ext e) (h2.ext e)
theorem TVs.ext {H H' : Hp} (e : Ext H H') : ∀ {vs : List V} {ds : List PyData}, TVs H vs ds → TVs H' vs ds
  | _, _, .nil => .nil
  | _, _, .cons h hs => .cons (h.ext e) (hs.ext e)
end
section
variable {X : Cx} {pins : List (Addr × Obj)} {σ : L2.St} {H : Hp} {s : Shared}
theorem pairs_keys {P : Program} {w : World} : ∀ {es : List DictEntry} {vs : List (Key × Value)} {kvs : List (Key × V)}, Pairs (mixKind P w) es vs → KV kvs vs → Vals (kvs.map fun p => kV p.1) (es.map (·.key)) ∧ Vals (kvs.map (·.2)) (es.map (·.val))
  | _, _, _, .nil, .nil => ⟨.nil, .nil⟩
  | _, _, _, .cons (kv := kv) h1 h2 h, .cons (a := q) ⟨e1, e2⟩ r => by
    obtain ⟨z1, z2⟩ := pairs_keys h r
    refine ⟨.cons ?_ z1, .cons (by dsimp only; rw [h2]; exact e2) z2⟩
    dsimp only
    rw [e1]
    rcases keyIs_shape h1 with ⟨i, t, ek, ev⟩ | ⟨x, t, ek, ev⟩
    · rw [ek, ev]
      exact ⟨t, rfl⟩
    · rw [ek, ev]
      exact ⟨t, rfl⟩
mutual
/-- what is told of a value as data is so in the heap; none of its lists and dicts is the table of modules -/
theorem reads_of (I : Inv X pins σ H s) (hs : H sysModules = none) : ∀ {v : V} {d : PyData} {u : Value}, TV H v d → RelV v u → ∃ as, Reads s.heap u d as ∧ sysModules ∉ as
  | _, _, _, .non, r => by
    cases r
    exact ⟨[], .none, by simp⟩
  | _, _, _, .bl b, r => by
    cases r
    exact ⟨[], .bool b, by simp⟩
  | _, _, _, .int i, r => by
    obtain ⟨t, rfl⟩ := r
    exact ⟨[], .int i t, by simp⟩
  | _, _, _, .str x, r => by
    obtain ⟨t, rfl⟩ := r
    exact ⟨[], .str x t, by simp⟩
  | .ref a, _, _, .lst e h, r => by
    cases r
    obtain ⟨_, its, n, rv, ho⟩ := (show ObjOk X.prog X.w H s.heap a (.lst _) from I.hok a _ e)
    obtain ⟨as, h1, h2⟩ := readsAll_of I hs h rv
    refine ⟨a :: as, .list ho rfl rfl (by simpa using h1), fun z => ?_⟩
    rcases List.mem_cons.mp z with z | z
    · rw [z, e] at hs
      cases hs
    · exact h2 z
  | .ref a, _, _, .tup e h, r => by
    cases r
    obtain ⟨_, its, rv, o, ho, hc, n, hd⟩ := (show ObjOk X.prog X.w H s.heap a (.tup _) from I.hok a _ e)
    obtain ⟨as, h1, h2⟩ := readsAll_of I hs h rv
    exact ⟨as, .tuple ho hc hd (by simpa using h1), h2⟩
  | .ref a, _, _, .dct e h1 h2, r => by
    cases r
    obtain ⟨_, _, vs, rk, o, es, ep, ho, hx, hd, _, hp, _⟩ := dk_of I.hok e
    obtain ⟨k1, k2⟩ := pairs_keys hp rk
    obtain ⟨as, a1, a2⟩ := readsAll_of I hs h1 k1
    obtain ⟨bs, b1, b2⟩ := readsAll_of I hs h2 k2
    refine ⟨a :: as ++ bs, .dict ho hx.1 hd a1 b1, fun z => ?_⟩
    rcases List.mem_append.mp z with z | z
    · rcases List.mem_cons.mp z with z | z
      · rw [z, e] at hs
        cases hs
      · exact a2 z
    · exact b2 z
theorem readsAll_of (I : Inv X pins σ H s) (hs : H sysModules = none) : ∀ {vs : List V} {ds : List PyData} {us : List Value}, TVs H vs ds → Vals vs us → ∃ as, ReadsAll s.heap us ds as ∧ sysModules ∉ as
  | _, _, _, .nil, .nil => ⟨[], .nil, by simp⟩
  | _, _, _, .cons h t, .cons r rs => by
    obtain ⟨as, a1, a2⟩ := reads_of I hs h r
    obtain ⟨bs, b1, b2⟩ := readsAll_of I hs t rs
    exact ⟨as ++ bs, .cons a1 b1, fun z => (List.mem_append.mp z).elim a2 b2⟩
end
end
/-- repr(x), x plain data -/
def rRepr : List V → Hp → VK → Prop := fun xs H Q => ∃ (v : V) (d : PyData), xs = [v] ∧ TV H v d ∧ d.showable = true ∧ d.depth ≤ 60 ∧ d.shown.length ≤ sizeLine ∧ Q (.str d.shown) H
theorem call_repr {X : Cx} {k : Nat} (hg : X.A.guards = some []) (hr : Room k X.A) (hb : (X.base.get? sysModules).isSome = true) : CallR X (.builtin "repr") rRepr := by
  intro pins s σ H xs us Q I r h
  obtain ⟨v, d, rfl, h, hs, hd, hz, q⟩ := h
  obtain ⟨u, rfl, rv⟩ := vals1 r
  have h0 : H sysModules = none := by
    obtain ⟨o, e⟩ := Option.isSome_iff_exists.mp hb
    exact (I.bs _ _ e).2
  cases h with
  | non =>
    cases rv
    exact PySem.P.repr_of_none ⟨.str _, H, I.tok _, ⟨_, rfl⟩, q⟩
  | bl b =>
    cases rv
    exact PySem.P.repr_of_bool ⟨.str _, H, I.tok _, ⟨_, rfl⟩, q⟩
  | int i =>
    obtain ⟨t, rfl⟩ := rv
    exact PySem.P.repr_of_int (of_decide_eq_true hs) ⟨.str _, H, I.tok _, ⟨_, rfl⟩, q⟩
  | str x =>
    obtain ⟨t, rfl⟩ := rv
    exact PySem.P.repr_of_str ⟨.str _, H, I.tok _, ⟨_, rfl⟩, q⟩ hz
  | lst e h =>
    obtain ⟨as, R, n⟩ := reads_of I h0 (.lst e h) rv
    cases rv
    exact repr_of_reads' R hs (fun _ => n) hg (by have := hr.units; omega) (fun _ _ z => z) (fun h' u tk k => ⟨.str _, H, I.kept (t' := tk) k, ⟨_, rfl⟩, q⟩) hz
  | tup e h =>
    obtain ⟨as, R, n⟩ := reads_of I h0 (.tup e h) rv
    cases rv
    exact repr_of_reads' R hs (fun _ => n) hg (by have := hr.units; omega) (fun _ _ z => z) (fun h' u tk k => ⟨.str _, H, I.kept (t' := tk) k, ⟨_, rfl⟩, q⟩) hz
  | dct e h1 h2 =>
    obtain ⟨as, R, n⟩ := reads_of I h0 (.dct e h1 h2) rv
    cases rv
    exact repr_of_reads' R hs (fun _ => n) hg (by have := hr.units; omega) (fun _ _ z => z) (fun h' u tk k => ⟨.str _, H, I.kept (t' := tk) k, ⟨_, rfl⟩, q⟩) hz
end Ls
end
section
set_option Elab.async false
set_option linter.all false
set_option maxRecDepth 100000
set_option maxHeartbeats 4000000
namespace Ls
open PySem PySem.Spec PyProof.Rows L2 LamX

/-! ### heard(lambda: ..): what is wished of an exception may hang on the hearer's slots -/
section
variable {X : Cx} {pins : List (Addr × Obj)} {σ : L2.St} {H : Hp} {s : Shared}
theorem pe_actS {CXg : CXT} {Eg : XK} {Ng : List Str} {qg : Str} {sg : Scope} {g f c' : Addr} {cdg pm ctv : Value} {params : Arguments} {body : PySem.Expr} {scope : Scope} {k i : Nat} {a : Str} {pn : List (Addr × Obj)} {xe : Value → Shared → Prop} {W : WX} {tb : XK → TE} {p1 p2 : Pos}
    (I : Inv X pins σ H s) (L : LamS X.env.scope scope) (hf : s.heap.get? f = some (PySem.W.kla_obj "<lambda>" (X.env.qual ++ "<lambda>") params body scope (cloFrom X.env.cells scope.names []) pm c' ctv)) (hfn : H f = none) (hfr : f ∉ frs X.stack)
    (hbind : bindArgs (PySem.W.kla_fn "<lambda>" (X.env.qual ++ "<lambda>") params body scope (cloFrom X.env.cells scope.names []) pm (.ref c') ctv) ⟨[], []⟩ = pure [])
    (tk : Takes ((cxOf CXg X.prog X.w X.K X.mg X.base Ng qg sg g cdg X.A X.stack s H Eg).tr pn xe) W) (hr : Room (k + 1) (X.A.deeper (envOfC qg sg s.heap.objs.size g cdg)))
    (hbody : ∀ (A : Around) (outer : List Env) (s : Shared) (H : Hp) (E : XK), Room k (A.deeper (lamEnv X scope s.heap.objs.size f c')) → PE (lamCx X A outer s H E scope f c') body (tb E))
    (hN : Ng[i]? = some a) (hv : Vis sg a) (hd : (a == ("__debug__" : Str)) = false := by decide) (hcd : (a == ("__classdict__" : Str)) = false := by decide) :
    PE ((cxOf CXg X.prog X.w X.K X.mg X.base Ng qg sg g cdg X.A X.stack s H Eg).tr pn xe) (.Call (.Name a p1) [] [] p2)
      (fun σZ HZ Q => σZ[i]? = some (some (.ref f)) ∧ HZ c' = some (CodeO c' (X.env.qual ++ "<lambda>")) ∧ tb (fun cls d H' => W cls d σZ H') σ HZ Q) := by
  refine ⟨fun pinsZ sZ σZ HZ Q IZ h => ?_⟩
  obtain ⟨hs, hc, ht⟩ := h
  -- the same with the wish at these very slots: the library's rule over a wish of its own
  refine wpAny_Call_Name_kw (thn ((pe_var (pos := p1) (i := i) hN hv hd hcd).run pinsZ sZ σZ HZ (fun v H1 => v = .ref f ∧ H1 = HZ) IZ ⟨.ref f, hs, rfl, rfl⟩) fun u s1 ⟨v, H1, I1, r1, q1⟩ => ?_)
  obtain ⟨ev, eH⟩ := q1
  subst ev
  rw [eH] at I1
  obtain rfl : u = Value.ref f := r1
  have of1 := I1.base.keep f _ hf hfn hfr (fun z => nomatch (show f ∈ ([] : List Addr) from z))
  refine PySem.W.callWith_F0 ⟨_, _, _, _, of1⟩ ?_
  have un : Un (frs X.stack) [] H HZ s.heap s1.heap := I1.base
  obtain ⟨⟨oc, vs, t, hoc, hdc, hvc⟩, _, _⟩ := I1.hok c' _ hc
  have rc : codeAny (model X.prog X.w) (X.A.deeper (envOfC qg sg s.heap.objs.size g cdg)) (.call (.ref f) ⟨[], []⟩) (CR (L2.CX X.prog X.w) (envOfC qg sg s.heap.objs.size g cdg :: X.stack) X.prog X.w HZ s1 Q (fun cls d H' => W cls d σZ H')) s1 := by
    refine PySem.W.kla_callFunE hr.depth of1 rfl L.co L.gen rfl ⟨c', oc, vs, t, rfl, hoc, hdc, hvc⟩ ?_
    rw [hbind]
    refine wpAny_pure (wpAny_newFunctionEnv (fun y hy => (L.own y hy).2) (fun y hy => absurd hy (by simp)) (fun h₁ hns hsb => ⟨I1.nolimit.fresh _ hsb, ?_⟩) L.kind)
    show codeAny _ _ (.expr body (lamEnv X scope s1.heap.objs.size f c')) _ _
    have J := lam_start2 (E := fun cls d H' => W cls d σZ H') (f := f) (c' := c') (tk := s1.toks + ([] : List (Str × Value)).length) I L I1.env0 hr.hd un hns fun b o e => hsb.extBut b o (Nat.ne_of_lt (Heap.lt_size e)) (Heap.get?_push_of_some _ e)
    refine PySem.W.kla_codeExpr (wpAny_mono ((hbody _ _ s1 HZ _ (hr.deeper _)).run [] _ _ HZ Q J ht) (fun v s' hq => ?_) fun e s' hq => hq)
    obtain ⟨w', H', J', rv, q⟩ := hq
    exact ⟨w', H', J'.os, J'.bare, J'.base, J'.hok, rv, q⟩
  refine wpAny_call (codeAny_mono rc fun r s' hq => ?_)
  match r, hq with
  | .error e, hq => exact tk e s' (XE.of_call I1 (fun cls d H' h => h) hq)
  | .ok (.ret u), hq => exact I1.after hq
end
/-- the def that calls what it got; TT: what it makes of the lambda's reading -/
def GivesP (P : Program) (w : World) (K : PySem.W.Frag) (mg : Str → Option Value) (base : Heap) (A : Around) (stack : List Env) (Ng : List Str) (x : Str) (sg : Scope) (g : Addr) (cdg : Value) (bg : List Stmt) (a : Str) (q : Str) (TT : (XK → Hp → VK → Prop) → Hp → VK → Prop) : Prop :=
  ∀ (f c' : Addr) (s : Shared) (H : Hp) (Q : VK) (tl : XK → Hp → VK → Prop),
    (∀ (W : WX) (pn : List (Addr × Obj)) (xe : Value → Shared → Prop) (p1 p2 : Pos), Takes ((cxOf C8.CX0 P w K mg base Ng x sg g cdg A stack s H C8.E0).tr pn xe) W →
      PE ((cxOf C8.CX0 P w K mg base Ng x sg g cdg A stack s H C8.E0).tr pn xe) (.Call (.Name a p1) [] [] p2) (fun σZ HZ Q => σZ[0]? = some (some (.ref f)) ∧ HZ c' = some (CodeO c' q) ∧ tl (fun cls d H' => W cls d σZ H') HZ Q)) →
    H c' = some (CodeO c' q) → TT tl H Q →
    ∃ t, PSs (cxOf C8.CX0 P w K mg base Ng x sg g cdg A stack s H C8.E0).nox bg t ∧ t { nx := fun _ H' => Q .non H', rt := Q } (L2.start Ng [.ref f]) H
def GivesS (X : Cx) (Ng : List Str) (x : Str) (sg : Scope) (g : Addr) (cdg : Value) (bg : List Stmt) (a : Str) (q : Str) (TT : (XK → Hp → VK → Prop) → Hp → VK → Prop) : Prop :=
  GivesP X.prog X.w X.K X.mg X.base X.A X.stack Ng x sg g cdg bg a q TT
section
variable {X : Cx}
/-- x(lambda: body) -/
theorem pe_lamS {T : List (Addr × Str)} {TT : (XK → Hp → VK → Prop) → Hp → VK → Prop} {x a : Str} {g c P : Addr} {k : Nat} {st : Stmt} {fd : FuncData} {Ng : List Str}
    {params : Arguments} {body : PySem.Expr} {scope : Scope} {t : XK → TE} {p lpos pos : Pos} (F : Fun X.K x x st g fd) (hg : Gl X x) (hm : X.mg x = some (.ref g))
    (hb : L2.Binds X.K fd [a] []) (Sg : FnScope Ng [a] (defScope st)) (hNg : Ng[0]? = some a) (hva : Vis (defScope st) a)
    (hG : ∀ cdv, GivesS X Ng x (defScope st) g cdv (defBody st) a (X.env.qual ++ "<lambda>") TT)
    (TB : TabB X.base X.mg c P) (hcode : X.env.code = .ref c) (hmT : (P, X.env.qual ++ "<lambda>") ∈ T) (hu : ∀ p ∈ T, p.1 = P → p.2 = X.env.qual ++ "<lambda>") (hr : Room (k + 2) X.A) (L : LamS X.env.scope scope) (hdef : defaultsOf params X.env = ([], []))
    (hbind : ∀ (q : Str) (cl : List (Str × Addr)) (pm cv ctv : Value), bindArgs (PySem.W.kla_fn "<lambda>" q params body scope cl pm cv ctv) ⟨[], []⟩ = pure [])
    (hbody : ∀ (A : Around) (outer : List Env) (s : Shared) (H : Hp) (E : XK) (f c' : Addr), Room k (A.deeper (lamEnv X scope s.heap.objs.size f c')) → PE (lamCx X A outer s H E scope f c') body (t E))
    (hdb : (x == ("__debug__" : Str)) = false := by decide) (hd : (a == ("__debug__" : Str)) = false := by decide) (hcd : (a == ("__classdict__" : Str)) = false := by decide) :
    PE X (.Call (.Name x p) [.Lambda params body scope lpos] [] pos) (tLam T TT t) := by
  obtain ⟨oc, od, kV, doc, pm, an, cdv, ct, osl, rfl, lk, hcg⟩ := F.ex
  refine ⟨fun pins s σ H Q I h => ?_⟩
  obtain ⟨hT, h⟩ := h
  refine wpAny_Call_Name_kw (ld_glob I hg hm ?_ hdb)
  refine PySem.W.callWith_K (h₀ := X.base) I.ok.mod.kin F.kp ?_ (by rfl) (by rfl)
  show wpAny _ _ (spliced ((false, eval (.Lambda params body scope lpos) X.env) :: backTo pos (starEach [] X.env))) _ _ s
  refine Calls.spliced_cons (lam_make2 I TB hcode hmT hu hT hdef (L.has I.ok) fun f c' pm' ctv H1 s' I1 eN T1 hf hfn hfr hco => Calls.spliced_nil ⟨I1.kIn, ?_⟩)
  have rc : codeAny (model X.prog X.w) X.A (.call (.ref g) ⟨[.ref f], []⟩) (CR C8.CX0 X.stack X.prog X.w H1 s' Q C8.E0) s' := by
    refine run_ofS (N := Ng) (ps := [a]) (us := [.ref f]) (vs := [.ref f]) lk hcg Sg hr I1.env0 (hb s' [.ref f] I1.kIn rfl) (.cons rfl .nil) rfl fun hr' => ?_
    obtain ⟨t', ht', hq'⟩ := hG cdv f c' s' H1 Q (fun E H' Q' => t E σ H' Q') (fun W pn xe p1 p2 tk => pe_actS (i := 0) I1 L hf hfn hfr (hbind _ _ _ _ _) tk hr' (fun A outer s H E hr2 => hbody A outer s H E f c' hr2) hNg hva hd hcd) hco (h H1 eN T1)
    exact ⟨t', ht'.nox, hq'⟩
  refine wpAny_call (codeAny_mono rc fun r s2 hq => ?_)
  match r, hq with
  | .error e, hq => exact (show False from hq).elim
  | .ok (.ret u), hq => exact I1.after hq
end
end Ls
end
section
set_option Elab.async false
set_option linter.all false
set_option maxRecDepth 100000
set_option maxHeartbeats 4000000
namespace Ls
open PySem PySem.Spec PyProof.Rows L2

theorem atI_at {α : Type} {xs : List α} {i : Int} {j : Nat} {v : α} (e : i = (j : Int)) (h : xs[j]? = some v) : atI xs i = some v := by
  rw [e]
  exact atI_nat h
theorem Paired.at_ {α β : Type} {F : α → β → Prop} : ∀ {l₁ : List α} {l₂ : List β} {i : Nat} {a : α}, Paired F l₁ l₂ → l₁[i]? = some a → ∃ b, l₂[i]? = some b ∧ F a b
  | _, _, _, _, .nil, h => by simp at h
  | _, _, 0, _, .cons r _, h => by simp at h; subst h; exact ⟨_, rfl, r⟩
  | _, _, i + 1, a, .cons _ t, h => by
    obtain ⟨b, h1, h2⟩ := Paired.at_ (i := i) (a := a) t (by simpa using h)
    exact ⟨b, by simpa using h1, h2⟩
theorem ext_free {H H' : Hp} (e : Ext H H') {a : Addr} (h : H' a = none) : H a = none := by
  cases q : H a with
  | none => rfl
  | some o => rw [e a o q] at h; cases h

/-! ### what is seen of a heap: without the places S, without the tables of code objects -/
def vis (S : List Addr) (H : Hp) : Hp := fun b => if b ∈ S then none else match H b with | some (.tbl _) => none | o => o
theorem vis_some {S : List Addr} {H : Hp} {b : Addr} {o : HO} (h : vis S H b = some o) : b ∉ S ∧ H b = some o ∧ ∀ ps, o ≠ .tbl ps := by
  unfold vis at h
  by_cases e : b ∈ S
  · rw [if_pos e] at h
    cases h
  · rw [if_neg e] at h
    cases q : H b with
    | none => rw [q] at h; cases h
    | some u =>
      rw [q] at h
      cases u <;> first | (cases h; done) | (cases h; exact ⟨e, rfl, fun ps z => nomatch z⟩)
theorem vis_at {S : List Addr} {H : Hp} {b : Addr} {o : HO} (h : b ∉ S) (q : H b = some o) (n : ∀ ps, o ≠ .tbl ps) : vis S H b = some o := by
  unfold vis
  rw [if_neg h, q]
  cases o <;> first | rfl | exact absurd rfl (n _)
theorem vis_ext {S : List Addr} {H : Hp} : Ext (vis S H) H := fun a o e => (vis_some e).2.1
theorem vis_mono {S : List Addr} {H H' : Hp} (e : Ext H H') : Ext (vis S H) (vis S H') := fun a o h => by
  obtain ⟨h1, h2, h3⟩ := vis_some h
  exact vis_at h1 (e a o h2) h3
theorem vis_keep {p c : Addr} {S : List Addr} {H H' : Hp} (k : Keep p c H H') (hp : p ∈ S) (hc : c ∈ S) : Ext (vis S H) (vis S H') := fun a o e => by
  obtain ⟨h1, h2, h3⟩ := vis_some e
  exact vis_at h1 (k a o h2 (fun z => h1 (by rw [z]; exact hp)) fun z => h1 (by rw [z]; exact hc)) h3
theorem vis_extN {S : List Addr} {H H' : Hp} (k : LamX.ExtN H H') : Ext (vis S H) (vis S H') := fun a o e => by
  obtain ⟨h1, h2, h3⟩ := vis_some e
  exact vis_at h1 (k a o h2 h3) h3
theorem vis_new {S : List Addr} {H H' : Hp} (h : ∀ b ∈ S, H b ≠ none) : ∀ {a : Addr} {o : HO}, nw H H' a = some o → (∀ ps, o ≠ .tbl ps) → vis S H' a = some o := fun {a o} e n => by
  obtain ⟨h1, h2⟩ := nw_some e
  exact vis_at (fun z => h a z h1) h2 n
theorem tabs_keep {T : List (Addr × Str)} {p c : Addr} {H H' : Hp} (t : LamX.Tabs T H) (k : Keep p c H H') {xs ys : List V} (hp : H p = some (.lst xs)) (hc : H c = some (.lst ys)) : LamX.Tabs T H' := fun q hq => by
  obtain ⟨ps, h1, h2, h3⟩ := t q hq
  have n : ∀ {b : Addr} {o : HO}, H b = some o → (∀ zs, o ≠ .lst zs) → H' b = some o := fun {b o} e n => k b o e (fun z => by
      rw [z, hp] at e
      exact n xs (Option.some.inj e).symm) fun z => by
      rw [z, hc] at e
      exact n ys (Option.some.inj e).symm
  refine ⟨ps, n h1 (fun zs z => by cases z), h2, fun pos cv hcv => ?_⟩
  obtain ⟨c', e1, e2⟩ := h3 pos cv hcv
  exact ⟨c', e1, n e2 (fun zs z => by unfold LamX.CodeO at z; cases z)⟩

theorem tabs_upd {T : List (Addr × Str)} {p : Addr} {H : Hp} {o : HO} (t : LamX.Tabs T H) {xs : List V} (hp : H p = some (.lst xs)) : LamX.Tabs T (upd H p o) := tabs_keep (c := p) t Keep.upd1 hp hp
theorem tabs_upd2 {T : List (Addr × Str)} {p : Addr} {H : Hp} {o : HO} (t : LamX.Tabs T H) {kvs : List (Key × V)} (hp : H p = some (.dK kvs)) : LamX.Tabs T (upd H p o) := fun q hq => by
  obtain ⟨ps, h1, h2, h3⟩ := t q hq
  refine ⟨ps, ?_, h2, fun pos cv hcv => ?_⟩
  · rw [upd_ne fun z => by rw [z, hp] at h1; cases h1]
    exact h1
  · obtain ⟨c', e1, e2⟩ := h3 pos cv hcv
    refine ⟨c', e1, ?_⟩
    rw [upd_ne fun z => by rw [z, hp] at e2; unfold LamX.CodeO at e2; cases e2]
    exact e2
/-! ### own errors with fields, by one word -/
/-- the __init__ of an error class at C that keeps its arguments under the names fs -/
def spX (C : Addr) (fs : List Str) : Sp := fun vs H Q _ => ∃ (a : Addr) (ys : List V), vs = .ref a :: ys ∧ ys.length = fs.length ∧ H a = some (exo a C none) ∧
  ∀ (dx : Addr) (H' : Hp), H dx = none → dx ≠ a → H' a = some (exo a C (some dx)) → H' dx = some (exd dx (fs.zip ys).reverse) → (∀ b, b ≠ a → b ≠ dx → H' b = H b) → Q .non H'
section
variable (P : Program) (w : World) (K : PySem.W.Frag) (mg : Str → Option Value) (base : Heap)
structure Xer (C : Addr) (x : Str) (fs : List Str) : Prop where
  m : mg x = some (.ref C)
  oex : OexC K C
  ex : ∃ fI fd ps, PySem.W.findIn K (.ref C) "__init__" = some (some (.ref fI)) ∧ PySem.W.typeIn K (.ref fI) = some (.type "function") ∧ FnOk P w K mg base CX0 1 fI fd ps (spX C fs) ∧ Binds K fd ps []
end
theorem pa_weak {X : Cx} {es : List PySem.Expr} {ta : TA} (h : PA X es ta) : PA X es (fun σ H Q => ∃ Q0 : List V → Hp → Prop, ta σ H Q0 ∧ ∀ ys H1, Q0 ys H1 → Q ys H1) :=
  ⟨fun pos pins s σ H Q I ⟨Q0, h0, k⟩ => thn (h.run pos pins s σ H Q0 I h0) fun us s1 ⟨vs, H1, I1, r, q⟩ => ⟨vs, H1, I1, r, k _ _ q⟩⟩
section
variable {X : Cx} {C : Addr} {x : Str} {fs : List Str} {p pos : Pos} {e : PySem.Expr} {es : List PySem.Expr} {ta : TA}
theorem pmk_err (c : Xer X.prog X.w X.K X.mg X.base C x fs) (hr : Room 2 X.A) (hg : Gl X x) (ha : PA X (e :: es) ta)
    (hdb : (x == ("__debug__" : Str)) = false := by decide) (he : starEach (e :: es) X.env = (false, eval e X.env) :: starEach es X.env := by rfl) (hpl : (backTo pos (starEach es X.env)).any (·.1) = false := by rfl) :
    PMk X (.Call (.Name x p) (e :: es) [] pos) (fun σ H Q => ta σ H fun ys H1 => ys.length = fs.length ∧ ys.length ≤ 1000 ∧ ∀ d, H1 d = none → Q (.ref C) (some d) (upd H1 d (.xd (fs.zip ys).reverse))) := by
  obtain ⟨fI, fd, ps, iC, tI, F, hb⟩ := c.ex
  have h := pmk_oex (dvs := []) (ds := []) (p := p) (pos := pos) c.oex iC tI F hr hb .nil pass0 hg c.m (pa_weak ha) hdb he hpl
  intro pins s σ H Q I hq
  refine h pins s σ H Q I ?_
  refine ⟨_, hq, fun ys H1 ⟨hl, hz, k⟩ => ?_⟩
  refine ⟨hz, fun a na => ⟨a, ys ++ [], by simp, by simpa using hl, upd_same, fun dx H2 n1 n2 h1 h2 h3 => ⟨rfl, dx, _, h1, h2, ?_, ?_⟩⟩⟩
  · rw [upd_ne n2] at n1
    exact n1
  · rw [upd_ne n2] at n1
    have eH : upd (del H2 a) dx (.xd (fs.zip (ys ++ [])).reverse) = upd H1 dx (.xd (fs.zip ys).reverse) := by
      rw [List.append_nil]
      funext b
      by_cases hb : b = dx
      · rw [hb, upd_same, upd_same]
      · rw [upd_ne hb, upd_ne hb]
        by_cases ha : b = a
        · rw [ha, del_same, na]
        · rw [del_ne ha, h3 b ha hb, upd_ne ha]
    rw [eH]
    exact k dx n1
end

/-! ### what passes on in a def's body, in a lambda's, in an __init__ that says super() -/
section
variable {P : Program} {w : World} {K : PySem.W.Frag} {mg : Str → Option Value} {base : Heap} {N : List Str} {qual : Str} {scope : Scope} {f cc : Addr} {cd : Value} {A : Around} {outer : List Env} {s : Shared} {H : Hp} {E : XK}
theorem tkC : Takes (cxOf (L2.CX P w) P w K mg base N qual scope f cd A outer s H E) (fun cls d _ H => E cls d H) := takes_of rfl rfl rfl rfl
theorem passC : Passes (L2.CX P w) (cxOf (L2.CX P w) P w K mg base N qual scope f cd A outer s H E) E := passes_call tkC fun _ _ _ _ h => h
theorem tkS : Takes (cxS (L2.CX P w) P w K mg base N qual scope f cd cc A outer s H E) (fun cls d _ H => E cls d H) := takes_of rfl rfl rfl rfl
theorem passS : Passes (L2.CX P w) (cxS (L2.CX P w) P w K mg base N qual scope f cd cc A outer s H E) E := passes_call tkS fun _ _ _ _ h => h
theorem passN {X : Cx} : Passes (L2.CX P w) X (fun _ _ _ => False) := fun _ _ _ _ _ _ _ h => by
  obtain ⟨_, _, _, _, _, _, _, _, _, _, _, _, z⟩ := h
  exact z.elim
theorem tkL {X : Cx} {c' : Addr} : Takes (LamX.lamCx X A outer s H E scope f c') (fun cls d _ H => E cls d H) := takes_of rfl rfl rfl rfl
theorem passLm {X : Cx} {c' : Addr} : Passes (L2.CX X.prog X.w) (LamX.lamCx X A outer s H E scope f c') E := passes_call tkL fun _ _ _ _ h => h
end
/-! ### plain data: its type, its truth as a name -/
def tyN : PyData → String
  | .none => "NoneType"
  | .bool _ => "bool"
  | .int _ => "int"
  | .str _ => "str"
  | .list _ => "list"
  | .tuple _ => "tuple"
  | .dict _ => "dict"
theorem tyX_of {K : PySem.W.Frag} {H : Hp} {v : V} {d : PyData} (h : TV H v d) : TyX K H v (.type (tyN d)) := by
  cases h with
  | non => exact .base .non
  | bl b => exact .base (.bl b)
  | int i => exact .base (.int i)
  | str x => exact .base (.str x)
  | lst e _ => exact .base (.lst e)
  | tup e _ => exact .base (.tup e)
  | dct e _ _ => exact .base (.dK e)
def isStrD : PyData → Bool
  | .str _ => true
  | _ => false
theorem kit_str {K : PySem.W.Frag} (d : PyData) : PySem.W.kitOne K (.type (tyN d)) (.type "str") = some (isStrD d) := by
  have k1 : kitB "NoneType" "str" = some false := by decide +kernel
  have k2 : kitB "bool" "str" = some false := by decide +kernel
  have k3 : kitB "int" "str" = some false := by decide +kernel
  have k4 : kitB "str" "str" = some true := by decide +kernel
  have k5 : kitB "list" "str" = some false := by decide +kernel
  have k6 : kitB "tuple" "str" = some false := by decide +kernel
  have k7 : kitB "dict" "str" = some false := by decide +kernel
  cases d <;> first | exact kit_ty k1 | exact kit_ty k2 | exact kit_ty k3 | exact kit_ty k4 | exact kit_ty k5 | exact kit_ty k6 | exact kit_ty k7
theorem strD {d : PyData} (h : isStrD d = true) : ∃ z, d = .str z := by
  cases d <;> first | exact ⟨_, rfl⟩ | cases h
theorem tv_str {H : Hp} {v : V} {z : Str} (h : TV H v (.str z)) : v = .str z := by
  cases h
  rfl
/-- texts within are short -/
def SmD (d : PyData) : Prop := ∀ z, d = .str z → z.length ≤ 1000
/-- a def that closes over __class__ -/
structure FunS (K : PySem.W.Frag) (x qual : Str) (st : Stmt) (f : Addr) (fd : FuncData) (cda cc : Addr) : Prop where
  ex : ∃ (oc : Value) (od : Option Addr) (kV doc pm : Value) (an : Option Addr) (ct : Value) (osl : Array (Option Value)),
    fd = PySem.W.ksFn x qual (defArgs st) (defBody st) (defScope st) .none kV doc pm an (.ref cda) ct cc ∧ K.lookup f = some ⟨oc, od, .func fd, osl⟩ ∧ PySem.W.codeIn K (.ref cda) qual = true
  kp : PySem.W.keepIn K (.ref f) = true

/-! ### a comprehension that makes one item a turn; what is kept may hang on the turn -/
section
variable {J : It} {n : Nat} {G : Hp → Prop} {Y : Nat → Hp → V → Hp → Prop} {g : TG} {te : TE} {vs : List Nat} {σ : L2.St} {H1 : Hp} {D : Addr} {Qd : Hp → Prop}
theorem lc_mapI (w : Walk J n G Y) (S : List Addr) (hS : D ∈ S) (Iv : Nat → Hp → Prop) (R : Nat → V → Hp → Prop) (hn : n ≤ 100000) (hm : ∀ j y H H', Ext H H' → R j y H → R j y H')
    (hIv : ∀ i H o, Iv i H → Iv i (upd H D o)) (h0 : Iv 0 (upd H1 D (.lst []))) (hG : ∀ i H, Ext (hid S H1) (hid S H) → Iv i H → G H)
    (hs : ∀ i x H H' acc (C : VK), i < n → Ext (hid S H1) (hid S H) → Iv i H → H D = some (.lst acc) → Y i H x H' → (∀ y H4, H4 D = some (.lst acc) → Ext (hid S H) (hid S H4) → Iv (i + 1) H4 → R i y (hid S H4) → C y H4) →
      g x (wipe σ vs) H' fun σ2 H2 => wipe σ2 vs = wipe σ vs ∧ te σ2 H2 C)
    (hd : ∀ H ys, Ext (hid S H1) (hid S H) → Iv n H → H D = some (.lst ys) → ys.length = n → (∀ j y, ys[j]? = some y → R j y (hid S H)) → Qd H) :
    ∃ W : Nat → Nat → Hp → Prop, (∃ m, W 0 m (upd H1 D (.lst []))) ∧ ∀ i m H, W i m H →
      (J.stop i H ∧ Qd H) ∨ (J.go i H ∧ ∃ Nx : Hp → Prop, (∀ H', Nx H' → ∃ m', m' < m ∧ W (i + 1) m' H') ∧ ∀ x H', J.yld i H x H' → g x (wipe σ vs) H' fun σ2 H2 => wipe σ2 vs = wipe σ vs ∧ tYes σ2 H2 fun b H3 =>
        if b = true then te σ2 H3 fun y H4 => ∃ acc, H4 D = some (.lst acc) ∧ acc.length < sizeLine ∧ Nx (upd H4 D (.lst (acc ++ [y]))) else Nx H3) := by
  refine lc_it w (fun i H => ∃ ys : List V, H D = some (.lst ys) ∧ ys.length = i ∧ Ext (hid S H1) (hid S H) ∧ Iv i H ∧ ∀ j y, ys[j]? = some y → R j y (hid S H))
    ⟨[], upd_same, rfl, by rw [hid_upd hS]; exact Ext.rfl', h0, fun j y e => by simp at e⟩ (fun i H _ ⟨_, _, _, e, iv, _⟩ => hG i H e iv) ?_ ?_
  · rintro i x H H' hi ⟨ys, hD, hl, e, iv, r⟩ y
    refine hs i x H H' ys _ hi e iv hD y fun v H4 h4 e4 iv4 r4 => ?_
    refine ⟨ys, h4, Nat.lt_of_le_of_lt (show ys.length ≤ 100000 by omega) (by decide), ys ++ [v], upd_same, by rw [List.length_append, hl]; rfl, by rw [hid_upd hS]; exact e.trans e4, hIv _ _ _ iv4, fun j z hz => ?_⟩
    rw [hid_upd hS]
    by_cases hj : j < ys.length
    · rw [List.getElem?_append_left hj] at hz
      exact hm j z _ _ e4 (r j z hz)
    · rw [List.getElem?_append_right (by omega)] at hz
      have : j = i := by
        cases q : j - ys.length with
        | zero => omega
        | succ k => rw [q] at hz; simp at hz
      subst this
      rw [hl] at hz
      simp at hz
      subst hz
      exact r4
  · rintro H ⟨ys, hD, hl, e, iv, r⟩
    exact hd H ys e iv hD hl r
end

/-! ### C.m(a = v), m a classmethod -/
section
variable (P : Program) (w : World) (K : PySem.W.Frag) (mg : Str → Option Value) (base : Heap) (CX : CXT) (k : Nat)
structure ClmK (C : Addr) (m a : Str) (sp : Sp) : Prop where
  ex : ∃ mc p g fd c, ClX.CRead K C mc ∧ ClX.CMet K C mc m p g ∧ FnOk P w K mg base CX k g fd [c, a] sp ∧ ∀ (s : Shared) (u : Value), BindsTo s fd ⟨[.ref C], [(a, u)]⟩ [(c, .ref C), (a, u)]
end
section
variable {X : Cx} {CX : CXT} {k : Nat} {C : Addr} {sp : Sp} {E : XK} {m a : Str} {pos apos : Pos} {o : PySem.Expr} {kws : List Keyword} {ta : TE} {tk : TA} {pl : Sem Bool}
theorem pe_clmk (c : ClmK X.prog X.w X.K X.mg X.base CX k C m a sp) (hr : Room k X.A) (ho : PE X o ta) (hx : Passes CX X E) (hkw : PK X kws tk)
    (hall : (backToKw pos (keywordEach kws X.env)).all (·.1.isSome) = true := by rfl) (hks : (backToKw pos (keywordEach kws X.env)).filterMap (·.1) = [a] := by rfl)
    (hpl : ((backTo pos (starEach [] X.env)).any (·.1) || (backToKw pos (keywordEach kws X.env)).any (·.1.isNone)) = false := by rfl)
    (ht : eval (.Call (.Attribute o m apos) [] kws pos) X.env = (do
      let ov ← eval o X.env
      standAt apos.atName
      let (f, first) ← holding [ov] (getMethod ov m pl)
      callWith pos f first (backTo pos (starEach [] X.env)) (backToKw pos (keywordEach kws X.env))) := by rfl) :
    PE X (.Call (.Attribute o m apos) [] kws pos) (fun σ H Q => ta σ H fun x H1 => x = .ref C ∧ tk σ H1 fun zs H2 => ∃ z, zs = [z] ∧ sp [.ref C, z] H2 Q E) := by
  obtain ⟨mc, p, g, fd, cn, r, c, F, hb⟩ := c.ex
  refine ⟨fun pins s σ H Q I h => ?_⟩
  refine PySem.W.methodCall_KW (pl := pl) (thn (ho.run pins s σ H _ I h) fun u s1 ⟨x, H1, I1, rx, ex, q⟩ => ?_) ht
  subst ex
  obtain rfl : u = Value.ref C := rx
  refine ClX.getmethcm_ok I1 r c fun s2 I2 => ?_
  refine PySem.W.callWith_of (P := PySem.W.MethP X.K s1.heap.objs.size g (.ref C)) hpl (PySem.W.keeps_M c.fi) (evalArgs_kw2_nil hall ?_)
  refine thn (hkw.run pos _ s2 σ H1 _ I2 q) fun ws s3 ⟨zs, H2, I3, rz, z, ez, q3⟩ => ?_
  subst ez
  refine ⟨⟨ClX.pin_at I3, I3.kIn⟩, ?_⟩
  rw [hks]
  obtain ⟨u, rfl, ru⟩ := vals1 rz
  have r2 : Vals [V.ref C, z] [Value.ref C, u] := .cons rfl (.cons ru .nil)
  have run := F.run X.A X.stack s3 H2 ⟨[.ref C], [(a, u)]⟩ [.ref C, u] [.ref C, z] Q E hr I3.env0 (hb s3 u) r2 q3
  have z2 : wpAny (model X.prog X.w) X.A (call (.ref s1.heap.objs.size) [] [(a, u)]) (EP X ((s1.heap.objs.size, PySem.W.methodObj (.ref g) (.ref C)) :: pins) σ Q) X.xe s3 := by
    refine wpAny_call (PySem.W.method_call (ClX.pin_at I3) (codeAny_mono run fun res s' hq => ?_))
    match res, hq with
    | .error e, hq => exact hx _ σ H2 s3 e s' I3 hq
    | .ok (.ret u), hq => exact I3.after hq
  exact thn z2 fun _ _ y => ClX.unpinE y
end

mutual
theorem tv_vis {H : Hp} : ∀ {v : V} {d : PyData}, TV H v d → TV (vis [] H) v d
  | _, _, .non => .non
  | _, _, .bl b => .bl b
  | _, _, .int i => .int i
  | _, _, .str x => .str x
  | _, _, .lst q h => .lst (vis_at (by simp) q fun _ z => by cases z) (tvs_vis h)
  | _, _, .tup q h => .tup (vis_at (by simp) q fun _ z => by cases z) (tvs_vis h)
  | _, _, .dct q h1 h2 => .dct (vis_at (by simp) q fun _ z => by cases z) (tvs_vis h1) (tvs_vis h2)
theorem tvs_vis {H : Hp} : ∀ {vs : List V} {ds : List PyData}, TVs H vs ds → TVs (vis [] H) vs ds
  | _, _, .nil => .nil
  | _, _, .cons h hs => .cons (tv_vis h) (tvs_vis hs)
end
end Ls
end
section
set_option Elab.async false
set_option linter.all false
set_option maxRecDepth 100000
set_option maxHeartbeats 4000000
namespace Ls
open PySem PySem.Spec PyProof.Rows L2

/-! ### x == y and x != y by an own __eq__, both answers, y of any kind -/
namespace OW
open PySem.W
section
variable {prog : Program} {w : World} {A : Around} {E : Value → Shared → Prop} {s : Shared} {K : Frag} {x C f : Addr} {ox : Obj} {od : Option Obj} {b tb : Value}
theorem ifBound_B {M : Model} {id : String} {name : Str} {args : List Value} {Q : Option Value → Shared → Prop} (X : K.In s.heap) (I : InstAt s.heap x ox C od) (hs : findIn K (.ref C) name = some (some (.builtin id))) (hb : bindSpecial (.builtin id) (.ref x) = pure (.builtin id, [.ref x]))
    (h : wpAny M A (call (.builtin id) (.ref x :: args)) (fun v => Q (some v)) E s) : wpAny M A (callSpecialIfBound? (.ref x) name args) Q E s := by
  simp only [callSpecialIfBound?, bindSpecialIfBound?]
  refine wpAny_holding (wpAny_bind (wpAny_bind (wpAny_bind (I.type.here ((looks_findIn X hs).here ?_)))))
  refine wpAny_bind (wpAny_askSetting (wpAny_ite ?_))
  have last : wpAny M A (call (.builtin id) ([.ref x] ++ args) >>= fun v => pure (some v)) Q E s := wpAny_bind (wpAny_mono h (fun v s' h' => wpAny_pure h') fun _ _ h' => h')
  split
  · exact wpAny_bind (wpAny_of_eq hb (wpAny_pure (by exact last)))
  · exact wpAny_tryCatch (wpAny_bind (wpAny_of_eq hb (wpAny_pure (by exact last))))
theorem ne_body {Q : Fin → Shared → Prop} (hu : A.units < cLine) (X : K.In s.heap) (I : InstAt s.heap x ox C od) (hs : findIn K (.ref C) "__eq__" = some (some (.ref f))) (hf : isFn K (.ref f) = true)
    (h : wpAny (model prog w) A (call (.ref f) [.ref x, b]) (fun v s' => ∃ r, v = .bool r ∧ Q (.done (.ret (.bool (!r)))) s') E s) : wpAny (model prog w) A (Builtin.«object.__ne__» ⟨[.ref x, b], []⟩) Q E s := by
  unfold Builtin.«object.__ne__»
  refine wpAny_bind (wpAny_of_eq (a := ((Value.ref x : Value), [b])) (by first | rfl | (simp only [slotArgs]; rfl)) ?_)
  refine wpAny_bind (wpAny_cRoomFor hu ?_)
  refine wpAny_bind (ifBound_K X I hs hf (wpAny_mono h (fun v s' hv => ?_) fun _ _ e => e))
  obtain ⟨r, rfl, q⟩ := hv
  exact wpAny_bind (wpAny_truthy_bool (wpAny_pure q))
theorem rich_ne {L : Addr} {h₀ : Heap} {m : Str → Option Value} {Q : Value → Shared → Prop} (hu : A.units + 1 < cLine) (F : Fr h₀ L s.heap m) (X₀ : K.In h₀) (I : InstAt s.heap x ox C od) (ht : Looks (model prog w) s.heap (typeOf b) tb) (hn : notFirst K C tb = true)
    (hs : findIn K (.ref C) "__eq__" = some (some (.ref f))) (hf : isFn K (.ref f) = true) (hne : findIn K (.ref C) "__ne__" = some (some (.builtin "object.__ne__"))) (hm : mroIn K C (.type "object") = some true)
    (h : wpAny (model prog w) A.in1 (call (.ref f) [.ref x, b]) (fun v s' => ∃ r, v = .bool r ∧ Q (.bool (!r)) s') E s) : wpAny (model prog w) A (richCompare .NotEq (.ref x) b) Q E s := by
  have X := X₀.keeps F.keep
  have sub : Looks (model prog w) s.heap (isInstance (.ref x) (.type "object")) true := I.type.andThen (looks_mroIn X hm)
  have bd : bindSpecial (.builtin "object.__ne__") (.ref x) = pure (.builtin "object.__ne__", [.ref x]) := PySem.F.cmp_object.ne.bind _
  have one : wpAny (model prog w) A (tryCompare (.ref x) "__ne__" b) (fun r s' => ∃ v, r = some (.bool v) ∧ Q (.bool v) s') E s := by
    unfold tryCompare
    refine wpAny_bind (ifBound_B X I hne bd ?_)
    obtain ⟨hp, g, d, t, os⟩ := s
    refine wpAny_call (codeAny_call_builtin PySem.F.cmp_object.ne.plain PySem.F.cmpEntry_ne (@check_slot (model prog w) _ _ ⟨hp, g, d, t, os⟩ "object.__ne__" "object" "__ne__" (.ref x) [b] [] _ PySem.F.cmpKind_ne PySem.F.cmpSplit_ne sub (PySem.F.cmpArgs_ne _ _) ?_))
    refine ne_body (A := A.in1) hu X I hs hf (wpAny_mono h (fun v s' hv => ?_) fun _ _ e => e)
    obtain ⟨r, rfl, q⟩ := hv
    exact ⟨r, rfl, wpAny_pure ⟨_, rfl, q⟩⟩
  unfold richCompare
  simp only [oneThing_ref]
  refine wpAny_holding (wpAny_bind (wpAny_cRoomFor (by omega) (wpAny_bind (I.type.here (wpAny_bind (ht.here ?_))))))
  split
  · rename_i q
    have e : subIn K tb (.ref C) = some false := by
      rcases Bool.or_eq_true_iff.mp hn with e | e
      · rw [beq_iff_eq.mp e] at q
        simp at q
      · exact beq_iff_eq.mp e
    refine wpAny_bind ((looks_subIn X e).here ?_)
    simp only [Bool.false_eq_true, if_false]
    refine wpAny_bind (wpAny_mono one (fun r s' z => ?_) fun _ _ e => e)
    obtain ⟨v, rfl, hq⟩ := z
    exact wpAny_pure hq
  · refine wpAny_bind (wpAny_pure ?_)
    simp only [Bool.false_eq_true, if_false]
    refine wpAny_bind (wpAny_mono one (fun r s' z => ?_) fun _ _ e => e)
    obtain ⟨v, rfl, hq⟩ := z
    exact wpAny_pure hq
end
end OW
/-- x == y: x an instance, its class's own __eq__ at f keeps sp -/
def rEqO (K : PySem.W.Frag) (f : Addr) (sp : Sp) (E : XK) : R2 := fun x y H Q => ∃ (a C dx : Addr) (fs : List (Str × V)) (tb : Value), x = .ref a ∧ H a = some (.ins C dx fs) ∧ PySem.W.findIn K (.ref C) "__eq__" = some (some (.ref f)) ∧ TyX K H y tb ∧ PySem.W.notFirst K C tb = true ∧
  sp [x, y] H (fun v H' => ∃ r, v = .bl r ∧ Q (.bl r) H') E
def rNeO (K : PySem.W.Frag) (f : Addr) (sp : Sp) (E : XK) : R2 := fun x y H Q => ∃ (a C dx : Addr) (fs : List (Str × V)) (tb : Value), x = .ref a ∧ H a = some (.ins C dx fs) ∧ PySem.W.findIn K (.ref C) "__eq__" = some (some (.ref f)) ∧ PySem.W.findIn K (.ref C) "__ne__" = some (some (.builtin "object.__ne__")) ∧ PySem.W.mroIn K C (.type "object") = some true ∧
  TyX K H y tb ∧ PySem.W.notFirst K C tb = true ∧ sp [x, y] H (fun v H' => ∃ r, v = .bl r ∧ Q (.bl (!r)) H') E
section
variable {X : Cx} {CX : CXT} {n : Nat} {f : Addr} {sp : Sp} {E : XK}
theorem op_eqO (F : FnR X.prog X.w X.K X.mg X.base CX n f sp) (hf : PySem.W.isFn X.K (.ref f) = true) (hr : Room n X.A) (hx : Passes CX X E) : OpR X (compareOp .Eq) (rEqO X.K f sp E) := by
  intro pins s σ H x y v u Q I rx ry h
  obtain ⟨a, C, dx, fs, tb, rfl, ha, hs, ty, hn, q⟩ := h
  cases (show v = Value.ref a from rx)
  obtain ⟨mA, J, _⟩ := ins_get I.hok ha
  obtain ⟨od, J, _⟩ := J.look
  obtain ⟨m, hF⟩ := I.fr
  obtain ⟨P, Z, p, _⟩ := kit_of I ry ty
  show wpAny (model X.prog X.w) X.A (richCompare .Eq (.ref a) u) (EP X pins σ Q) X.xe s
  refine PySem.W.cmp_K (op := .Eq) hr.units0 hF I.ok.mod.kin J (Z.ty _ _ I.kIn p) hn hs hf ?_
  have r2 : Vals [V.ref a, y] [Value.ref a, u] := .cons rfl (.cons ry .nil)
  refine thn (wpAny_call (run_fnR F hr hx I r2 q)) fun w' s' ⟨z, H', I', rz, r, ez, q'⟩ => ?_
  subst ez
  cases rz
  exact ⟨.bl r, H', I', rfl, q'⟩
theorem op_neO (F : FnR X.prog X.w X.K X.mg X.base CX n f sp) (hf : PySem.W.isFn X.K (.ref f) = true) (hr : Room (n + 1) X.A) (hx : ∀ (pins : List (Addr × Obj)) (σ : L2.St) (H : Hp) (s : Shared) (e : Value) (s' : Shared), Inv X pins σ H s → CX X.stack H s E e s' → X.xe e s') : OpR X (compareOp .NotEq) (rNeO X.K f sp E) := by
  intro pins s σ H x y v u Q I rx ry h
  obtain ⟨a, C, dx, fs, tb, rfl, ha, hs, hne, hm, ty, hn, q⟩ := h
  cases (show v = Value.ref a from rx)
  obtain ⟨mA, J, _⟩ := ins_get I.hok ha
  obtain ⟨od, J, _⟩ := J.look
  obtain ⟨m, hF⟩ := I.fr
  obtain ⟨P, Z, p, _⟩ := kit_of I ry ty
  show wpAny (model X.prog X.w) X.A (richCompare .NotEq (.ref a) u) (EP X pins σ Q) X.xe s
  refine OW.rich_ne (by have := hr.units; omega) hF I.ok.mod.kin J (Z.ty _ _ I.kIn p) hn hs hf hne hm ?_
  refine wpAny_call (codeAny_mono (F X.A.in1 X.stack s H [.ref a, u] [.ref a, y] _ E hr.in1 I.env0.in1 (.cons rfl (.cons ry .nil)) q) fun r s' hq => ?_)
  match r, hq with
  | .error e, hq => exact hx pins σ H s e s' I hq
  | .ok (.ret w'), hq =>
    obtain ⟨z, H', I', rz, r, ez, q'⟩ := I.after hq
    subst ez
    cases rz
    exact ⟨r, rfl, .bl (!r), H', I', rfl, q'⟩
end

/-! ### the same, the written part by its own name (for a block) -/
section
variable {X : Cx} {P : Program} {w : World} {K : PySem.W.Frag} {mg : Str → Option Value} {base : Heap} {CX : CXT} {n : Nat} {f : Addr} {sp : Sp} {E : XK} {A : Around}
theorem op_eqOK (F : FnR P w K mg base CX n f sp) (hf : PySem.W.isFn K (.ref f) = true) (hr : Room n A) (hP : X.prog = P) (hw : X.w = w) (hK : X.K = K) (hmg : X.mg = mg) (hb : X.base = base) (hA : X.A = A) (hx : Passes CX X E) : OpR X (compareOp .Eq) (rEqO K f sp E) := by
  subst hP hw hK hmg hb hA
  exact op_eqO F hf hr hx
theorem ix_listK (hK : X.K = K) : IxR X (rIxL K) := by
  subst hK
  exact ix_list
end
end Ls
end
section
set_option Elab.async false
set_option linter.all false
set_option maxRecDepth 100000
set_option maxHeartbeats 4000000
namespace Ls
open PySem PySem.Spec PyProof.Rows L2
open TL
/-! ### a text cut at one sign -/
theorem pre1 (s c : Nat) (r : List Nat) : pre [s] (c :: r) = decide (c = s) := by
  show ((c :: r).take 1 == [s]) = _
  by_cases h : c = s
  · subst h
    simp
  · have : ¬ [c] = [s] := fun e => h (List.cons.inj e).1
    simp [h]
theorem spl1_ne (s : Nat) : ∀ (l acc : List Nat), spl [s] 0 acc l ≠ []
  | [], acc => by rw [spl_nil]; simp
  | c :: r, acc => by
    by_cases h : c = s
    · rw [spl_hit (by rw [pre1, decide_eq_true h])]
      simp
    · rw [spl_miss (by rw [pre1, decide_eq_false h])]
      exact spl1_ne s r _
theorem joinL_cons (S a : List Nat) : ∀ {l : List (List Nat)}, l ≠ [] → joinL S (a :: l) = a ++ (S ++ joinL S l)
  | [], h => absurd rfl h
  | b :: r, _ => rfl
theorem spl1_join (s : Nat) : ∀ (l acc : List Nat), joinL [s] (spl [s] 0 acc l) = acc ++ l
  | [], acc => by
    rw [spl_nil, List.append_nil]
    rfl
  | c :: r, acc => by
    by_cases h : c = s
    · rw [spl_hit (by rw [pre1, decide_eq_true h])]
      show joinL [s] (acc :: spl [s] 0 [] r) = _
      rw [joinL_cons _ _ (spl1_ne s r []), spl1_join s r []]
      subst h
      simp
    · rw [spl_miss (by rw [pre1, decide_eq_false h]), spl1_join s r (acc ++ [c])]
      simp
theorem spl1_free (s : Nat) : ∀ (l acc : List Nat), s ∉ acc → ∀ p ∈ spl [s] 0 acc l, s ∉ p
  | [], acc, ha, p, hp => by
    rw [spl_nil] at hp
    rw [List.mem_singleton.mp hp]
    exact ha
  | c :: r, acc, ha, p, hp => by
    by_cases h : c = s
    · rw [spl_hit (by rw [pre1, decide_eq_true h])] at hp
      rcases List.mem_cons.mp hp with e | e
      · rw [e]
        exact ha
      · exact spl1_free s r [] (by simp) p e
    · rw [spl_miss (by rw [pre1, decide_eq_false h])] at hp
      exact spl1_free s r _ (by simp [ha, Ne.symm h]) p hp
theorem spl1_sub (s : Nat) : ∀ (l acc : List Nat), ∀ p ∈ spl [s] 0 acc l, p.length ≤ acc.length + l.length ∧ ∀ c ∈ p, c ∈ acc ∨ c ∈ l
  | [], acc, p, hp => by
    rw [spl_nil] at hp
    rw [List.mem_singleton.mp hp]
    exact ⟨Nat.le_refl _, fun c h => .inl h⟩
  | c :: r, acc, p, hp => by
    by_cases h : c = s
    · rw [spl_hit (by rw [pre1, decide_eq_true h])] at hp
      rcases List.mem_cons.mp hp with e | e
      · rw [e]
        exact ⟨by omega, fun c h => .inl h⟩
      · obtain ⟨h1, h2⟩ := spl1_sub s r [] p e
        refine ⟨by simp at h1 ⊢; omega, fun c h => (h2 c h).elim (fun z => absurd z (by simp)) fun z => .inr (by simp [z])⟩
    · rw [spl_miss (by rw [pre1, decide_eq_false h])] at hp
      obtain ⟨h1, h2⟩ := spl1_sub s r _ p hp
      refine ⟨by simp at h1 ⊢; omega, fun c' h => (h2 c' h).elim (fun z => ?_) fun z => .inr (by simp [z])⟩
      rcases List.mem_append.mp z with z | z
      · exact .inl z
      · exact .inr (by simp at z; simp [z])
section
variable {x y : Str} {s : Nat}
theorem split_tl (ey : tl y = [s]) (hk : y.cps.all (· < 256) = true) : (Txt.split x y).map tl = spl [s] 0 [] (tl x) := by
  rw [split_spl x y (by rw [ey]; simp) (kind_ok hk), ey]
theorem split_back (ey : tl y = [s]) (hk : y.cps.all (· < 256) = true) : Txt.join y (Txt.split x y) = x := by
  refine ext_tl ?_
  rw [join_eq, tl_join, ey, split_tl ey hk, spl1_join]
  rfl
theorem split_free (ey : tl y = [s]) (hk : y.cps.all (· < 256) = true) {p : Str} (hp : p ∈ Txt.split x y) : s ∉ tl p := by
  have h : tl p ∈ (Txt.split x y).map tl := List.mem_map.mpr ⟨p, hp, rfl⟩
  rw [split_tl ey hk] at h
  exact spl1_free s _ _ (by simp) _ h
theorem split_sub (ey : tl y = [s]) (hk : y.cps.all (· < 256) = true) {p : Str} (hp : p ∈ Txt.split x y) : p.length ≤ x.length ∧ ∀ c ∈ tl p, c ∈ tl x := by
  have h : tl p ∈ (Txt.split x y).map tl := List.mem_map.mpr ⟨p, hp, rfl⟩
  rw [split_tl ey hk] at h
  obtain ⟨h1, h2⟩ := spl1_sub s _ _ _ h
  refine ⟨?_, fun c hc => (h2 c hc).elim (fun z => absurd z (by simp)) fun z => z⟩
  rw [len_tl p, len_tl x]
  simpa using h1
theorem split_ne (ey : tl y = [s]) (hk : y.cps.all (· < 256) = true) : Txt.split x y ≠ [] := fun e => by
  have h := split_tl (x := x) ey hk
  rw [e] at h
  exact spl1_ne s _ _ h.symm
end
theorem sp_tl : tl (" " : Str) = [32] := by decide +kernel
theorem sp_kd : (" " : Str).cps.all (· < 256) = true := by decide +kernel
theorem split2 {z a b : Str} (h : Txt.split z " " = [a, b]) : z = a ++ " " ++ b := by
  have e := split_back (x := z) sp_tl sp_kd
  rw [h, join_eq] at e
  exact e.symm
theorem split_two {a b : Str} (ha : (32 : Nat) ∉ tl a) (hb : (32 : Nat) ∉ tl b) : Txt.split (a ++ " " ++ b) " " = [a, b] := by
  have e : a ++ " " ++ b = Txt.join " " [a, b] := by rw [join_eq]; rfl
  rw [e]
  exact split_join sp_tl sp_kd (by simp) (by
    intro p hp
    rcases List.mem_cons.mp hp with rfl | hp
    · exact ha
    · rw [List.mem_singleton.mp hp]; exact hb)
/-! ### short texts of plain signs -/
def OkS (n : Nat) (z : Str) : Prop := z.length ≤ n ∧ ∀ c ∈ tl z, c < 256
theorem OkS.mono {n m : Nat} {z : Str} (h : OkS n z) (l : n ≤ m) : OkS m z := ⟨Nat.le_trans h.1 l, h.2⟩
theorem OkS.append {n m : Nat} {a b : Str} (h : OkS n a) (k : OkS m b) : OkS (n + m) (a ++ b) := ⟨by
  rw [Str.length_append]
  exact Nat.add_le_add h.1 k.1, fun c hc => by
  rw [tl_append] at hc
  rcases List.mem_append.mp hc with hc | hc
  · exact h.2 c hc
  · exact k.2 c hc⟩
theorem OkS.part {n : Nat} {x y p : Str} {s : Nat} (h : OkS n x) (ey : tl y = [s]) (hk : y.cps.all (· < 256) = true) (hp : p ∈ Txt.split x y) : OkS n p :=
  let ⟨h1, h2⟩ := split_sub ey hk hp
  ⟨Nat.le_trans h1 h.1, fun c hc => h.2 c (h2 c hc)⟩
/-- plain data that repr can show -/
structure Shw (n : Nat) (d : PyData) : Prop where
  sh : d.showable = true
  dp : d.depth ≤ 20
  ln : d.shown.length ≤ n
theorem Shw.str {n : Nat} {z : Str} (h : OkS n z) : Shw (10 * n + 2) (.str z) := ⟨rfl, Nat.zero_le _, by
  have := StrLaws.reprText_len z fun c hc => Nat.lt_trans (h.2 c hc) (by decide)
  show (reprText z).length ≤ _
  have := h.1
  omega⟩
theorem Shw.mono {n m : Nat} {d : PyData} (h : Shw n d) (l : n ≤ m) : Shw m d := ⟨h.sh, h.dp, Nat.le_trans h.ln l⟩
theorem Shw.list1 {n : Nat} {a : PyData} (ha : Shw n a) (hd : a.depth < 20) : Shw (n + 5) (.list [a]) := ⟨by
  show (a.showable && true) = true
  rw [ha.sh]
  rfl, by
  show max a.depth 0 + 1 ≤ 20
  omega, by
  have := listText_len_le [a.shown]
  have := ha.ln
  show (listText [a.shown]).length ≤ _
  simp at *
  omega⟩
theorem Shw.tup1 {n : Nat} {a : PyData} (ha : Shw n a) (hd : a.depth < 20) : Shw (n + 5) (.tuple [a]) := ⟨by
  show (a.showable && true) = true
  rw [ha.sh]
  rfl, by
  show max a.depth 0 + 1 ≤ 20
  omega, by
  have := tupleText_len_le [a.shown]
  have := ha.ln
  show (tupleText [a.shown]).length ≤ _
  simp at *
  omega⟩
theorem Shw.list2 {n m : Nat} {a b : PyData} (ha : Shw n a) (hb : Shw m b) (hd : a.depth < 20) (hd2 : b.depth < 20) : Shw (n + m + 7) (.list [a, b]) := ⟨by
  show (a.showable && (b.showable && true)) = true
  rw [ha.sh, hb.sh]
  rfl, by
  show max a.depth (max b.depth 0) + 1 ≤ 20
  omega, by
  have := listText_len_le [a.shown, b.shown]
  have := ha.ln
  have := hb.ln
  show (listText [a.shown, b.shown]).length ≤ _
  simp at *
  omega⟩
theorem Shw.tup2 {n m : Nat} {a b : PyData} (ha : Shw n a) (hb : Shw m b) (hd : a.depth < 20) (hd2 : b.depth < 20) : Shw (n + m + 7) (.tuple [a, b]) := ⟨by
  show (a.showable && (b.showable && true)) = true
  rw [ha.sh, hb.sh]
  rfl, by
  show max a.depth (max b.depth 0) + 1 ≤ 20
  omega, by
  have := tupleText_len_le [a.shown, b.shown]
  have := ha.ln
  have := hb.ln
  show (tupleText [a.shown, b.shown]).length ≤ _
  simp at *
  omega⟩

theorem joinL_nil : ∀ l : List (List Nat), joinL [] l = l.flatten
  | [] => rfl
  | [a] => by simp [joinL]
  | a :: b :: r => by
    rw [joinL_cons _ _ (by simp), joinL_nil (b :: r)]
    simp
/-- single signs put together -/
theorem join_signs {cs : List Nat} : tl (Txt.join "" (cs.map fun c => (⟨#[c]⟩ : Str))) = cs := by
  have e0 : tl ("" : Str) = [] := by decide +kernel
  rw [join_eq, tl_join, e0, joinL_nil, List.map_map]
  have : ∀ l : List Nat, (l.map (tl ∘ fun c => (⟨#[c]⟩ : Str))).flatten = l := fun l => by
    induction l with
    | nil => rfl
    | cons c r ih =>
      rw [List.map_cons, List.flatten_cons, ih]
      rfl
  exact this cs
end Ls
end
section
set_option Elab.async false
set_option linter.all false
set_option maxRecDepth 100000
set_option maxHeartbeats 4000000
namespace K18
open PySem PySem.Spec PyProof.Rows L2 Ls
open C8 (pss_cut tCut)
def top (i : Nat) : Stmt := PySem.Challenge.pw_loopstow_k18_moves.main.body.getD i (.Pass ⟨0, 0, 0, 0⟩)
def bns : List Str := ["len", "int", "abs", "list", "str", "isinstance", "all", "enumerate", "range", "tuple", "super", "repr", "ValueError"]
def lettersS : Str := "abcdefghijklmnopqrstuvwxyz"
/-- what the top has left, for the defs -/
structure Tx (K : PySem.W.Frag) (mg : Str → Option Value) (CM CB CL CA CS CF CE CN CD : Addr) (tL tN : Tok) : Prop where
  bn : ∀ x ∈ bns, mg x = none
  m_LETTERS : mg "LETTERS" = some (.str lettersS tL)
  m_LONGEST_NAME : mg "LONGEST_NAME" = some (.int 6 tN)
  m_Move : mg "Move" = some (.ref CM)
  m_Bring : mg "Bring" = some (.ref CB)
  m_Load : mg "Load" = some (.ref CL)
  m_Again : mg "Again" = some (.ref CA)
  m_Store : mg "Store" = some (.ref CS)
  m_Forget : mg "Forget" = some (.ref CF)
  m_StowError : mg "StowError" = some (.ref CE)
  m_BadName : mg "BadName" = some (.ref CN)
  m_BadMove : mg "BadMove" = some (.ref CD)

/-! ### the pen -/
/-- a pen stands at p, its cells at c; at most n cells were read -/
def PenAt (H : Hp) (p c : Addr) (n : Nat) : Prop := ∃ (ns : List Int) (a r : Int), H p = some (.lst [.ref c, .int a, .int r]) ∧ H c = some (.lst (ns.map V.int)) ∧ p ≠ c ∧ 0 ≤ a ∧ a ≤ n ∧ 0 ≤ r ∧ ns.length ≤ 63
theorem PenAt.mono {H : Hp} {p c : Addr} {n m : Nat} (h : PenAt H p c n) (l : n ≤ m) : PenAt H p c m := let ⟨ns, a, r, h1, h2, h3, h4, h5, h6, h7⟩ := h; ⟨ns, a, r, h1, h2, h3, h4, by omega, h6, h7⟩
def spDraw : Sp := fun vs H Q _ => ∃ (p c : Addr) (n : Nat) (many : Int), vs = [.ref p, .int many] ∧ PenAt H p c n ∧ n < 1048576 ∧ 0 < many ∧ many < 1073741824 ∧
  ∀ (j : Int) (H' : Hp), 0 ≤ j → j < many → PenAt H' p c (n + 1) → Keep p c H H' → Q (.int j) H'
section
variable {P : Program} {w : World} {K : PySem.W.Frag} {mg : Str → Option Value} {base : Heap} {CM CB CL CA CS CF CE CN CD : Addr} {tL tN : Tok}
abbrev s__law_draw : Stmt := top 18
abbrev N__law_draw : List Str := ["_law_pen_here", "_law_many", "_law_digit", "_law_at", "_law_cell", "_law_great", "_law_mixed"]
theorem sc__law_draw : FnScope N__law_draw ["_law_pen_here", "_law_many"] (defScope s__law_draw) := ⟨rfl, rfl, rfl, by decide +kernel, rfl, by decide +kernel, by decide +kernel⟩
theorem pow18 : ((10 : Int) ^ (18 : Int).toNat) = 1000000000000000000 := by decide +kernel
theorem ok_draw {f : Addr} {fd : FuncData} (F : Fun K "_law_draw" "_law_draw" s__law_draw f fd) (T : Tx K mg CM CB CL CA CS CF CE CN CD tL tN) : FnOk P w K mg base CX0 1 f fd ["_law_pen_here", "_law_many"] spDraw := by
  refine F.ok sc__law_draw (fun vs H Q E h => ?_) (fun cdv A outer s H vs Q E hr h => ?_)
  · obtain ⟨p, c, n, many, rfl, _⟩ := h
    rfl
  · obtain ⟨p, c, n, many, rfl, ⟨ns, a, r, hp, hc, npc, a0, an, r0, hz⟩, n1, m0, m1, k⟩ := h
    have hu := hu_of hr
    refine ⟨_, (pss_cons (ps_if (pt_cmpR op_gt (pe_ix ix_list (pv 0) pe_int (fun _ _ => rfl)) pe_int (nomark _)) (pss_cons (ps_set (i := 2) sc__law_draw.nd rfl (by first | exact Or.inl rfl | exact Or.inr rfl) (pe_op op_mod (pe_callTy call_int1 (by rfl) (T.bn _ (by decide +kernel)) (by decide +kernel) (pa_cons (pe_ix ix_list (pv 0) pe_int (fun _ _ => rfl)) pa_nil)) (pv 1)))
      (pss_cons (ps_asg (pe_op op_fdiv (pe_callTy call_int1 (by rfl) (T.bn _ (by decide +kernel)) (by decide +kernel) (pa_cons (pe_ix ix_list (pv 0) pe_int (fun _ _ => rfl)) pa_nil)) (pv 1)) (pg_sub (pv 0) pe_int set_list))
      (pss_one (ps_ret (pv 2))))) pss_nil)
      (pss_cons (ps_set (i := 3) sc__law_draw.nd rfl (by first | exact Or.inl rfl | exact Or.inr rfl) (pe_ix ix_list (pv 0) pe_int (fun _ _ => rfl)))
      (pss_cons (ps_asg (pe_op op_add (pv 3) pe_int) (pg_sub (pv 0) pe_int set_list))
      (pss_cons (ps_set (i := 4) sc__law_draw.nd rfl (by first | exact Or.inl rfl | exact Or.inr rfl) (pe_op op_add (pe_op op_mul pe_int (pv 3)) pe_int))
      (pss_cut (ps_if (pt_cmpR (op_neNil hr) (pe_ix ix_list (pv 0) pe_int (fun _ _ => rfl)) (pe_lst pa_nil) (nomark _)) (pss_one (ps_set (i := 4) sc__law_draw.nd rfl (by first | exact Or.inl rfl | exact Or.inr rfl) (pe_ix ix_list (pe_ix ix_list (pv 0) pe_int (fun _ _ => rfl)) (pe_op op_mod (pe_callTy call_int1 (by rfl) (T.bn _ (by decide +kernel)) (by decide +kernel) (pa_cons (pv 3) pa_nil)) (pe_callB call_len_seq (by rfl) (T.bn _ (by decide +kernel)) (by decide +kernel) (pa_cons (pe_ix ix_list (pv 0) pe_int (fun _ _ => rfl)) pa_nil))) (fun _ _ => rfl)))) pss_nil)
      (pss_cut (ps_if ((pw_and (pt_cmpR op_lt (pv 3) (pe_callB call_len_seq (by rfl) (T.bn _ (by decide +kernel)) (by decide +kernel) (pa_cons (pe_ix ix_list (pv 0) pe_int (fun _ _ => rfl)) pa_nil)) (nomark _)) (pw_and1 (pt_cmpR op_ge (pe_callB call_abs (by rfl) (T.bn _ (by decide +kernel)) (by decide +kernel) (pa_cons (pv 4) pa_nil)) (pe_op op_pow pe_int pe_int) (nomark _))))).pt (pss_cons (ps_set (i := 5) sc__law_draw.nd rfl (by first | exact Or.inl rfl | exact Or.inr rfl) (pe_op op_add (pe_op op_mul pe_int (pe_callB call_abs (by rfl) (T.bn _ (by decide +kernel)) (by decide +kernel) (pa_cons (pv 4) pa_nil))) (pe_callTy call_int1 (by rfl) (T.bn _ (by decide +kernel)) (by decide +kernel) (pa_cons (pe_cmpR op_lt (pv 4) pe_int (nomark _)) pa_nil))))
      (pss_cons (ps_asg (pe_op op_fdiv (pv 5) (pv 1)) (pg_sub (pv 0) pe_int set_list))
      (pss_one (ps_ret (pe_op op_mod (pe_callTy call_int1 (by rfl) (T.bn _ (by decide +kernel)) (by decide +kernel) (pa_cons (pv 5) pa_nil)) (pv 1)))))) pss_nil)
      (pss_cons (ps_set (i := 6) sc__law_draw.nd rfl (by first | exact Or.inl rfl | exact Or.inr rfl) (pe_op op_mod (pe_callTy call_int1 (by rfl) (T.bn _ (by decide +kernel)) (by decide +kernel) (pa_cons (pe_op op_pow (pe_op op_add (pe_op op_add (pe_op op_mod (pe_callTy call_int1 (by rfl) (T.bn _ (by decide +kernel)) (by decide +kernel) (pa_cons (pv 4) pa_nil)) pe_int) (pe_op op_mul pe_int (pv 3))) pe_int) pe_int) pa_nil)) pe_int))
      (pss_cons (ps_set (i := 6) sc__law_draw.nd rfl (by first | exact Or.inl rfl | exact Or.inr rfl) (pe_op op_mod (pe_callTy call_int1 (by rfl) (T.bn _ (by decide +kernel)) (by decide +kernel) (pa_cons (pe_op op_pow (pe_op op_add (pe_op op_add (pe_op op_mul (pv 6) (pe_op op_add (pe_op op_mul pe_int (pv 3)) pe_int)) (pe_op op_mul (pe_op op_mul pe_int (pv 3)) (pv 3))) pe_int) pe_int) pa_nil)) pe_int))
      (pss_one (ps_ret (pe_op op_mod (pe_callTy call_int1 (by rfl) (T.bn _ (by decide +kernel)) (by decide +kernel) (pa_cons (pe_op op_fdiv (pv 6) pe_int) pa_nil)) (pv 1)))))))))))), ?_⟩
    refine ⟨_, rfl, p, _, 2, .int r, rfl, rfl, SqL.of hp, atI_nat (j := 2) rfl, r, 0, rfl, rfl, _, rfl, ?_⟩
    refine ite2 (fun hpos => ?_) (fun hno => ?_)
    · have hpos' : 0 < r := by simpa using hpos
      refine ⟨_, rfl, p, _, 2, .int r, rfl, rfl, SqL.of hp, atI_nat (j := 2) rfl, .inl ⟨r, rfl, _, rfl, _, _, rfl, rfl, m0, ?_⟩⟩
      refine ⟨_, rfl, p, _, 2, .int r, rfl, rfl, SqL.of hp, atI_nat (j := 2) rfl, .inl ⟨r, rfl, _, rfl, _, _, rfl, rfl, ⟨m0, m1⟩, ?_⟩⟩
      refine ⟨_, rfl, p, _, 2, 2, rfl, rfl, hp, rfl, ?_⟩
      refine ⟨_, rfl, k _ _ (Int.emod_nonneg _ (by omega)) (Int.emod_lt_of_pos _ m0) ⟨ns, a, r / many, upd_same, by rw [upd_ne npc.symm]; exact hc, npc, a0, by omega, Int.ediv_nonneg (by omega) (by omega), hz⟩ Keep.upd1⟩
    · refine ⟨_, rfl, p, _, 1, .int a, rfl, rfl, SqL.of hp, atI_nat (j := 1) rfl, ?_⟩
      refine ⟨_, rfl, _, _, rfl, rfl, ?_⟩
      refine ⟨_, rfl, p, _, 1, 1, rfl, rfl, hp, rfl, ?_⟩
      have hp1 : (upd H p (.lst [.ref c, .int (a + 1), .int r])) p = some (.lst [.ref c, .int (a + 1), .int r]) := upd_same
      have hc1 : (upd H p (.lst [.ref c, .int (a + 1), .int r])) c = some (.lst (ns.map V.int)) := by rw [upd_ne npc.symm]; exact hc
      have kp1 : Keep p c H (upd H p (.lst [.ref c, .int (a + 1), .int r])) := Keep.upd1
      refine ⟨_, rfl, _, _, rfl, rfl, .inl ⟨by decide, by decide⟩, _, _, rfl, rfl, ?_⟩
      -- behind the if: the cell is a number
      refine ⟨fun σ' H' => ∃ z : Int, σ' = [some (.ref p), some (.int many), none, some (.int a), some (.int z), none, none] ∧ H' p = some (.lst [.ref c, .int (a + 1), .int r]) ∧ H' c = some (.lst (ns.map V.int)) ∧ Keep p c H H', ?_, ?_⟩
      · refine ⟨_, rfl, p, _, 0, .ref c, rfl, rfl, SqL.of hp1, atI_nat (j := 0) rfl, (by show 0 ≤ sizeLine; decide), fun l hl => ?_⟩
        have npl : p ≠ l := ne_of_none hp1 hl
        have ncl : c ≠ l := ne_of_none hc1 hl
        refine ⟨c, l, _, rfl, rfl, by rw [upd_ne ncl]; exact hc1, upd_same, _, rfl, ?_⟩
        have hp2 : (upd (upd H p (.lst [.ref c, .int (a + 1), .int r])) l (.lst [])) p = some (.lst [.ref c, .int (a + 1), .int r]) := by rw [upd_ne npl]; exact hp1
        have hc2 : (upd (upd H p (.lst [.ref c, .int (a + 1), .int r])) l (.lst [])) c = some (.lst (ns.map V.int)) := by rw [upd_ne ncl]; exact hc1
        have kp2 : Keep p c H (upd (upd H p (.lst [.ref c, .int (a + 1), .int r])) l (.lst [])) := kp1.trans (Keep.new hl)
        cases ns with
        | nil =>
          refine iteF ?_
          exact ⟨_, rfl, hp2, hc2, kp2⟩
        | cons n0 ns =>
          refine iteT ?_
          have hlen : (0 : Int) < (((n0 :: ns).map V.int).length : Nat) := by simp
          have j0 := Int.emod_nonneg a (Int.ne_of_gt hlen)
          have j1 := Int.emod_lt_of_pos a hlen
          refine ⟨_, rfl, p, _, 0, .ref c, rfl, rfl, SqL.of hp2, atI_nat (j := 0) rfl, _, rfl, .inl ⟨a, rfl, _, rfl, p, _, 0, .ref c, rfl, rfl, SqL.of hp2, atI_nat (j := 0) rfl, c, _, rfl, .inl (SqL.of hc2), _, _, rfl, rfl, hlen, ?_⟩⟩
          have hj : (a % (((n0 :: ns).map V.int).length : Nat)).toNat < ((n0 :: ns).map V.int).length := by omega
          refine ⟨c, _, _, ((n0 :: ns).map V.int)[(a % (((n0 :: ns).map V.int).length : Nat)).toNat], rfl, rfl, SqL.of hc2, atI_at (j := (a % (((n0 :: ns).map V.int).length : Nat)).toNat) (by omega) (List.getElem?_eq_getElem hj), ?_⟩
          rw [List.getElem_map]
          exact ⟨_, rfl, hp2, hc2, kp2⟩
      · rintro σ' H1 ⟨z, rfl, hp1, hc1, kp1⟩
        have ab : (0 : Int) ≤ (if z < 0 then -z else z) := by split <;> omega
        have last : ∀ j : Int, 0 ≤ j → j < many → Q (.int j) H1 := fun j j0 j1 => k j H1 j0 j1 ⟨ns, a + 1, r, hp1, hc1, npc, by omega, by omega, r0, hz⟩ kp1
        refine ⟨fun σ' H' => σ' = [some (.ref p), some (.int many), none, some (.int a), some (.int z), none, none] ∧ H' = H1, ?_, ?_⟩
        · refine ⟨_, rfl, _, rfl, p, _, 0, .ref c, rfl, rfl, SqL.of hp1, atI_nat (j := 0) rfl, c, _, rfl, .inl (SqL.of hc1), _, _, rfl, rfl, _, rfl, ?_⟩
          refine ite2 (fun h1 => ?_) (fun h1 => ?_)
          · refine ⟨_, rfl, z, rfl, _, _, rfl, rfl, ⟨by decide, by decide, by decide⟩, _, _, rfl, rfl, _, rfl, ?_⟩
            refine ite2 (fun h2 => ?_) (fun h2 => ?_)
            · refine ⟨_, rfl, z, rfl, _, _, rfl, rfl, .inl ⟨by decide, by decide⟩, ?_⟩
              refine ⟨_, rfl, _, _, rfl, rfl, .inr ⟨_, rfl, _, _, rfl, rfl, ?_⟩⟩
              refine ⟨_, rfl, _, rfl, _, _, rfl, rfl, ⟨m0, m1⟩, ?_⟩
              refine ⟨_, rfl, p, _, 2, 2, rfl, rfl, hp1, rfl, ?_⟩
              refine ⟨_, rfl, .inl ⟨_, rfl, _, rfl, _, _, rfl, rfl, m0, ?_⟩⟩
              refine k _ _ (Int.emod_nonneg _ (by omega)) (Int.emod_lt_of_pos _ m0) ⟨ns, a + 1, _, upd_same, by rw [upd_ne npc.symm]; exact hc1, npc, by omega, by omega, ?_, hz⟩ (kp1.trans Keep.upd1)
              refine Int.ediv_nonneg ?_ (by omega)
              have : (0 : Int) ≤ (if decide (z < 0) = true then 1 else 0) := by split <;> decide
              omega
            · exact ⟨rfl, rfl⟩
          · exact ⟨rfl, rfl⟩
        · rintro σ' H' ⟨rfl, rfl⟩
          have z0 := Int.emod_nonneg z (show (2147483563 : Int) ≠ 0 by decide)
          have z1 := Int.emod_lt_of_pos z (show (0 : Int) < 2147483563 by decide)
          refine ⟨_, rfl, .inl ⟨z, rfl, _, _, rfl, rfl, (by show (0 : Int) < 2147483563; decide), ?_⟩⟩
          refine ⟨_, rfl, _, _, rfl, rfl, .inl ⟨by decide, by decide⟩, _, _, rfl, rfl, _, _, rfl, rfl, _, _, rfl, rfl, ⟨by decide, by decide, ?_⟩, .inl ⟨_, rfl, _, _, rfl, rfl, (by show (0 : Int) < 2147483587; decide), ?_⟩⟩
          · show (z % 2147483563 + 52021 * a + 157).natAbs < 2 ^ 64
            have : (2 : Nat) ^ 64 = 18446744073709551616 := by decide
            omega
          obtain ⟨m, hm⟩ : ∃ m, (z % 2147483563 + 52021 * a + 157) ^ (5 : Int).toNat % 2147483587 = m := ⟨_, rfl⟩
          have q0 : 0 ≤ m := by rw [← hm]; exact Int.emod_nonneg _ (by decide)
          have q1 : m < 2147483587 := by rw [← hm]; exact Int.emod_lt_of_pos _ (by decide)
          have a1 : a ≤ 1048576 := by omega
          have e1 : m * (2 * a + 163) ≤ 2147483587 * 2097315 := Int.mul_le_mul (by omega) (by omega) (by omega) (by decide)
          have e2 : 0 ≤ m * (2 * a + 163) := Int.mul_nonneg q0 (by omega)
          have e3 : 41017 * a * a ≤ 41017 * 1048576 * 1048576 := Int.mul_le_mul (by omega) a1 a0 (by decide)
          have e4 : 0 ≤ 41017 * a * a := Int.mul_nonneg (by omega) a0
          refine ⟨_, rfl, _, rfl, _, _, rfl, rfl, .inl ⟨by decide, by decide⟩, _, _, rfl, rfl, _, _, rfl, rfl, .inl ⟨by omega, by omega⟩, ?_⟩
          refine ⟨_, rfl, _, _, rfl, rfl, .inl ⟨by decide, by decide⟩, _, rfl, _, _, rfl, rfl, .inr ⟨by omega, by omega⟩, _, _, rfl, rfl, _, _, rfl, rfl, _, _, rfl, rfl, ⟨by decide, by decide, ?_⟩, .inl ⟨_, rfl, _, _, rfl, rfl, (by show (0 : Int) < 2147483629; decide), ?_⟩⟩
          · show ((z % 2147483563 + 52021 * a + 157) ^ (5 : Int).toNat % 2147483587 * (2 * a + 163) + 41017 * a * a + 23).natAbs < 2 ^ 64
            rw [hm]
            have : (2 : Nat) ^ 64 = 18446744073709551616 := by decide
            generalize m * (2 * a + 163) = u at e1 e2
            generalize 41017 * a * a = v at e3 e4
            omega
          refine ⟨_, rfl, _, _, rfl, rfl, ⟨by decide, by decide⟩, .inl ⟨_, rfl, _, rfl, _, _, rfl, rfl, m0, ?_⟩⟩
          exact last _ (Int.emod_nonneg _ (by omega)) (Int.emod_lt_of_pos _ m0)
end
end K18
end
section
set_option Elab.async false
set_option autoImplicit false
set_option linter.all false
set_option maxRecDepth 100000
set_option maxHeartbeats 4000000
namespace K18
open PySem PySem.Spec PyProof.Rows L2 Ls
open C8 (pss_cut tCut)
open TL
section
variable {P : Program} {w : World} {K : PySem.W.Frag} {mg : Str → Option Value} {base : Heap} {CM CB CL CA CS CF CE CN CD : Addr} {tL tN : Tok}
/-! ### the pen made; a pick -/
def spPen (K : PySem.W.Frag) : Sp := fun vs H Q _ => ∃ (a : Addr) (ns : List Int), vs = [.ref a] ∧ SqL K H a (ns.map V.int) ∧ ns.length ≤ 1000 ∧ ∀ p c H', PenAt H' p c 0 → Ext H H' → H p = none → H c = none → Q (.ref p) H'
abbrev s__law_pen : Stmt := top 17
abbrev N__law_pen : List Str := ["_law_script"]
theorem sc__law_pen : FnScope N__law_pen ["_law_script"] (defScope s__law_pen) := ⟨rfl, rfl, rfl, by decide +kernel, rfl, by decide +kernel, by decide +kernel⟩
theorem ok_pen {f : Addr} {fd : FuncData} (F : Fun K "_law_pen" "_law_pen" s__law_pen f fd) (T : Tx K mg CM CB CL CA CS CF CE CN CD tL tN) : FnOk P w K mg base CX0 1 f fd ["_law_script"] (spPen K) := by
  refine F.ok sc__law_pen (fun vs H Q E h => ?_) (fun cdv A outer s H vs Q E hr h => ?_)
  · obtain ⟨a, ns, rfl, _⟩ := h
    rfl
  · obtain ⟨a, ns, rfl, ha, hn, k⟩ := h
    refine ⟨_, (pss_one (ps_ret (pe_lst (pa_cons (pe_callTy call_list_of (by rfl) (T.bn _ (by decide +kernel)) (by decide +kernel) (pa_cons (pe_slice sl_list (pv 0) po_none (po_some pe_int)) pa_nil)) (pa_cons pe_int (pa_cons pe_int pa_nil)))))), ?_⟩
    refine ⟨_, rfl, 63, rfl, a, _, rfl, ha, fun q hq => ?_⟩
    refine ⟨q, _, rfl, .inl (SqL.of upd_same), fun c hc => ?_⟩
    have nqc : q ≠ c := ne_of_none upd_same hc
    refine ⟨(by show 3 ≤ sizeLine; decide), fun p hp => ?_⟩
    have npc : p ≠ c := (ne_of_none upd_same hp).symm
    have e1 := Ext.upd (o := HO.lst (((ns.map V.int).drop (HT.sIx (ns.map V.int).length 0 none)).take (HT.sIx (ns.map V.int).length (ns.map V.int).length (some 63) - HT.sIx (ns.map V.int).length 0 none))) hq
    refine k p c _ ⟨(ns.drop (HT.sIx (ns.map V.int).length 0 none)).take (HT.sIx (ns.map V.int).length (ns.map V.int).length (some 63) - HT.sIx (ns.map V.int).length 0 none), 0, 0, upd_same, ?_, npc, by decide, by decide, by decide, ?_⟩ ((e1.trans (Ext.upd hc)).trans (Ext.upd hp)) ?_ ?_
    · rw [upd_ne npc.symm, upd_same, List.map_take, List.map_drop]
      rfl
    · have : HT.sIx (ns.map V.int).length (ns.map V.int).length (some 63) ≤ 63 := by
        unfold HT.sIx
        simp
        omega
      rw [List.length_take]
      omega
    · exact ext_free (e1.trans (Ext.upd hc)) hp
    · exact ext_free e1 hc
def spPick (K : PySem.W.Frag) : Sp := fun vs H Q _ => ∃ (p c : Addr) (n : Nat) (v : V), vs = [.ref p, v] ∧ PenAt H p c n ∧ n < 1048576 ∧
  ((∃ (l : Addr) (xs : List V), v = .ref l ∧ l ≠ p ∧ l ≠ c ∧ H l = some (.lst xs) ∧ 0 < xs.length ∧ xs.length ≤ 1000 ∧ ∀ x H', x ∈ xs → PenAt H' p c (n + 1) → Keep p c H H' → Q x H') ∨
    ∃ z : Str, v = .str z ∧ 0 < z.length ∧ z.length ≤ 1000 ∧ ∀ c' H', c' ∈ tl z → PenAt H' p c (n + 1) → Keep p c H H' → Q (.str ⟨#[c']⟩) H')
abbrev s__law_pick : Stmt := top 19
abbrev N__law_pick : List Str := ["_law_pen_here", "_law_some"]
theorem sc__law_pick : FnScope N__law_pick ["_law_pen_here", "_law_some"] (defScope s__law_pick) := ⟨rfl, rfl, rfl, by decide +kernel, rfl, by decide +kernel, by decide +kernel⟩
theorem ok_pick {f : Addr} {fd : FuncData} (F : Fun K "_law_pick" "_law_pick" s__law_pick f fd) (T : Tx K mg CM CB CL CA CS CF CE CN CD tL tN) (c__law_draw : Cal P w K mg base CX0 1 "_law_draw" spDraw) : FnOk P w K mg base CX0 2 f fd ["_law_pen_here", "_law_some"] (spPick K) := by
  refine F.ok sc__law_pick (fun vs H Q E h => ?_) (fun cdv A outer s H vs Q E hr h => ?_)
  · obtain ⟨p, c, n, v, rfl, _⟩ := h
    rfl
  · obtain ⟨p, c, n, v, rfl, hp, hn, h⟩ := h
    refine ⟨_, (pss_one (ps_ret (pe_ix ix_seq (pv 1) (pe_cal c__law_draw (hr.mono (by decide)) (by rfl) pass0 (pa_cons (pv 0) (pa_cons (pe_callB (CallR.or call_len_seq call_len_str) (by rfl) (T.bn _ (by decide +kernel)) (by decide +kernel) (pa_cons (pv 1) pa_nil)) pa_nil))) (fun _ _ => rfl)))), ?_⟩
    rcases h with ⟨l, xs, rfl, n1, n2, hl, h0, h1, k⟩ | ⟨z, rfl, h0, h1, k⟩
    · refine ⟨_, rfl, _, rfl, _, rfl, .inl ⟨l, _, rfl, .inl (SqL.of hl), p, c, n, _, rfl, hp, hn, by omega, by omega, fun j H1 j0 j1 hp1 kp => ?_⟩⟩
      have hl1 := kp l _ hl n1 n2
      have hj : j.toNat < xs.length := by omega
      exact .inl ⟨l, xs, j, xs[j.toNat], rfl, rfl, SqL.of hl1, atI_at (j := j.toNat) (by omega) (List.getElem?_eq_getElem hj), k _ H1 (List.getElem_mem hj) hp1 kp⟩
    · refine ⟨_, rfl, _, rfl, _, rfl, .inr ⟨z, rfl, Nat.le_of_lt (small1000 h1), p, c, n, _, rfl, hp, hn, by omega, by omega, fun j H1 j0 j1 hp1 kp => ?_⟩⟩
      have hj : j.toNat < z.cps.toList.length := by
        have : z.cps.toList.length = z.length := by simp; rfl
        omega
      exact .inr (.inr ⟨z, j, z.cps.toList[j.toNat], rfl, rfl, Nat.le_of_lt (small1000 h1), atI_at (j := j.toNat) (by omega) (List.getElem?_eq_getElem hj), k _ H1 (List.getElem_mem hj) hp1 kp⟩)
end
end K18
end
section
set_option Elab.async false
set_option autoImplicit false
set_option linter.all false
set_option maxRecDepth 100000
set_option maxHeartbeats 4000000
namespace K18
open PySem PySem.Spec PyProof.Rows L2 Ls
open C8 (pss_cut tCut)
open TL
/-! ### the data -/
def W4 : List Str := ["load", "again", "store", "forget"]
def isName (z : Str) : Bool := decide (1 ≤ z.length) && (decide (z.length ≤ 6) && (tl z).all fun c => decide (c ∈ tl lettersS))
/-- the name that a value is -/
def nameOf : PyData → Option Str
  | .str z => if isName z = true then some z else none
  | _ => none
theorem nameOf_some {d : PyData} {n : Str} (h : nameOf d = some n) : d = .str n ∧ isName n = true := by
  cases d with
  | str z =>
    have h : (if isName z = true then some z else none) = some n := h
    by_cases e : isName z = true
    · rw [if_pos e] at h
      cases h
      exact ⟨rfl, e⟩
    · rw [if_neg e] at h
      cases h
  | _ => cases h
theorem nameOf_str {z : Str} (h : isName z = true) : nameOf (.str z) = some z := if_pos h
theorem nameOf_no {z : Str} (h : isName z = false) : nameOf (.str z) = none := if_neg (by rw [h]; exact Bool.false_ne_true)
def textM (m : Str × Str) : Str := m.1 ++ " " ++ m.2
def Good (m : Str × Str) : Prop := m.1 ∈ W4 ∧ isName m.2 = true
theorem name_len {z : Str} (h : isName z = true) : 1 ≤ z.length ∧ z.length ≤ 6 := by
  unfold isName at h
  simp only [Bool.and_eq_true, decide_eq_true_eq] at h
  exact ⟨h.1, h.2.1⟩
theorem name_sub {z : Str} (h : isName z = true) : ∀ c ∈ tl z, c ∈ tl lettersS := by
  unfold isName at h
  simp only [Bool.and_eq_true, decide_eq_true_eq, List.all_eq_true] at h
  exact h.2.2
theorem name_no {z : Str} (h : isName z = true) {c : Nat} (hc : c ∉ tl lettersS) : c ∉ tl z := fun hm => hc (name_sub h c hm)
theorem w4_cases {w : Str} (h : w ∈ W4) : w = "load" ∨ w = "again" ∨ w = "store" ∨ w = "forget" := by simpa [W4] using h
theorem w4_name {w : Str} (h : w ∈ W4) : isName w = true := by
  rcases w4_cases h with rfl | rfl | rfl | rfl <;> decide +kernel
/-- the fields of a move -/
def flds (w n : Str) : List (Str × V) := putF "name" (.str n) (putF "word" (.str w) [])
theorem nwn : ¬ (("word" : Str) = "name") := by decide +kernel
theorem flds_word (w n : Str) : (flds w n).lookup ("word" : Str) = some (.str w) := by
  unfold flds
  rw [lookup_putF, if_neg nwn, lookup_putF, if_pos rfl]
theorem flds_name (w n : Str) : (flds w n).lookup ("name" : Str) = some (.str n) := by
  unfold flds
  rw [lookup_putF, if_pos rfl]
def clsOf (CL CA CS CF : Addr) (w : Str) : Addr := if w = "load" then CL else if w = "again" then CA else if w = "store" then CS else CF
/-- a move stands at a -/
def MoveAt (cl : Str → Addr) (H : Hp) (a : Addr) (m : Str × Str) : Prop := ∃ dx, H a = some (.ins (cl m.1) dx (flds m.1 m.2))
theorem MoveAt.mono {cl : Str → Addr} {H H' : Hp} {a : Addr} {m : Str × Str} (e : Ext H H') (h : MoveAt cl H a m) : MoveAt cl H' a m := let ⟨dx, q⟩ := h; ⟨dx, e _ _ q⟩
/-- what the top says of a class of moves -/
structure ClT (K : PySem.W.Frag) (CM CB CL CA CS CF C fs fe : Addr) (kin : List Bool) : Prop where
  cl : Cls K C
  nW : NoAttr K C "word"
  nN : NoAttr K C "name"
  ha : PySem.W.findIn K (.ref C) "__class__" = some (some (.builtin "object.__class__"))
  hn : PySem.W.specialIn K (.builtin "object.__class__") "__get__" = some (some (.builtin "getset_descriptor.__get__"))
  htk : PySem.W.takesIn K (.builtin "object.__class__") = some true
  hm : PySem.W.mroIn K C (.type "object") = some true
  kit : ∀ q ∈ [CM, CB, CL, CA, CS, CF].zip kin, PySem.W.kitOne K (.ref C) (.ref q.1) = some q.2
  st : PySem.W.findIn K (.ref C) "__str__" = some (some (.ref fs))
  eq : PySem.W.findIn K (.ref C) "__eq__" = some (some (.ref fe))
def kinOf (w : Str) : List Bool := if w = "load" then [true, true, true, false, false, false] else if w = "again" then [true, true, false, true, false, false] else if w = "store" then [true, false, false, false, true, false] else [true, false, false, false, false, true]

section
variable {P : Program} {w : World} {K : PySem.W.Frag} {mg : Str → Option Value} {base : Heap} {CM CB CL CA CS CF CE CN CD : Addr} {tL tN : Tok}
/-! ### is_name -/
def spName : Sp := fun vs H Q _ => ∃ (v : V) (d : PyData), vs = [v] ∧ TV H v d ∧ SmD d ∧ ∀ H', Ext H H' → Q (.bl (nameOf d).isSome) H'
abbrev s_is_name : Stmt := top 7
abbrev N_is_name : List Str := ["value", "letter"]
theorem sc_is_name : FnScope N_is_name ["value"] (defScope s_is_name) := ⟨rfl, rfl, rfl, by decide +kernel, rfl, by decide +kernel, by decide +kernel⟩
theorem ok_name {f : Addr} {fd : FuncData} (F : Fun K "is_name" "is_name" s_is_name f fd) (T : Tx K mg CM CB CL CA CS CF CE CN CD tL tN) : FnOk P w K mg base CX0 1 f fd ["value"] spName := by
  refine F.ok sc_is_name (fun vs H Q E h => ?_) (fun cdv A outer s H vs Q E hr h => ?_)
  · obtain ⟨v, d, rfl, _⟩ := h
    rfl
  · obtain ⟨v, d, rfl, hv, sm, k⟩ := h
    refine ⟨_, (pss_cons (ps_if ((pw_or (pt_not (pt_val (pe_callB call_isi (by rfl) (T.bn _ (by decide +kernel)) (by decide +kernel) (pa_cons (pv 0) (pa_cons (pe_gty (T := "str") (by rfl) (T.bn _ (by decide +kernel)) (by decide +kernel)) pa_nil))))) (pw_or1 (pt_not (pt_chain op_le op_le pe_int (pe_callB call_len_str (by rfl) (T.bn _ (by decide +kernel)) (by decide +kernel) (pa_cons (pv 0) pa_nil)) (pe_gint (by rfl) T.m_LONGEST_NAME)))))).pt (pss_one (ps_ret pe_bl)) pss_nil)
      (pss_one (ps_ret (pe_callB (cr_all rfl) (by rfl) (T.bn _ (by decide +kernel)) (by decide +kernel) (pa_cons (pe_lc (own := [("letter", 1)]) rfl sc_is_name.nd (pi_str (pv 0)) (blkOk_by (own := [("letter", 1)]) (N := N_is_name) (sc := defScope s_is_name) (by decide +kernel)) (fun _ _ _ _ _ => (pg_name (i := 1) sc_is_name.nd rfl (by first | exact Or.inl rfl | exact Or.inr rfl))) (fun _ _ _ _ _ => pts_nil) (fun _ _ _ _ _ => (pe_cmpR op_in_sign (pv 1) (pe_gstr (by rfl) T.m_LETTERS) rfl))) pa_nil))))), ?_⟩
    refine ⟨_, rfl, _, _, _, _, isStrD d, rfl, .ty "str", tyX_of hv, kit_str d, _, rfl, ?_⟩
    cases hd : isStrD d with
    | false =>
      refine iteT ?_
      have e1 : (nameOf d).isSome = false := by
        cases d <;> first | rfl | cases hd
      have := k H Ext.rfl'
      rw [e1] at this
      exact this
    | true =>
    obtain ⟨z, rfl⟩ := strD hd
    cases tv_str hv
    have hz : z.length ≤ 1000 := sm z rfl
    refine iteF ?_
    have hzl : z.length ≤ sizeLine := Nat.le_of_lt (small1000 hz)
    have eN : ∀ b, isName z = b → (nameOf (.str z)).isSome = b := fun b h => by
      show (if isName z = true then some z else none).isSome = b
      cases b with
      | true => rw [if_pos h]; rfl
      | false => rw [if_neg (by rw [h]; exact Bool.false_ne_true)]; rfl
    refine ⟨_, rfl, z, rfl, hzl, _, _, rfl, rfl, ?_⟩
    by_cases h1 : 1 ≤ z.length
    · refine ⟨true, by simp; omega, ?_⟩
      refine iteT ?_
      refine ⟨_, _, rfl, rfl, ?_⟩
      by_cases h6 : z.length ≤ 6
      · refine ⟨true, by simp; omega, ?_⟩
        refine iteF ?_
        -- the signs
        refine ⟨_, rfl, z, rfl, fun D hD => ?_⟩
        refine lc_map walk_str [D] (by simp) (fun _ => True) (fun i y _ => ∃ c, z.cps[i]? = some c ∧ y = .bl (decide (c ∈ tl lettersS))) (by have : z.length = z.cps.size := rfl; omega) (fun _ _ _ _ _ h => h) (fun _ _ _ => trivial) trivial (fun _ _ _ => trivial) ?_ ?_
        · rintro i x H1 H2 acc C hi e _ hD1 ⟨rfl, c, hc, rfl⟩ hC
          refine ⟨rfl, _, rfl, c, _, rfl, rfl, hC _ _ hD1 Ext.rfl' trivial ⟨c, hc, rfl⟩⟩
        · intro H1 ys e _ hD1 hl hy
          have hys : ys = ((tl z).map fun c => decide (c ∈ tl lettersS)).map V.bl := by
            refine List.ext_getElem? fun j => ?_
            cases q : ys[j]? with
            | none =>
              have : ys.length ≤ j := List.getElem?_eq_none_iff.mp q
              symm
              rw [List.getElem?_eq_none_iff]
              simp
              have : z.cps.size ≤ j := by omega
              exact this
            | some y =>
              obtain ⟨c, hc, rfl⟩ := hy j y q
              have hc' : (tl z)[j]? = some c := by rw [← hc]; simp [tl]
              simp [List.getElem?_map, hc']
          subst hys
          refine ⟨D, _, rfl, SqL.of hD1, ?_⟩
          have e1 : isName z = (((tl z).map fun c => decide (c ∈ tl lettersS)).all id) := by
            unfold isName
            rw [decide_eq_true h1, decide_eq_true h6, Bool.true_and, Bool.true_and, List.all_map]
            rfl
          rw [← eN _ e1]
          refine k _ fun b o q => ?_
          have := e b o (by rw [hid_at (by simpa using ne_of_none q hD)]; exact q)
          exact (hid_some this).2
      · refine ⟨false, by simp; omega, ?_⟩
        refine iteT ?_
        have e1 : isName z = false := by unfold isName; rw [decide_eq_false h6, Bool.false_and, Bool.and_false]
        have := k H Ext.rfl'
        rw [eN _ e1] at this
        exact this
    · refine ⟨false, by simp; omega, ?_⟩
      refine iteF ?_
      refine ⟨false, rfl, ?_⟩
      refine iteT ?_
      have e1 : isName z = false := by unfold isName; rw [decide_eq_false h1, Bool.false_and]
      have := k H Ext.rfl'
      rw [eN _ e1] at this
      exact this
/-! ### errors -/
abbrev s_BadName_init : Stmt := inClass (top 2) 0
theorem sc_BadName_init : ScS ["self", "value"] ["self", "value"] (defScope s_BadName_init) := ⟨rfl, rfl, rfl, by decide +kernel, rfl, by decide +kernel, by decide +kernel, by decide +kernel⟩
theorem ok_BadName_init {f cda cc C : Addr} {fd : FuncData} (F : FunS K "__init__" "BadName.__init__" s_BadName_init f fd cda cc) (S : SupE P K mg C C cc cda) (no : PySem.W.findIn K (.ref C) "value" = some none) :
    FnOk P w K mg base CX0 1 f fd ["self", "value"] (spX C ["value"]) := by
  obtain ⟨oc, od, kV, doc, pm, an, ct, osl, rfl, lk, hcd⟩ := F.ex
  refine fn_superE (N := ["self", "value"]) lk hcd sc_BadName_init rfl rfl rfl rfl rfl (fun vs H Q E h => ?_) (fun A outer s H vs Q E hr h => ?_) (fun _ => rfl) (fun _ => rfl) (fun _ => rfl) (fun _ => rfl) (fun _ => rfl)
  · obtain ⟨a, ys, rfl, hl, _⟩ := h
    simpa using hl
  · obtain ⟨a, ys, rfl, hl, ha, k⟩ := h
    obtain ⟨y, rfl⟩ : ∃ y, ys = [y] := by
      match ys, hl with
      | [y], _ => exact ⟨y, rfl⟩
    refine ⟨a, C, C, [y], _, _, rfl, ha, S, pa_cons pe_str pa_nil, pss_one (ps_ost (pv 0) (pv 1) rfl), ?_⟩
    refine ⟨(by show 1 ≤ 1000; decide), ha, _, rfl, _, rfl, a, C, rfl, S.oex, no, .inl ⟨ha, fun dx n ne => ?_⟩⟩
    refine k dx _ n ne upd_same (by rw [upd_ne ne]; exact upd_same) fun b h1 h2 => ?_
    rw [upd_ne h1, upd_ne h2]
abbrev s_BadMove_init : Stmt := inClass (top 3) 0
theorem sc_BadMove_init : ScS ["self", "value"] ["self", "value"] (defScope s_BadMove_init) := ⟨rfl, rfl, rfl, by decide +kernel, rfl, by decide +kernel, by decide +kernel, by decide +kernel⟩
theorem ok_BadMove_init {f cda cc C : Addr} {fd : FuncData} (F : FunS K "__init__" "BadMove.__init__" s_BadMove_init f fd cda cc) (S : SupE P K mg C C cc cda) (no : PySem.W.findIn K (.ref C) "value" = some none) :
    FnOk P w K mg base CX0 1 f fd ["self", "value"] (spX C ["value"]) := by
  obtain ⟨oc, od, kV, doc, pm, an, ct, osl, rfl, lk, hcd⟩ := F.ex
  refine fn_superE (N := ["self", "value"]) lk hcd sc_BadMove_init rfl rfl rfl rfl rfl (fun vs H Q E h => ?_) (fun A outer s H vs Q E hr h => ?_) (fun _ => rfl) (fun _ => rfl) (fun _ => rfl) (fun _ => rfl) (fun _ => rfl)
  · obtain ⟨a, ys, rfl, hl, _⟩ := h
    simpa using hl
  · obtain ⟨a, ys, rfl, hl, ha, k⟩ := h
    obtain ⟨y, rfl⟩ : ∃ y, ys = [y] := by
      match ys, hl with
      | [y], _ => exact ⟨y, rfl⟩
    refine ⟨a, C, C, [y], _, _, rfl, ha, S, pa_cons pe_str pa_nil, pss_one (ps_ost (pv 0) (pv 1) rfl), ?_⟩
    refine ⟨(by show 1 ≤ 1000; decide), ha, _, rfl, _, rfl, a, C, rfl, S.oex, no, .inl ⟨ha, fun dx n ne => ?_⟩⟩
    refine k dx _ n ne upd_same (by rw [upd_ne ne]; exact upd_same) fun b h1 h2 => ?_
    rw [upd_ne h1, upd_ne h2]

/-! ### Move.__init__ -/
/-- an error of the class at C, with the value v, leaves; all that stood stands -/
def Errs (C : Addr) (v : V) (H : Hp) (E : XK) : Prop := ∀ dd H', Ext H H' → nw H H' dd = some (.xd [("value", v)]) → E (.ref C) (some dd) H'
def spMI (K : PySem.W.Frag) (CN : Addr) : Sp := fun vs H Q E => ∃ (x C dx : Addr) (wd : Str) (v : V) (d : PyData), vs = [.ref x, .str wd, v] ∧ H x = some (.ins C dx []) ∧ Cls K C ∧ NoAttr K C "word" ∧ NoAttr K C "name" ∧ TV H v d ∧ SmD d ∧
  (∀ n, nameOf d = some n → ∀ H', H' x = some (.ins C dx (flds wd n)) → (∀ b o, H b = some o → b ≠ x → H' b = some o) → Q .non H') ∧ (nameOf d = none → Errs CN v H E)
abbrev s_Move_init : Stmt := inClass (top 9) 0
abbrev N_Move_init : List Str := ["self", "word", "name"]
theorem sc_Move_init : FnScope N_Move_init ["self", "word", "name"] (defScope s_Move_init) := ⟨rfl, rfl, rfl, by decide +kernel, rfl, by decide +kernel, by decide +kernel⟩
theorem ok_MI {f : Addr} {fd : FuncData} (F : Fun K "__init__" "Move.__init__" s_Move_init f fd) (T : Tx K mg CM CB CL CA CS CF CE CN CD tL tN) (c_is_name : Cal P w K mg base CX0 1 "is_name" spName) (x_BadName : Xer P w K mg base CN "BadName" ["value"]) : FnOk P w K mg base (L2.CX P w) 3 f fd ["self", "word", "name"] (spMI K CN) := by
  refine F.okX sc_Move_init (fun vs H Q E h => ?_) (fun cdv A outer s H vs Q E hr h => ?_)
  · obtain ⟨x, C, dx, wd, v, d, rfl, _⟩ := h
    rfl
  · obtain ⟨x, C, dx, wd, v, d, rfl, hx, cl, nW, nN, hv, sm, k, ke⟩ := h
    refine ⟨_, (pss_cons (ps_if (pt_not (pt_val (pe_cal c_is_name (hr.mono (by decide)) (by rfl) pass0 (pa_cons (pv 2) pa_nil)))) (pss_one (ps_raise rfl tkC (pmk_err x_BadName (hr.mono (by decide)) (by rfl) (pa_cons (pv 2) pa_nil)))) pss_nil)
      (pss_cons (ps_fld (pv 0) (pv 1) rfl)
      (pss_one (ps_fld (pv 0) (pv 2) rfl)))), ?_⟩
    refine ⟨_, rfl, v, d, rfl, hv, sm, fun H1 e1 => ⟨_, rfl, ?_⟩⟩
    cases hd : nameOf d with
    | none =>
      refine iteT ?_
      refine ⟨_, rfl, rfl, (by show 1 ≤ 1000; decide), fun dd nd => ?_⟩
      refine ke hd dd _ (e1.trans (Ext.upd nd)) ?_
      rw [nw_at (ext_free e1 nd)]
      exact upd_same
    | some n =>
      refine iteF ?_
      obtain ⟨rfl, hn⟩ := nameOf_some hd
      cases tv_str hv
      have hx1 := e1 _ _ hx
      refine ⟨_, rfl, _, rfl, x, C, dx, _, rfl, hx1, cl, nW, (by show 0 < 1000; decide), ?_⟩
      refine ⟨_, rfl, _, rfl, x, C, dx, _, rfl, upd_same, cl, nN, (by show 1 < 1000; decide), ?_⟩
      refine k n hd _ upd_same fun b o q hb => ?_
      rw [upd_ne hb, upd_ne hb]
      exact e1 b o q
/-! ### Load, Again, Store, Forget: __init__ -/
def spCI (K : PySem.W.Frag) (CN : Addr) (wd : Str) (C : Addr) : Sp := fun vs H Q E => ∃ (x dx : Addr) (v : V) (d : PyData), vs = [.ref x, v] ∧ H x = some (.ins C dx []) ∧ TV H v d ∧ SmD d ∧
  (∀ n, nameOf d = some n → ∀ H', H' x = some (.ins C dx (flds wd n)) → (∀ b o, H b = some o → b ≠ x → H' b = some o) → Q .non H') ∧ (nameOf d = none → Errs CN v H E)
abbrev N_CI : List Str := ["self", "name"]
abbrev s_Load_init : Stmt := inClass (top 11) 0
theorem sc_Load_init : ScS N_CI ["self", "name"] (defScope s_Load_init) := ⟨rfl, rfl, rfl, by decide +kernel, rfl, by decide +kernel, by decide +kernel, by decide +kernel⟩
theorem ok_Load_init {f fMI cda cc C : Addr} {fd : FuncData} (F : FunS K "__init__" "Load.__init__" s_Load_init f fd cda cc) (cl : Cls K C) (nW : NoAttr K C "word") (nN : NoAttr K C "name") (S : SupT P K mg C C cc cda "__init__" fMI) (M : FnR P w K mg base (L2.CX P w) 3 fMI (spMI K CN)) :
    FnOk P w K mg base (L2.CX P w) 4 f fd ["self", "name"] (spCI K CN "load" C) := by
  obtain ⟨oc, od, kV, doc, pm, an, ct, osl, rfl, lk, hcd⟩ := F.ex
  refine fn_super (N := N_CI) lk hcd sc_Load_init rfl rfl rfl rfl rfl rfl (by decide) (fun vs H Q E h => ?_) (fun A outer s H vs Q E hr h => ?_) (fun _ => rfl) (fun _ => rfl) (fun _ => rfl) (fun _ => rfl) (fun _ => rfl)
  · obtain ⟨x, dx, v, d, rfl, _⟩ := h
    rfl
  · obtain ⟨x, dx, v, d, rfl, hx, hv, sm, k, ke⟩ := h
    refine ⟨x, C, C, dx, fMI, [], [v], _, _, spMI K CN, L2.CX P w, E, rfl, hx, S, pa_cons pe_str (pa_cons (pv 1) pa_nil), M, passS, pss_nil, ?_⟩
    exact ⟨_, rfl, x, C, dx, "load", v, d, rfl, hx, cl, nW, nN, hv, sm, fun n hn H' h1 h2 => k n hn H' h1 h2, ke⟩
abbrev s_Again_init : Stmt := inClass (top 12) 0
theorem sc_Again_init : ScS N_CI ["self", "name"] (defScope s_Again_init) := ⟨rfl, rfl, rfl, by decide +kernel, rfl, by decide +kernel, by decide +kernel, by decide +kernel⟩
theorem ok_Again_init {f fMI cda cc C : Addr} {fd : FuncData} (F : FunS K "__init__" "Again.__init__" s_Again_init f fd cda cc) (cl : Cls K C) (nW : NoAttr K C "word") (nN : NoAttr K C "name") (S : SupT P K mg C C cc cda "__init__" fMI) (M : FnR P w K mg base (L2.CX P w) 3 fMI (spMI K CN)) :
    FnOk P w K mg base (L2.CX P w) 4 f fd ["self", "name"] (spCI K CN "again" C) := by
  obtain ⟨oc, od, kV, doc, pm, an, ct, osl, rfl, lk, hcd⟩ := F.ex
  refine fn_super (N := N_CI) lk hcd sc_Again_init rfl rfl rfl rfl rfl rfl (by decide) (fun vs H Q E h => ?_) (fun A outer s H vs Q E hr h => ?_) (fun _ => rfl) (fun _ => rfl) (fun _ => rfl) (fun _ => rfl) (fun _ => rfl)
  · obtain ⟨x, dx, v, d, rfl, _⟩ := h
    rfl
  · obtain ⟨x, dx, v, d, rfl, hx, hv, sm, k, ke⟩ := h
    refine ⟨x, C, C, dx, fMI, [], [v], _, _, spMI K CN, L2.CX P w, E, rfl, hx, S, pa_cons pe_str (pa_cons (pv 1) pa_nil), M, passS, pss_nil, ?_⟩
    exact ⟨_, rfl, x, C, dx, "again", v, d, rfl, hx, cl, nW, nN, hv, sm, fun n hn H' h1 h2 => k n hn H' h1 h2, ke⟩
abbrev s_Store_init : Stmt := inClass (top 13) 0
theorem sc_Store_init : ScS N_CI ["self", "name"] (defScope s_Store_init) := ⟨rfl, rfl, rfl, by decide +kernel, rfl, by decide +kernel, by decide +kernel, by decide +kernel⟩
theorem ok_Store_init {f fMI cda cc C : Addr} {fd : FuncData} (F : FunS K "__init__" "Store.__init__" s_Store_init f fd cda cc) (cl : Cls K C) (nW : NoAttr K C "word") (nN : NoAttr K C "name") (S : SupT P K mg C C cc cda "__init__" fMI) (M : FnR P w K mg base (L2.CX P w) 3 fMI (spMI K CN)) :
    FnOk P w K mg base (L2.CX P w) 4 f fd ["self", "name"] (spCI K CN "store" C) := by
  obtain ⟨oc, od, kV, doc, pm, an, ct, osl, rfl, lk, hcd⟩ := F.ex
  refine fn_super (N := N_CI) lk hcd sc_Store_init rfl rfl rfl rfl rfl rfl (by decide) (fun vs H Q E h => ?_) (fun A outer s H vs Q E hr h => ?_) (fun _ => rfl) (fun _ => rfl) (fun _ => rfl) (fun _ => rfl) (fun _ => rfl)
  · obtain ⟨x, dx, v, d, rfl, _⟩ := h
    rfl
  · obtain ⟨x, dx, v, d, rfl, hx, hv, sm, k, ke⟩ := h
    refine ⟨x, C, C, dx, fMI, [], [v], _, _, spMI K CN, L2.CX P w, E, rfl, hx, S, pa_cons pe_str (pa_cons (pv 1) pa_nil), M, passS, pss_nil, ?_⟩
    exact ⟨_, rfl, x, C, dx, "store", v, d, rfl, hx, cl, nW, nN, hv, sm, fun n hn H' h1 h2 => k n hn H' h1 h2, ke⟩
abbrev s_Forget_init : Stmt := inClass (top 14) 0
theorem sc_Forget_init : ScS N_CI ["self", "name"] (defScope s_Forget_init) := ⟨rfl, rfl, rfl, by decide +kernel, rfl, by decide +kernel, by decide +kernel, by decide +kernel⟩
theorem ok_Forget_init {f fMI cda cc C : Addr} {fd : FuncData} (F : FunS K "__init__" "Forget.__init__" s_Forget_init f fd cda cc) (cl : Cls K C) (nW : NoAttr K C "word") (nN : NoAttr K C "name") (S : SupT P K mg C C cc cda "__init__" fMI) (M : FnR P w K mg base (L2.CX P w) 3 fMI (spMI K CN)) :
    FnOk P w K mg base (L2.CX P w) 4 f fd ["self", "name"] (spCI K CN "forget" C) := by
  obtain ⟨oc, od, kV, doc, pm, an, ct, osl, rfl, lk, hcd⟩ := F.ex
  refine fn_super (N := N_CI) lk hcd sc_Forget_init rfl rfl rfl rfl rfl rfl (by decide) (fun vs H Q E h => ?_) (fun A outer s H vs Q E hr h => ?_) (fun _ => rfl) (fun _ => rfl) (fun _ => rfl) (fun _ => rfl) (fun _ => rfl)
  · obtain ⟨x, dx, v, d, rfl, _⟩ := h
    rfl
  · obtain ⟨x, dx, v, d, rfl, hx, hv, sm, k, ke⟩ := h
    refine ⟨x, C, C, dx, fMI, [], [v], _, _, spMI K CN, L2.CX P w, E, rfl, hx, S, pa_cons pe_str (pa_cons (pv 1) pa_nil), M, passS, pss_nil, ?_⟩
    exact ⟨_, rfl, x, C, dx, "forget", v, d, rfl, hx, cl, nW, nN, hv, sm, fun n hn H' h1 h2 => k n hn H' h1 h2, ke⟩

end
end K18
end
section
set_option Elab.async false
set_option autoImplicit false
set_option linter.all false
set_option maxRecDepth 100000
set_option maxHeartbeats 4000000
namespace K18
open PySem PySem.Spec PyProof.Rows L2 Ls
open C8 (pss_cut tCut)
open TL
theorem Errs.ext {C : Addr} {v : V} {H H1 : Hp} {E : XK} (h : Errs C v H E) (e : Ext H H1) : Errs C v H1 E := fun dd H' e' q => h dd H' (e.trans e') (nw_back e _ _ q)
theorem ext_mk {H : Hp} {x dx C : Addr} (nx : H x = none) (ndx : H dx = none) (ne : dx ≠ x) : Ext H (upd (upd H dx (.own x)) x (.ins C dx [])) := fun b o q => by
  rw [upd_ne (ne_of_none q nx), upd_ne (ne_of_none q ndx)]
  exact q
theorem make_step {H : Hp} {x dx C : Addr} (nx : H x = none) (ndx : H dx = none) (ne : dx ≠ x) {H2 : Hp} {fs : List (Str × V)} (h1 : H2 x = some (.ins C dx fs)) (h2 : ∀ b o, (upd (upd H dx (.own x)) x (.ins C dx [])) b = some o → b ≠ x → H2 b = some o) :
    Ext H H2 ∧ nw H H2 x = some (.ins C dx fs) := ⟨fun b o q => h2 b o (ext_mk nx ndx ne b o q) (ne_of_none q nx), by rw [nw_at nx]; exact h1⟩
/-- the move that two words tell; that a value tells -/
def rd2 : List Str → Option (Str × Str)
  | [a, b] => if a ∈ W4 ∧ isName b = true then some (a, b) else none
  | _ => none
def readOf : PyData → Option (Str × Str)
  | .str z => rd2 (Txt.split z " ")
  | _ => none
theorem rd2_some {ws : List Str} {m : Str × Str} (h : rd2 ws = some m) : ws = [m.1, m.2] ∧ Good m := by
  match ws, h with
  | [a, b], h =>
    have h : (if a ∈ W4 ∧ isName b = true then some (a, b) else none) = some m := h
    by_cases q : a ∈ W4 ∧ isName b = true
    · rw [if_pos q] at h
      cases h
      exact ⟨rfl, q⟩
    · rw [if_neg q] at h
      cases h
theorem readOf_some {d : PyData} {m : Str × Str} (h : readOf d = some m) : d = .str (textM m) ∧ Good m := by
  cases d with
  | str z =>
    obtain ⟨e, g⟩ := rd2_some (show rd2 (Txt.split z " ") = some m from h)
    exact ⟨by rw [split2 e]; rfl, g⟩
  | _ => cases h
theorem readOf_text {m : Str × Str} (h : Good m) : readOf (.str (textM m)) = some m := by
  have e : Txt.split (textM m) " " = [m.1, m.2] := split_two (name_no (w4_name h.1) (by decide +kernel)) (name_no h.2 (by decide +kernel))
  show rd2 (Txt.split (textM m) " ") = some m
  rw [e]
  exact if_pos h
theorem eqV_str (a b : Str) : eqV (.str a) (.str b) = decide (b = a) := by
  show (a == b) = _
  by_cases h : b = a
  · subst h
    simp
  · rw [decide_eq_false h]
    exact beq_eq_false_iff_ne.mpr fun e => h e.symm
theorem kin_head {wd : Str} (h : wd ∈ W4) : ∃ r, kinOf wd = true :: r := by
  rcases w4_cases h with rfl | rfl | rfl | rfl
  · exact ⟨[true, true, false, false, false], by decide +kernel⟩
  · exact ⟨[true, false, true, false, false], by decide +kernel⟩
  · exact ⟨[false, false, false, true, false], by decide +kernel⟩
  · exact ⟨[false, false, false, false, true], by decide +kernel⟩
section
variable {P : Program} {w : World} {K : PySem.W.Frag} {mg : Str → Option Value} {base : Heap} {CM CB CL CA CS CF CE CN CD : Addr} {tL tN : Tok}
/-! ### move_of, _law_made -/
def spOf (cl : Str → Addr) (CN : Addr) : Sp := fun vs H Q E => ∃ (wd : Str) (v : V) (d : PyData), vs = [.str wd, v] ∧ wd ∈ W4 ∧ TV H v d ∧ SmD d ∧
  (∀ n, nameOf d = some n → ∀ a H', Ext H H' → MoveAt cl (nw H H') a (wd, n) → Q (.ref a) H') ∧ (nameOf d = none → Errs CN v H E)
abbrev s_move_of : Stmt := top 15
abbrev N_move_of : List Str := ["word", "name"]
theorem sc_move_of : FnScope N_move_of ["word", "name"] (defScope s_move_of) := ⟨rfl, rfl, rfl, by decide +kernel, rfl, by decide +kernel, by decide +kernel⟩
theorem ok_of {f : Addr} {fd : FuncData} (F : Fun K "move_of" "move_of" s_move_of f fd) (T : Tx K mg CM CB CL CA CS CF CE CN CD tL tN)
    (c_Load : Mkc P w K mg base (L2.CX P w) 4 CL "Load" (spCI K CN "load" CL)) (c_Again : Mkc P w K mg base (L2.CX P w) 4 CA "Again" (spCI K CN "again" CA)) (c_Store : Mkc P w K mg base (L2.CX P w) 4 CS "Store" (spCI K CN "store" CS)) (c_Forget : Mkc P w K mg base (L2.CX P w) 4 CF "Forget" (spCI K CN "forget" CF)) :
    FnOk P w K mg base (L2.CX P w) 6 f fd ["word", "name"] (spOf (clsOf CL CA CS CF) CN) := by
  refine F.okX sc_move_of (fun vs H Q E h => ?_) (fun cdv A outer s H vs Q E hr h => ?_)
  · obtain ⟨wd, v, d, rfl, _⟩ := h
    rfl
  · obtain ⟨wd, v, d, rfl, hw, hv, sm, k, ke⟩ := h
    refine ⟨_, (pss_cons (ps_if (pt_cmpR op_eq (pv 0) pe_str (nomark _)) (pss_one (ps_ret (pe_mkc c_Load (hr.mono (by decide)) (by rfl) passC (pa_cons (pv 1) pa_nil)))) pss_nil)
      (pss_cons (ps_if (pt_cmpR op_eq (pv 0) pe_str (nomark _)) (pss_one (ps_ret (pe_mkc c_Again (hr.mono (by decide)) (by rfl) passC (pa_cons (pv 1) pa_nil)))) pss_nil)
      (pss_one (ps_ret (pe_ifExp (pt_cmpR op_eq (pv 0) pe_str (nomark _)) (pe_mkc c_Store (hr.mono (by decide)) (by rfl) passC (pa_cons (pv 1) pa_nil)) (pe_mkc c_Forget (hr.mono (by decide)) (by rfl) passC (pa_cons (pv 1) pa_nil))))))), ?_⟩
    refine ⟨_, rfl, rfl, _, rfl, ?_⟩
    rcases w4_cases hw with rfl | rfl | rfl | rfl
    · refine iteT ?_
      exact ⟨_, rfl, fun x dx nx ndx ne => ⟨x, dx, v, d, rfl, upd_same, hv.ext (ext_mk nx ndx ne), sm, fun n hn H2 h1 h2 => ⟨rfl, by obtain ⟨e, q⟩ := make_step nx ndx ne h1 h2; exact k n hn x H2 e ⟨dx, q⟩⟩, fun hn => (ke hn).ext (ext_mk nx ndx ne)⟩⟩
    · refine iteNo (strNo (by decide +kernel)) ?_
      refine ⟨_, rfl, rfl, _, rfl, ?_⟩
      refine iteT ?_
      exact ⟨_, rfl, fun x dx nx ndx ne => ⟨x, dx, v, d, rfl, upd_same, hv.ext (ext_mk nx ndx ne), sm, fun n hn H2 h1 h2 => ⟨rfl, by obtain ⟨e, q⟩ := make_step nx ndx ne h1 h2; exact k n hn x H2 e ⟨dx, q⟩⟩, fun hn => (ke hn).ext (ext_mk nx ndx ne)⟩⟩
    · refine iteNo (strNo (by decide +kernel)) ?_
      refine ⟨_, rfl, rfl, _, rfl, ?_⟩
      refine iteNo (strNo (by decide +kernel)) ?_
      refine ⟨_, rfl, rfl, _, rfl, ?_⟩
      refine iteT ?_
      exact ⟨_, rfl, fun x dx nx ndx ne => ⟨x, dx, v, d, rfl, upd_same, hv.ext (ext_mk nx ndx ne), sm, fun n hn H2 h1 h2 => ⟨rfl, by obtain ⟨e, q⟩ := make_step nx ndx ne h1 h2; exact k n hn x H2 e ⟨dx, q⟩⟩, fun hn => (ke hn).ext (ext_mk nx ndx ne)⟩⟩
    · refine iteNo (strNo (by decide +kernel)) ?_
      refine ⟨_, rfl, rfl, _, rfl, ?_⟩
      refine iteNo (strNo (by decide +kernel)) ?_
      refine ⟨_, rfl, rfl, _, rfl, ?_⟩
      refine iteNo (strNo (by decide +kernel)) ?_
      exact ⟨_, rfl, fun x dx nx ndx ne => ⟨x, dx, v, d, rfl, upd_same, hv.ext (ext_mk nx ndx ne), sm, fun n hn H2 h1 h2 => ⟨rfl, by obtain ⟨e, q⟩ := make_step nx ndx ne h1 h2; exact k n hn x H2 e ⟨dx, q⟩⟩, fun hn => (ke hn).ext (ext_mk nx ndx ne)⟩⟩
abbrev s__law_made : Stmt := top 21
abbrev N__law_made : List Str := ["_law_word", "_law_name_here"]
theorem sc__law_made : FnScope N__law_made ["_law_word", "_law_name_here"] (defScope s__law_made) := ⟨rfl, rfl, rfl, by decide +kernel, rfl, by decide +kernel, by decide +kernel⟩
theorem ok_made {f : Addr} {fd : FuncData} (F : Fun K "_law_made" "_law_made" s__law_made f fd) (T : Tx K mg CM CB CL CA CS CF CE CN CD tL tN)
    (c_Load : Mkc P w K mg base (L2.CX P w) 4 CL "Load" (spCI K CN "load" CL)) (c_Again : Mkc P w K mg base (L2.CX P w) 4 CA "Again" (spCI K CN "again" CA)) (c_Store : Mkc P w K mg base (L2.CX P w) 4 CS "Store" (spCI K CN "store" CS)) (c_Forget : Mkc P w K mg base (L2.CX P w) 4 CF "Forget" (spCI K CN "forget" CF)) :
    FnOk P w K mg base (L2.CX P w) 6 f fd ["_law_word", "_law_name_here"] (spOf (clsOf CL CA CS CF) CN) := by
  refine F.okX sc__law_made (fun vs H Q E h => ?_) (fun cdv A outer s H vs Q E hr h => ?_)
  · obtain ⟨wd, v, d, rfl, _⟩ := h
    rfl
  · obtain ⟨wd, v, d, rfl, hw, hv, sm, k, ke⟩ := h
    refine ⟨_, (pss_cons (ps_if (pt_cmpR op_eq (pv 0) pe_str (nomark _)) (pss_one (ps_ret (pe_mkc c_Load (hr.mono (by decide)) (by rfl) passC (pa_cons (pv 1) pa_nil)))) pss_nil)
      (pss_cons (ps_if (pt_cmpR op_eq (pv 0) pe_str (nomark _)) (pss_one (ps_ret (pe_mkc c_Again (hr.mono (by decide)) (by rfl) passC (pa_cons (pv 1) pa_nil)))) pss_nil)
      (pss_one (ps_ret (pe_ifExp (pt_cmpR op_eq (pv 0) pe_str (nomark _)) (pe_mkc c_Store (hr.mono (by decide)) (by rfl) passC (pa_cons (pv 1) pa_nil)) (pe_mkc c_Forget (hr.mono (by decide)) (by rfl) passC (pa_cons (pv 1) pa_nil))))))), ?_⟩
    refine ⟨_, rfl, rfl, _, rfl, ?_⟩
    rcases w4_cases hw with rfl | rfl | rfl | rfl
    · refine iteT ?_
      exact ⟨_, rfl, fun x dx nx ndx ne => ⟨x, dx, v, d, rfl, upd_same, hv.ext (ext_mk nx ndx ne), sm, fun n hn H2 h1 h2 => ⟨rfl, by obtain ⟨e, q⟩ := make_step nx ndx ne h1 h2; exact k n hn x H2 e ⟨dx, q⟩⟩, fun hn => (ke hn).ext (ext_mk nx ndx ne)⟩⟩
    · refine iteNo (strNo (by decide +kernel)) ?_
      refine ⟨_, rfl, rfl, _, rfl, ?_⟩
      refine iteT ?_
      exact ⟨_, rfl, fun x dx nx ndx ne => ⟨x, dx, v, d, rfl, upd_same, hv.ext (ext_mk nx ndx ne), sm, fun n hn H2 h1 h2 => ⟨rfl, by obtain ⟨e, q⟩ := make_step nx ndx ne h1 h2; exact k n hn x H2 e ⟨dx, q⟩⟩, fun hn => (ke hn).ext (ext_mk nx ndx ne)⟩⟩
    · refine iteNo (strNo (by decide +kernel)) ?_
      refine ⟨_, rfl, rfl, _, rfl, ?_⟩
      refine iteNo (strNo (by decide +kernel)) ?_
      refine ⟨_, rfl, rfl, _, rfl, ?_⟩
      refine iteT ?_
      exact ⟨_, rfl, fun x dx nx ndx ne => ⟨x, dx, v, d, rfl, upd_same, hv.ext (ext_mk nx ndx ne), sm, fun n hn H2 h1 h2 => ⟨rfl, by obtain ⟨e, q⟩ := make_step nx ndx ne h1 h2; exact k n hn x H2 e ⟨dx, q⟩⟩, fun hn => (ke hn).ext (ext_mk nx ndx ne)⟩⟩
    · refine iteNo (strNo (by decide +kernel)) ?_
      refine ⟨_, rfl, rfl, _, rfl, ?_⟩
      refine iteNo (strNo (by decide +kernel)) ?_
      refine ⟨_, rfl, rfl, _, rfl, ?_⟩
      refine iteNo (strNo (by decide +kernel)) ?_
      exact ⟨_, rfl, fun x dx nx ndx ne => ⟨x, dx, v, d, rfl, upd_same, hv.ext (ext_mk nx ndx ne), sm, fun n hn H2 h1 h2 => ⟨rfl, by obtain ⟨e, q⟩ := make_step nx ndx ne h1 h2; exact k n hn x H2 e ⟨dx, q⟩⟩, fun hn => (ke hn).ext (ext_mk nx ndx ne)⟩⟩

/-! ### Move.read -/
def spRead (cl : Str → Addr) (CD : Addr) : Sp := fun vs H Q E => ∃ (c v : V) (d : PyData), vs = [c, v] ∧ TV H v d ∧ SmD d ∧
  (∀ m, readOf d = some m → ∀ a H', Ext H H' → MoveAt cl (nw H H') a m → Q (.ref a) H') ∧ (readOf d = none → Errs CD v H E)
abbrev s_Move_read : Stmt := inClass (top 9) 1
abbrev N_Move_read : List Str := ["cls", "text", "words"]
theorem sc_Move_read : FnScope N_Move_read ["cls", "text"] (defScope s_Move_read) := ⟨rfl, rfl, rfl, by decide +kernel, rfl, by decide +kernel, by decide +kernel⟩
theorem in_w4 {wd : Str} : inV (.str wd) ([.str "load", .str "again", .str "store", .str "forget"] : List V) = decide (wd ∈ W4) := by
  show (eqV (.str "load") (.str wd) || (eqV (.str "again") (.str wd) || (eqV (.str "store") (.str wd) || (eqV (.str "forget") (.str wd) || false)))) = _
  rw [eqV_str, eqV_str, eqV_str, eqV_str]
  simp only [W4, List.mem_cons, List.not_mem_nil, or_false, Bool.decide_or, Bool.or_false]
theorem ok_read {f : Addr} {fd : FuncData} (F : Fun K "read" "Move.read" s_Move_read f fd) (T : Tx K mg CM CB CL CA CS CF CE CN CD tL tN)
    (c_is_name : Cal P w K mg base CX0 1 "is_name" spName) (c_move_of : Cal P w K mg base (L2.CX P w) 6 "move_of" (spOf (clsOf CL CA CS CF) CN)) (x_BadMove : Xer P w K mg base CD "BadMove" ["value"]) :
    FnOk P w K mg base (L2.CX P w) 7 f fd ["cls", "text"] (spRead (clsOf CL CA CS CF) CD) := by
  refine F.okX sc_Move_read (fun vs H Q E h => ?_) (fun cdv A outer s H vs Q E hr h => ?_)
  · obtain ⟨c, v, d, rfl, _⟩ := h
    rfl
  · obtain ⟨c, v, d, rfl, hv, sm, k, ke⟩ := h
    refine ⟨_, (pss_cons (ps_set (i := 2) sc_Move_read.nd rfl (by first | exact Or.inl rfl | exact Or.inr rfl) (pe_ifExp (pt_val (pe_callB call_isi (by rfl) (T.bn _ (by decide +kernel)) (by decide +kernel) (pa_cons (pv 1) (pa_cons (pe_gty (T := "str") (by rfl) (T.bn _ (by decide +kernel)) (by decide +kernel)) pa_nil)))) (pe_split (pv 1) pe_str) (pe_lst pa_nil)))
      (pss_cons (ps_if ((pw_or (pt_cmpR op_ne (pe_callB call_len_seq (by rfl) (T.bn _ (by decide +kernel)) (by decide +kernel) (pa_cons (pv 2) pa_nil)) pe_int (nomark _)) (pw_or (pt_cmpR op_notIn_seq (pe_ix ix_list (pv 2) pe_int (fun _ _ => rfl)) (pe_tup (pa_cons pe_str (pa_cons pe_str (pa_cons pe_str (pa_cons pe_str pa_nil))))) rfl) (pw_or1 (pt_not (pt_val (pe_cal c_is_name (hr.mono (by decide)) (by rfl) pass0 (pa_cons (pe_ix ix_list (pv 2) pe_int (fun _ _ => rfl)) pa_nil)))))))).pt (pss_one (ps_raise rfl tkC (pmk_err x_BadMove (hr.mono (by decide)) (by rfl) (pa_cons (pv 1) pa_nil)))) pss_nil)
      (pss_one (ps_ret (pe_cal c_move_of (hr.mono (by decide)) (by rfl) passC (pa_cons (pe_ix ix_list (pv 2) pe_int (fun _ _ => rfl)) (pa_cons (pe_ix ix_list (pv 2) pe_int (fun _ _ => rfl)) pa_nil))))))), ?_⟩
    -- the error, from any heap that has grown
    have bad : readOf d = none → ∀ H1, Ext H H1 → ∀ dd, H1 dd = none → E (.ref CD) (some dd) (upd H1 dd (.xd [("value", v)])) := fun hn H1 e dd nd => ke hn dd _ (e.trans (Ext.upd nd)) (by rw [nw_at (ext_free e nd)]; exact upd_same)
    refine ⟨_, rfl, _, _, _, _, isStrD d, rfl, .ty "str", tyX_of hv, kit_str d, _, rfl, ?_⟩
    cases hd : isStrD d with
    | false =>
      refine iteF ?_
      have hn : readOf d = none := by
        cases d <;> first | rfl | cases hd
      refine ⟨(by show 0 ≤ sizeLine; decide), fun l hl => ?_⟩
      refine ⟨_, rfl, l, _, rfl, .inl (SqL.of upd_same), rfl, _, rfl, ?_⟩
      refine iteT ?_
      exact ⟨_, rfl, rfl, (by show 1 ≤ 1000; decide), fun dd nd => bad hn _ (Ext.upd hl) dd nd⟩
    | true =>
      refine iteT ?_
      obtain ⟨z, rfl⟩ := strD hd
      cases tv_str hv
      have hz : z.length ≤ 1000 := sm z rfl
      refine ⟨_, rfl, ⟨_, rfl⟩, _, _, rfl, rfl, (by decide +kernel), Nat.le_trans (Nat.add_le_add_right hz 2) (by decide), fun l hl => ?_⟩
      generalize hw : Txt.split z " " = ws
      have hL : (upd H l (.lst (ws.map V.str))) l = some (.lst (ws.map V.str)) := upd_same
      have hE : Ext H (upd H l (.lst (ws.map V.str))) := Ext.upd hl
      generalize (upd H l (.lst (ws.map V.str))) = H1 at hL hE
      refine ⟨_, rfl, l, _, rfl, .inl (SqL.of hL), rfl, _, rfl, ?_⟩
      have rd : readOf (.str z) = rd2 ws := by rw [← hw]; rfl
      refine ite2 (fun h1 => ?_) (fun h1 => ?_)
      · refine ⟨_, rfl, rfl, (by show 1 ≤ 1000; decide), fun dd nd => bad ?_ H1 hE dd nd⟩
        rw [rd]
        match ws, h1 with
        | [], _ => rfl
        | [_], _ => rfl
        | [_, _], h => simp at h
        | _ :: _ :: _ :: _, _ => rfl
      · obtain ⟨a, b, rfl⟩ : ∃ a b, ws = [a, b] := by
          match ws, h1 with
          | [a, b], _ => exact ⟨a, b, rfl⟩
          | [], h => simp at h
          | [_], h => simp at h
          | _ :: _ :: _ :: _, h =>
            simp at h
            omega
        have hb : b.length ≤ 1000 := Nat.le_trans (split_sub (x := z) sp_tl sp_kd (by rw [hw]; simp)).1 hz
        refine ⟨_, rfl, l, _, 0, .str a, rfl, rfl, SqL.of hL, atI_nat (j := 0) rfl, (by show 4 ≤ sizeLine; decide), fun t ht => ?_⟩
        have hL2 : (upd H1 t (.tup [.str "load", .str "again", .str "store", .str "forget"])) l = some (.lst [.str a, .str b]) := by rw [upd_ne (ne_of_none hL ht)]; exact hL
        refine ⟨t, _, rfl, .inr (SqT.of upd_same), rfl, rfl, _, rfl, ?_⟩
        have hE2 : Ext H (upd H1 t (.tup [.str "load", .str "again", .str "store", .str "forget"])) := hE.trans (Ext.upd ht)
        generalize (upd H1 t (.tup [.str "load", .str "again", .str "store", .str "forget"])) = H2 at hL2 hE2
        rw [in_w4]
        by_cases ha : a ∈ W4
        · refine iteNo (by rw [decide_eq_true ha]; rfl) ?_
          refine ⟨_, rfl, l, _, 1, .str b, rfl, rfl, SqL.of hL2, atI_nat (j := 1) rfl, .str b, .str b, rfl, .str b, fun z' e' => by cases e'; exact hb, fun H3 e3 => ⟨_, rfl, ?_⟩⟩
          cases hnb : isName b with
          | false =>
            rw [nameOf_no hnb]
            refine iteT ?_
            refine ⟨_, rfl, rfl, (by show 1 ≤ 1000; decide), fun dd nd => bad ?_ H3 (hE2.trans e3) dd nd⟩
            rw [rd]
            exact if_neg fun q => by rw [hnb] at q; exact absurd q.2 Bool.false_ne_true
          | true =>
            rw [nameOf_str hnb]
            refine iteF ?_
            have hL3 := e3 _ _ hL2
            have hE3 := hE2.trans e3
            refine ⟨_, rfl, l, _, 0, .str a, rfl, rfl, SqL.of hL3, atI_nat (j := 0) rfl, _, rfl, l, _, 1, .str b, rfl, rfl, SqL.of hL3, atI_nat (j := 1) rfl, a, .str b, .str b, rfl, ha, .str b, fun z' e' => by cases e'; exact hb, fun n hn' a' H4 e4 hm => ?_, fun hn' => ?_⟩
            · rw [nameOf_str hnb] at hn'
              cases hn'
              exact k (a, b) (by rw [rd]; exact if_pos ⟨ha, hnb⟩) a' H4 (hE3.trans e4) (hm.mono (nw_back hE3))
            · rw [nameOf_str hnb] at hn'
              cases hn'
        · refine iteYes (by rw [decide_eq_false ha]; rfl) ?_
          refine ⟨_, rfl, rfl, (by show 1 ≤ 1000; decide), fun dd nd => bad ?_ H2 hE2 dd nd⟩
          rw [rd]
          exact if_neg fun q => ha q.1
/-! ### Move.__eq__ and Move.__str__ -/
/-- both answers; the other one a move, a text or a tuple -/
def spEqM (cl : Str → Addr) : Sp := fun vs H Q _ => ∃ (a : Addr) (y : V) (m : Str × Str), vs = [.ref a, y] ∧ MoveAt cl H a m ∧ Good m ∧
  ((∃ (b : Addr) (m' : Str × Str), y = .ref b ∧ MoveAt cl H b m' ∧ Good m' ∧ Q (.bl (decide (m = m'))) H) ∨ (∃ d, TV H y d ∧ tyN d ∈ ["str", "tuple"] ∧ Q (.bl false) H))
abbrev s_Move_eq : Stmt := inClass (top 9) 2
abbrev N_Move_eq : List Str := ["self", "other"]
theorem sc_Move_eq : FnScope N_Move_eq ["self", "other"] (defScope s_Move_eq) := ⟨rfl, rfl, rfl, by decide +kernel, rfl, by decide +kernel, by decide +kernel⟩
theorem ok_eq {f fs fe : Addr} {fd : FuncData} (F : Fun K "__eq__" "Move.__eq__" s_Move_eq f fd) (T : Tx K mg CM CB CL CA CS CF CE CN CD tL tN) (TC : ∀ wd ∈ W4, ClT K CM CB CL CA CS CF (clsOf CL CA CS CF wd) fs fe (kinOf wd)) (kO : ∀ T ∈ ["str", "tuple"], PySem.W.kitOne K (.type T) (.ref CM) = some false) :
    FnOk P w K mg base CX0 1 f fd ["self", "other"] (spEqM (clsOf CL CA CS CF)) := by
  refine F.ok sc_Move_eq (fun vs H Q E h => ?_) (fun cdv A outer s H vs Q E hr h => ?_)
  · obtain ⟨a, y, m, rfl, _⟩ := h
    rfl
  · obtain ⟨a, y, m, rfl, ⟨dx, ha⟩, hg, h⟩ := h
    have C := TC m.1 hg.1
    refine ⟨_, (pss_one (ps_ret (pe_and (pe_callB call_isi (by rfl) (T.bn _ (by decide +kernel)) (by decide +kernel) (pa_cons (pv 1) (pa_cons (pe_gref (by rfl) T.m_Move) pa_nil))) (pe_and (pe_cmpR op_eq (pe_fld (pv 0) rfl) (pe_fld (pv 1) rfl) (nomark _)) (pe_one (pe_cmpR op_eq (pe_fld (pv 0) rfl) (pe_fld (pv 1) rfl) (nomark _))))))), ?_⟩
    rcases h with ⟨b, m', rfl, ⟨dy, hb⟩, hg', k⟩ | ⟨d, hv, hd, k⟩
    · have C' := TC m'.1 hg'.1
      have km : PySem.W.kitOne K (.ref (clsOf CL CA CS CF m'.1)) (.ref CM) = some true := C'.kit (CM, true) (by
        obtain ⟨r, e⟩ := kin_head hg'.1
        rw [e]
        exact List.mem_cons_self)
      refine ⟨_, rfl, _, _, _, _, true, rfl, .own CM, .base (.ins hb C'.cl C'.ha C'.hn C'.htk C'.hm), km, _, rfl, ?_⟩
      refine iteT ?_
      refine ⟨_, rfl, a, _, dx, _, _, rfl, ha, C.cl, C.nW, flds_word _ _, _, rfl, b, _, dy, _, _, rfl, hb, C'.cl, C'.nW, flds_word _ _, rfl, _, rfl, ?_⟩
      by_cases hw : m.1 = m'.1
      · refine iteYes (by simp [hw]) ?_
        refine ⟨_, rfl, a, _, dx, _, _, rfl, ha, C.cl, C.nN, flds_name _ _, _, rfl, b, _, dy, _, _, rfl, hb, C'.cl, C'.nN, flds_name _ _, rfl, ?_⟩
        have e : decide (V.str m.2 = V.str m'.2) = decide (m = m') := by
          by_cases hn : m.2 = m'.2
          · have e1 : m = m' := Prod.ext hw hn
            rw [e1, decide_eq_true rfl, decide_eq_true rfl]
          · have e1 : decide (m = m') = false := decide_eq_false fun q => hn (congrArg Prod.snd q)
            rw [e1]
            exact strNo hn
        rw [e]
        exact k
      · refine iteNo (strNo hw) ?_
        have e : decide (m = m') = false := decide_eq_false fun q => hw (congrArg Prod.fst q)
        rw [e] at k
        exact k
    · refine ⟨_, rfl, _, _, _, _, false, rfl, .own CM, tyX_of hv, kO _ hd, _, rfl, ?_⟩
      refine iteF ?_
      exact k
def spStr (cl : Str → Addr) : Sp := fun vs H Q _ => ∃ (a : Addr) (m : Str × Str), vs = [.ref a] ∧ MoveAt cl H a m ∧ Good m ∧ Q (.str (textM m)) H
abbrev s_Move_str : Stmt := inClass (top 9) 3
abbrev N_Move_str : List Str := ["self"]
theorem sc_Move_str : FnScope N_Move_str ["self"] (defScope s_Move_str) := ⟨rfl, rfl, rfl, by decide +kernel, rfl, by decide +kernel, by decide +kernel⟩
theorem ok_str {f fs fe : Addr} {fd : FuncData} (F : Fun K "__str__" "Move.__str__" s_Move_str f fd) (T : Tx K mg CM CB CL CA CS CF CE CN CD tL tN) (TC : ∀ wd ∈ W4, ClT K CM CB CL CA CS CF (clsOf CL CA CS CF wd) fs fe (kinOf wd)) :
    FnOk P w K mg base CX0 1 f fd ["self"] (spStr (clsOf CL CA CS CF)) := by
  refine F.ok sc_Move_str (fun vs H Q E h => ?_) (fun cdv A outer s H vs Q E hr h => ?_)
  · obtain ⟨a, m, rfl, _⟩ := h
    rfl
  · obtain ⟨a, m, rfl, ⟨dx, ha⟩, hg, k⟩ := h
    have C := TC m.1 hg.1
    have h1 := (name_len (w4_name hg.1)).2
    have h2 := (name_len hg.2).2
    have h3 : (" " : Str).length = 1 := by decide +kernel
    have h4 : sizeLine = 16777216 := sizeLine_eq
    refine ⟨_, (pss_one (ps_ret (pe_joined (.cons (pe_fmt (pe_fld (pv 0) rfl)) (.cons pe_str (.cons (pe_fmt (pe_fld (pv 0) rfl)) .nil)))))), ?_⟩
    refine ⟨_, rfl, a, _, dx, _, _, rfl, ha, C.cl, C.nW, flds_word _ _, .inl ⟨m.1, rfl, by omega, m.1, rfl, ?_, ?_⟩⟩
    · rw [Str.length_append]
      have : Str.empty.length = 0 := rfl
      omega
    refine ⟨" ", rfl, ?_, ?_⟩
    · rw [Str.length_append, Str.length_append]
      have : Str.empty.length = 0 := rfl
      omega
    refine ⟨_, rfl, a, _, dx, _, _, rfl, ha, C.cl, C.nN, flds_name _ _, .inl ⟨m.2, rfl, by omega, m.2, rfl, ?_, ?_⟩⟩
    · rw [Str.length_append, Str.length_append, Str.length_append]
      have : Str.empty.length = 0 := rfl
      omega
    have e : Str.empty ++ m.1 ++ " " ++ m.2 = textM m := by
      unfold textM
      refine ext_tl ?_
      rw [tl_append, tl_append, tl_append, tl_append, tl_append]
      rfl
    show Q (.str (Str.empty ++ m.1 ++ " " ++ m.2)) H
    rw [e]
    exact k
end
end K18
end
section
set_option Elab.async false
set_option autoImplicit false
set_option linter.all false
set_option maxRecDepth 100000
set_option maxHeartbeats 4000000
namespace K18
open PySem PySem.Spec PyProof.Rows L2 Ls
open C8 (pss_cut tCut)
open TL
/-! ### _law_heard -/
/-- what the top says of an error class at C, over StowError's at CE -/
structure ErrT (K : PySem.W.Frag) (CE C : Addr) : Prop where
  exm : PySem.W.exmOne K (.ref C) (.ref CE) = some true
  ec : ExcC K C
  ve : PySem.W.kitOne K (.ref C) (.type "ValueError") = some true
  own : PySem.W.kitOne K (.ref C) (.ref C) = some true
  xf : XfC K C
  no : PySem.W.findIn K (.ref C) "value" = some none
/-- an error of ours was heard: its word and what it kept -/
def HeardE (CN CD : Addr) (Q : VK) : XK := fun cls d H' => ∃ (C dd : Addr) (v : V) (wd : Str), cls = .ref C ∧ d = some dd ∧ H' dd = some (.xd [("value", v)]) ∧ ((C = CD ∧ wd = "move") ∨ (C = CN ∧ wd = "name")) ∧ ∀ p H2, Ext H' H2 → nw H' H2 p = some (.tup [.str wd, v]) → Q (.ref p) H2
/-- a value was heard -/
def HeardV (Q : VK) : VK := fun v H1 => ∀ p H2, Ext H1 H2 → nw H1 H2 p = some (.lst [v]) → Q (.ref p) H2
def TTh (CN CD : Addr) : (XK → Hp → VK → Prop) → Hp → VK → Prop := fun tl H Q => ∀ (E' : XK) (Q' : VK), (∀ cls d H', HeardE CN CD Q cls d H' → E' cls d H') → (∀ v H1, HeardV Q v H1 → Q' v H1) → tl E' H Q'
section
variable {P : Program} {w : World} {K : PySem.W.Frag} {mg : Str → Option Value} {base : Heap} {CM CB CL CA CS CF CE CN CD : Addr} {tL tN : Tok}
abbrev s__law_heard : Stmt := top 20
abbrev N__law_heard : List Str := ["_law_ask", "_law_caught", "error"]
theorem sc__law_heard : FnScope N__law_heard ["_law_ask"] (defScope s__law_heard) := ⟨rfl, rfl, rfl, by decide +kernel, rfl, by decide +kernel, by decide +kernel⟩
theorem heard_gives {A : Around} {stack : List Env} {g : Addr} {cdv : Value} {q : Str} (T : Tx K mg CM CB CL CA CS CF CE CN CD tL tN) (eN : ErrT K CE CN) (eD : ErrT K CE CD) (nND : PySem.W.kitOne K (.ref CN) (.ref CD) = some false) (nDN : PySem.W.kitOne K (.ref CD) (.ref CN) = some false) :
    GivesP P w K mg base A stack N__law_heard "_law_heard" (defScope s__law_heard) g cdv (defBody s__law_heard) "_law_ask" q (TTh CN CD) := by
  intro f c' s H Q tl act hc h
  refine ⟨_, (pss_cons (ps_set (i := 1) sc__law_heard.nd rfl (by first | exact Or.inl rfl | exact Or.inr rfl) pe_non)
      (pss_cons (ps_try_ask (i := 2) rfl rfl sc__law_heard.nd rfl rfl ⟨by rfl, by decide, .inl T.m_StowError⟩ LamX.takes0 rfl (fun W pn xe tk _ => (pss_one (ps_ret (pe_lst (pa_cons (act W pn xe _ _ tk) pa_nil)))))
      (fun a pn => (pss_one (ps_set (i := 1) sc__law_heard.nd rfl (by first | exact Or.inl rfl | exact Or.inr rfl) (pv 2)))))
      (pss_cons (ps_if ((pw_and (pt_val (pe_callB call_isX (by rfl) (T.bn _ (by decide +kernel)) (by decide +kernel) (pa_cons (pv 1) (pa_cons (pe_gref (by rfl) T.m_BadMove) pa_nil)))) (pw_and (pt_val (pe_callB call_isX (by rfl) (T.bn _ (by decide +kernel)) (by decide +kernel) (pa_cons (pv 1) (pa_cons (pe_gty (T := "ValueError") (by rfl) (T.bn _ (by decide +kernel)) (by decide +kernel)) pa_nil)))) (pw_and1 (pt_not (pt_val (pe_callB call_isX (by rfl) (T.bn _ (by decide +kernel)) (by decide +kernel) (pa_cons (pv 1) (pa_cons (pe_gref (by rfl) T.m_BadName) pa_nil))))))))).pt (pss_one (ps_ret (pe_tup (pa_cons pe_str (pa_cons (pe_xk (pv 1)) pa_nil))))) pss_nil)
      (pss_cons (ps_if ((pw_and (pt_val (pe_callB call_isX (by rfl) (T.bn _ (by decide +kernel)) (by decide +kernel) (pa_cons (pv 1) (pa_cons (pe_gref (by rfl) T.m_BadName) pa_nil)))) (pw_and (pt_val (pe_callB call_isX (by rfl) (T.bn _ (by decide +kernel)) (by decide +kernel) (pa_cons (pv 1) (pa_cons (pe_gty (T := "ValueError") (by rfl) (T.bn _ (by decide +kernel)) (by decide +kernel)) pa_nil)))) (pw_and1 (pt_not (pt_val (pe_callB call_isX (by rfl) (T.bn _ (by decide +kernel)) (by decide +kernel) (pa_cons (pv 1) (pa_cons (pe_gref (by rfl) T.m_BadMove) pa_nil))))))))).pt (pss_one (ps_ret (pe_tup (pa_cons pe_str (pa_cons (pe_xk (pv 1)) pa_nil))))) pss_nil)
      (pss_one (ps_ret (pe_tup (pa_cons pe_str (pa_cons pe_non pa_nil))))))))), ?_⟩
  refine ⟨rfl, hc, h _ _ (fun cls d H' he => ?_) (fun v H1 hv => ⟨(by show 1 ≤ sizeLine; decide), fun p hp => hv p _ (Ext.upd hp) (by rw [nw_at hp]; exact upd_same)⟩)⟩
  obtain ⟨C, dd, v, wd, rfl, rfl, hdd, hC, k⟩ := he
  have eC : ErrT K CE C := by
    rcases hC with ⟨rfl, _⟩ | ⟨rfl, _⟩
    · exact eD
    · exact eN
  refine ⟨true, eC.exm, fun _ a ha => ?_, fun z => nomatch z⟩
  have hd1 : (upd H' a (exk a (.ref C) (some dd))) dd = some (.xd [("value", v)]) := by rw [upd_ne (ne_of_none hdd ha)]; exact hdd
  have ha1 : (upd H' a (exk a (.ref C) (some dd))) a = some (exk a (.ref C) (some dd)) := upd_same
  have e1 : Ext H' (upd H' a (exk a (.ref C) (some dd))) := Ext.upd ha
  generalize (upd H' a (exk a (.ref C) (some dd))) = H1 at hd1 ha1 e1
  have xd : ∀ d', some dd = some d' → ∃ fs, H1 d' = some (.xd fs) := fun d' z => by
    cases z
    exact ⟨_, hd1⟩
  have last : ∀ p, H1 p = none → Q (.ref p) (upd H1 p (.tup [.str wd, v])) := fun p hp => k p _ (e1.trans (Ext.upd hp)) (by rw [nw_at (ext_free e1 hp)]; exact upd_same)
  refine ⟨_, rfl, ?_⟩
  rcases hC with ⟨rfl, rfl⟩ | ⟨rfl, rfl⟩
  · refine ⟨_, rfl, a, _, _, _, _, true, rfl, ha1, eC.ec, xd, fun u r => r, eC.own, _, rfl, ?_⟩
    refine iteT ?_
    refine ⟨_, rfl, a, _, _, _, _, true, rfl, ha1, eC.ec, xd, fun u r => r, eC.ve, _, rfl, ?_⟩
    refine iteT ?_
    refine ⟨_, rfl, a, _, _, _, _, false, rfl, ha1, eC.ec, xd, fun u r => r, nDN, _, rfl, ?_⟩
    refine iteT ?_
    exact ⟨_, rfl, a, _, dd, _, v, rfl, ha1, eC.xf, eC.no, hd1, rfl, (by show 2 ≤ sizeLine; decide), last⟩
  · refine ⟨_, rfl, a, _, _, _, _, false, rfl, ha1, eC.ec, xd, fun u r => r, nND, _, rfl, ?_⟩
    refine iteF ?_
    refine ⟨_, rfl, a, _, _, _, _, true, rfl, ha1, eC.ec, xd, fun u r => r, eC.own, _, rfl, ?_⟩
    refine iteT ?_
    refine ⟨_, rfl, a, _, _, _, _, true, rfl, ha1, eC.ec, xd, fun u r => r, eC.ve, _, rfl, ?_⟩
    refine iteT ?_
    refine ⟨_, rfl, a, _, _, _, _, false, rfl, ha1, eC.ec, xd, fun u r => r, nND, _, rfl, ?_⟩
    refine iteT ?_
    exact ⟨_, rfl, a, _, dd, _, v, rfl, ha1, eC.xf, eC.no, hd1, rfl, (by show 2 ≤ sizeLine; decide), last⟩
end
end K18
end
section
set_option Elab.async false
set_option autoImplicit false
set_option linter.all false
set_option maxRecDepth 100000
set_option maxHeartbeats 4000000
namespace K18
open PySem PySem.Spec PyProof.Rows L2 Ls
open C8 (pss_cut tCut)
open TL
theorem PenAt.upd {H : Hp} {p c a : Addr} {n : Nat} {o : HO} (h : PenAt H p c n) (np : p ≠ a) (nc : c ≠ a) : PenAt (upd H a o) p c n := by
  obtain ⟨ns, b, r, h1, h2, h3⟩ := h
  exact ⟨ns, b, r, by rw [upd_ne np]; exact h1, by rw [upd_ne nc]; exact h2, h3⟩
theorem PenAt.ext {H H' : Hp} {p c : Addr} {n : Nat} (h : PenAt H p c n) (e : Ext H H') : PenAt H' p c n := by
  obtain ⟨ns, b, r, h1, h2, h3⟩ := h
  exact ⟨ns, b, r, e _ _ h1, e _ _ h2, h3⟩
theorem PenAt.ne {H : Hp} {p c a : Addr} {n : Nat} (h : PenAt H p c n) (ha : H a = none) : p ≠ a ∧ c ≠ a := by
  obtain ⟨ns, b, r, h1, h2, _⟩ := h
  exact ⟨ne_of_none h1 ha, ne_of_none h2 ha⟩
theorem signs_of : ∀ {ys : List V}, (∀ (j : Nat) (y : V), ys[j]? = some y → ∃ c', c' ∈ tl lettersS ∧ y = .str ⟨#[c']⟩) → ∃ cs : List Nat, ys = (cs.map fun c' => (⟨#[c']⟩ : Str)).map V.str ∧ ∀ c' ∈ cs, c' ∈ tl lettersS
  | [], _ => ⟨[], rfl, by simp⟩
  | y :: ys, h => by
    obtain ⟨c, hc, rfl⟩ := h 0 y rfl
    obtain ⟨cs, e, hcs⟩ := signs_of (ys := ys) fun j y hy => h (j + 1) y hy
    exact ⟨c :: cs, by rw [e]; rfl, fun c' h => by
      rcases List.mem_cons.mp h with e | e
      · rw [e]; exact hc
      · exact hcs c' e⟩
theorem sum_le1 : ∀ cs : List Nat, (cs.map ((·.length) ∘ fun c' => (⟨#[c']⟩ : Str))).sum ≤ cs.length * 1
  | [] => by simp
  | c :: cs => by
    have := sum_le1 cs
    have e : (⟨#[c]⟩ : Str).length = 1 := rfl
    rw [List.map_cons, List.sum_cons, List.length_cons]
    show (⟨#[c]⟩ : Str).length + _ ≤ _
    rw [e]
    omega
section
variable {P : Program} {w : World} {K : PySem.W.Frag} {mg : Str → Option Value} {base : Heap} {CM CB CL CA CS CF CE CN CD : Addr} {tL tN : Tok}
/-! ### _law_name -/
def spLName : Sp := fun vs H Q _ => ∃ (p c : Addr) (n : Nat), vs = [.ref p] ∧ PenAt H p c n ∧ n < 1000000 ∧ ∀ z H', isName z = true → PenAt H' p c (n + 8) → Keep p c H H' → Q (.str z) H'
abbrev s__law_name : Stmt := top 22
abbrev N__law_name : List Str := ["_law_pen_here", "_law_letters", "_law_fresh", "_law_go"]
theorem sc__law_name : FnScope N__law_name ["_law_pen_here"] (defScope s__law_name) := ⟨rfl, rfl, rfl, by decide +kernel, rfl, by decide +kernel, by decide +kernel⟩
theorem ok_lname {f : Addr} {fd : FuncData} (F : Fun K "_law_name" "_law_name" s__law_name f fd) (T : Tx K mg CM CB CL CA CS CF CE CN CD tL tN) (c__law_draw : Cal P w K mg base CX0 1 "_law_draw" spDraw) (c__law_pick : Cal P w K mg base CX0 2 "_law_pick" (spPick K)) :
    FnOk P w K mg base CX0 3 f fd ["_law_pen_here"] spLName := by
  refine F.ok sc__law_name (fun vs H Q E h => ?_) (fun cdv A outer s H vs Q E hr h => ?_)
  · obtain ⟨p, c, n, rfl, _⟩ := h
    rfl
  · obtain ⟨p, c, n, rfl, hp, hn, k⟩ := h
    refine ⟨_, (pss_cons (ps_set (i := 1) sc__law_name.nd rfl (by first | exact Or.inl rfl | exact Or.inr rfl) pe_str)
      (pss_cons (ps_set (i := 2) sc__law_name.nd rfl (by first | exact Or.inl rfl | exact Or.inr rfl) (pe_join pe_str (pe_lc (own := [("_law_go", 3)]) rfl sc__law_name.nd (pi_range1 rfl (T.bn _ (by decide +kernel)) (pa_cons (pe_op op_add pe_int (pe_cal c__law_draw (hr.mono (by decide)) (by rfl) pass0 (pa_cons (pv 0) (pa_cons pe_int pa_nil)))) pa_nil)) (blkOk_by (own := [("_law_go", 3)]) (N := N__law_name) (sc := defScope s__law_name) (by decide +kernel)) (fun _ _ _ _ _ => (pg_name (i := 3) sc__law_name.nd rfl (by first | exact Or.inl rfl | exact Or.inr rfl))) (fun _ _ _ _ _ => pts_nil) (fun _ _ _ _ _ => (pe_cal c__law_pick (hr.mono (by decide)) (by rfl) pass0 (pa_cons (pv 0) (pa_cons (pv 1) pa_nil)))))))
      (pss_one (ps_ret (pe_cal c__law_pick (hr.mono (by decide)) (by rfl) pass0 (pa_cons (pv 0) (pa_cons (pe_lst (pa_cons pe_str (pa_cons pe_str (pa_cons pe_str (pa_cons pe_str (pa_cons pe_str (pa_cons pe_str (pa_cons pe_str (pa_cons pe_str (pa_cons (pv 2) (pa_cons (pv 2) pa_nil))))))))))) pa_nil))))))), ?_⟩
    refine ⟨⟨_, rfl⟩, _, rfl, p, c, n, 6, rfl, hp, by omega, by decide, by decide, fun j H1 j0 j1 hp1 kp1 => ⟨_, _, rfl, rfl, _, rfl, by omega, by omega, fun D hD => ?_⟩⟩
    obtain ⟨npD, ncD⟩ := hp1.ne hD
    refine lc_mapI walk_range [D, p, c] (by simp) (fun i Hx => PenAt Hx p c (n + 1 + i) ∧ Keep p c H1 Hx) (fun i y _ => ∃ c', c' ∈ tl lettersS ∧ y = .str ⟨#[c']⟩) (by omega) (fun _ _ _ _ _ h => h)
      (fun i Hx o h => ⟨h.1.upd npD ncD, fun b u e h1 h2 => by rw [upd_ne (ne_of_none e hD)]; exact h.2 b u e h1 h2⟩) ⟨hp1.upd npD ncD, Keep.new hD⟩ (fun _ _ _ _ => trivial) ?_ ?_
    · rintro i x _ H3 acc C hi e ⟨hpi, kpi⟩ hD1 ⟨rfl, rfl⟩ hC
      refine ⟨rfl, _, rfl, _, rfl, p, c, _, _, rfl, hpi, by omega, .inr ⟨_, rfl, by decide +kernel, by decide +kernel, fun c' H4 hc' hp4 kp4 => ?_⟩⟩
      exact hC _ _ (kp4 D _ hD1 npD.symm ncD.symm) (hid_keepS kp4 (by simp) (by simp)) ⟨hp4.mono (by omega), kpi.trans kp4⟩ ⟨c', hc', rfl⟩
    · intro H3 ys e ⟨hp3, kp3⟩ hD3 hl hy
      obtain ⟨cs, rfl, hcs⟩ : ∃ cs : List Nat, ys = (cs.map fun c' => (⟨#[c']⟩ : Str)).map V.str ∧ ∀ c' ∈ cs, c' ∈ tl lettersS := signs_of hy
      have hlen : cs.length ≤ 6 := by
        simp at hl
        omega
      have hpos : 1 ≤ cs.length := by
        simp at hl
        omega
      refine ⟨_, D, _, rfl, rfl, .inl (SqL.of hD3), ?_, ?_⟩
      · have : ((cs.map fun c' => (⟨#[c']⟩ : Str)).map (·.length)).sum ≤ cs.length * 1 := by
          rw [List.map_map]
          exact sum_le1 cs
        rw [List.length_map]
        have e0 : ("" : Str).length = 0 := by decide +kernel
        rw [e0]
        omega
      have hnm : isName (Txt.join "" (cs.map fun c' => (⟨#[c']⟩ : Str))) = true := by
        have et := join_signs (cs := cs)
        unfold isName
        rw [et, len_tl, et, decide_eq_true hpos, decide_eq_true hlen]
        simpa using hcs
      generalize Txt.join "" (cs.map fun c' => (⟨#[c']⟩ : Str)) = z at hnm
      refine ⟨_, rfl, _, rfl, _, rfl, (by show 10 ≤ sizeLine; decide), fun l hl => ?_⟩
      obtain ⟨npl, ncl⟩ := hp3.ne hl
      refine ⟨p, c, _, _, rfl, hp3.upd npl ncl, by omega, .inl ⟨l, _, rfl, npl.symm, ncl.symm, upd_same, by simp, by simp, fun x H4 hx hp4 kp4 => ?_⟩⟩
      have : ∃ z, x = .str z ∧ isName z = true := by
        simp only [List.mem_cons, List.not_mem_nil, or_false] at hx
        rcases hx with rfl | rfl | rfl | rfl | rfl | rfl | rfl | rfl | rfl | rfl
        all_goals first | exact ⟨_, rfl, hnm⟩ | exact ⟨_, rfl, by decide +kernel⟩
      obtain ⟨z', rfl, hz'⟩ := this
      refine k z' H4 hz' (hp4.mono (by omega)) (kp1.trans (kp3.trans ((Keep.new hl).trans kp4)))
/-! ### _law_is_name -/
def spLIs : Sp := fun vs H Q _ => ∃ z : Str, vs = [.str z] ∧ z.length ≤ 1000 ∧ ∀ H', Ext H H' → Q (.bl (isName z)) H'
abbrev s__law_is_name : Stmt := top 24
abbrev N__law_is_name : List Str := ["_law_line", "_law_letters", "_law_sign"]
theorem sc__law_is_name : FnScope N__law_is_name ["_law_line"] (defScope s__law_is_name) := ⟨rfl, rfl, rfl, by decide +kernel, rfl, by decide +kernel, by decide +kernel⟩
theorem ok_lis {f : Addr} {fd : FuncData} (F : Fun K "_law_is_name" "_law_is_name" s__law_is_name f fd) (T : Tx K mg CM CB CL CA CS CF CE CN CD tL tN) : FnOk P w K mg base CX0 1 f fd ["_law_line"] spLIs := by
  refine F.ok sc__law_is_name (fun vs H Q E h => ?_) (fun cdv A outer s H vs Q E hr h => ?_)
  · obtain ⟨z, rfl, _⟩ := h
    rfl
  · obtain ⟨z, rfl, hz, k⟩ := h
    refine ⟨_, (pss_cons (ps_set (i := 1) sc__law_is_name.nd rfl (by first | exact Or.inl rfl | exact Or.inr rfl) pe_str)
      (pss_one (ps_ret (pe_and (pe_chain op_le op_le pe_int (pe_callB call_len_str (by rfl) (T.bn _ (by decide +kernel)) (by decide +kernel) (pa_cons (pv 0) pa_nil)) pe_int) (pe_one (pe_cmpR (op_eqNil hr) (pe_lc (own := [("_law_sign", 2)]) rfl sc__law_is_name.nd (pi_str (pv 0)) (blkOk_by (own := [("_law_sign", 2)]) (N := N__law_is_name) (sc := defScope s__law_is_name) (by decide +kernel)) (fun _ _ _ _ _ => (pg_name (i := 2) sc__law_is_name.nd rfl (by first | exact Or.inl rfl | exact Or.inr rfl))) (fun _ _ _ _ _ => pts_one (pt_cmpR op_notIn_sign (pv 2) (pv 1) rfl)) (fun _ _ _ _ _ => (pv 2))) (pe_lst pa_nil) (nomark _))))))), ?_⟩
    have hzl : z.length ≤ sizeLine := Nat.le_of_lt (small1000 hz)
    refine ⟨_, rfl, z, rfl, hzl, _, _, rfl, rfl, ?_⟩
    by_cases h1 : 1 ≤ z.length
    · refine ⟨true, by simp; omega, ?_⟩
      refine iteT ?_
      refine ⟨_, _, rfl, rfl, ?_⟩
      by_cases h6 : z.length ≤ 6
      · refine ⟨true, by simp; omega, ?_⟩
        refine iteT ?_
        refine ⟨_, rfl, z, rfl, fun D hD => ?_⟩
        refine lc_it walk_str (fun i Hx => ∃ ys : List V, Hx = upd H D (.lst ys) ∧ ys.length ≤ i ∧ ys.isEmpty = ((tl z).take i).all fun c => decide (c ∈ tl lettersS)) ⟨[], rfl, Nat.le_refl _, by simp⟩ (fun _ _ _ _ => trivial) ?_ ?_
        · rintro i x Hx H' hi ⟨ys, rfl, hl, he⟩ ⟨rfl, c, hc, rfl⟩
          have hc' : (tl z)[i]? = some c := by rw [← hc]; simp [tl]
          have hz6 : i < 6 := by have : z.length = z.cps.size := rfl; omega
          have et : ((tl z).take (i + 1)).all (fun c => decide (c ∈ tl lettersS)) = (((tl z).take i).all (fun c => decide (c ∈ tl lettersS)) && decide (c ∈ tl lettersS)) := by
            rw [List.take_add_one, hc', List.all_append]
            simp
          refine ⟨rfl, _, rfl, _, rfl, c, _, rfl, rfl, _, rfl, ?_⟩
          by_cases hm : c ∈ tl lettersS
          · refine iteNo (by show (!decide (c ∈ tl lettersS)) = false; rw [decide_eq_true hm]; rfl) ?_
            exact ⟨ys, rfl, by omega, by rw [et, ← he, decide_eq_true hm, Bool.and_true]⟩
          · refine iteYes (by show (!decide (c ∈ tl lettersS)) = true; rw [decide_eq_false hm]; rfl) ?_
            refine ⟨_, rfl, ys, upd_same, Nat.lt_of_le_of_lt (show ys.length ≤ 6 by omega) (by decide), ys ++ [.str ⟨#[c]⟩], by rw [upd_upd], by rw [List.length_append]; simp; omega, ?_⟩
            rw [et, decide_eq_false hm, Bool.and_false]
            simp
        · rintro Hx ⟨ys, rfl, hl, he⟩
          have en : isName z = ys.isEmpty := by
            have hz' : z.cps.size = (tl z).length := by simp [tl]
            unfold isName
            rw [decide_eq_true h1, decide_eq_true h6, Bool.true_and, Bool.true_and, he, hz', List.take_length]
          refine ⟨(by show 0 ≤ sizeLine; decide), fun l hl => ⟨D, l, ys, rfl, rfl, ?_, upd_same, ?_⟩⟩
          · rw [upd_ne (ne_of_none upd_same hl)]
            exact upd_same
          · rw [← en]
            exact k _ ((Ext.upd hD).trans (Ext.upd hl))
      · refine ⟨false, by simp; omega, ?_⟩
        refine iteF ?_
        have e1 : isName z = false := by unfold isName; rw [decide_eq_false h6, Bool.false_and, Bool.and_false]
        have := k H Ext.rfl'
        rw [e1] at this
        exact this
    · refine ⟨false, by simp; omega, ?_⟩
      refine iteF ?_
      refine ⟨false, rfl, ?_⟩
      refine iteF ?_
      have e1 : isName z = false := by unfold isName; rw [decide_eq_false h1, Bool.false_and]
      have := k H Ext.rfl'
      rw [e1] at this
      exact this
end
end K18
end
section
set_option Elab.async false
set_option autoImplicit false
set_option linter.all false
set_option maxRecDepth 100000
set_option maxHeartbeats 4000000
namespace K18
open PySem PySem.Spec PyProof.Rows L2 Ls
open C8 (pss_cut tCut)
open TL
/-! ### _law_odd -/
def oddD : List PyData := [.none, .bool true, .int 0, .int 7, .str "", .str "A", .str "a1", .str "a b", .str " a", .str "a ", .str "abcdefg", .str "a-", .str "load a", .list [.str "a"], .tuple [.str "a"], .dict [], .str "a\n",
  .int 100000000000000000000000000000000000000000000000000, .str "_", .str "Z", .dict [(.str "a", .int 1)]]
def goodO (d : PyData) : Bool := (nameOf d).isNone && d.showable && decide (d.depth ≤ 2) && decide (d.shown.length ≤ 100) && match d with | .str z => decide (z.length ≤ 100) | _ => true
theorem odd_good : oddD.all goodO = true := by decide +kernel
theorem odd_of {d : PyData} (h : d ∈ oddD) : nameOf d = none ∧ Shw 100 d ∧ d.depth ≤ 2 ∧ SmD d := by
  have q := List.all_eq_true.mp odd_good d h
  unfold goodO at q
  simp only [Bool.and_eq_true, decide_eq_true_eq, Option.isNone_iff_eq_none] at q
  obtain ⟨⟨⟨⟨q1, q2⟩, q3⟩, q4⟩, q5⟩ := q
  refine ⟨q1, ⟨q2, by omega, q4⟩, q3, fun z e => ?_⟩
  subst e
  have : z.length ≤ 100 := by simpa using q5
  omega
theorem odd_at {d : PyData} (i : Nat) (h : oddD[i]? = some d) : d ∈ oddD := List.mem_of_getElem? h
section
variable {P : Program} {w : World} {K : PySem.W.Frag} {mg : Str → Option Value} {base : Heap} {CM CB CL CA CS CF CE CN CD : Addr} {tL tN : Tok}
def spOdd : Sp := fun vs H Q _ => ∃ (p c : Addr) (n : Nat), vs = [.ref p] ∧ PenAt H p c n ∧ n < 1000000 ∧ ∀ v d H', d ∈ oddD → TV (vis [p, c] H') v d → PenAt H' p c (n + 1) → Keep p c H H' → Q v H'
abbrev s__law_odd : Stmt := top 23
abbrev N__law_odd : List Str := ["_law_pen_here", "_law_some"]
theorem sc__law_odd : FnScope N__law_odd ["_law_pen_here"] (defScope s__law_odd) := ⟨rfl, rfl, rfl, by decide +kernel, rfl, by decide +kernel, by decide +kernel⟩
theorem ok_odd {f : Addr} {fd : FuncData} (F : Fun K "_law_odd" "_law_odd" s__law_odd f fd) (T : Tx K mg CM CB CL CA CS CF CE CN CD tL tN) (c__law_pick : Cal P w K mg base CX0 2 "_law_pick" (spPick K)) :
    FnOk P w K mg base CX0 3 f fd ["_law_pen_here"] spOdd := by
  refine F.ok sc__law_odd (fun vs H Q E h => ?_) (fun cdv A outer s H vs Q E hr h => ?_)
  · obtain ⟨p, c, n, rfl, _⟩ := h
    rfl
  · obtain ⟨p, c, n, rfl, hp, hn, k⟩ := h
    refine ⟨_, (pss_cons (ps_set (i := 1) sc__law_odd.nd rfl (by first | exact Or.inl rfl | exact Or.inr rfl) (pe_lst (pa_cons pe_non (pa_cons pe_bl (pa_cons pe_int (pa_cons pe_int (pa_cons pe_str (pa_cons pe_str (pa_cons pe_str (pa_cons pe_str (pa_cons pe_str (pa_cons pe_str (pa_cons pe_str (pa_cons pe_str (pa_cons pe_str (pa_cons (pe_lst (pa_cons pe_str pa_nil)) (pa_cons (pe_tup (pa_cons pe_str pa_nil)) (pa_cons pe_dnewK (pa_cons pe_str pa_nil)))))))))))))))))))
      (pss_one (ps_ret (pe_cal c__law_pick (hr.mono (by decide)) (by rfl) pass0 (pa_cons (pv 0) (pa_cons (pe_op op_cat (pv 1) (pe_lst (pa_cons (pe_op op_pow pe_int pe_int) (pa_cons pe_str (pa_cons pe_str (pa_cons (pe_disp (pps_cons pe_str pe_int pps_nil) (by rfl) (by rfl) (fun z => by cases z) (by decide)) pa_nil)))))) pa_nil)))))), ?_⟩
    refine ⟨(by show 1 ≤ sizeLine; decide), fun l1 n1 => ?_⟩
    have f1 : (upd H l1 (.lst [.str "a"])) l1 = some (.lst [.str "a"]) := upd_same
    have e1 : Ext H (upd H l1 (.lst [.str "a"])) := Ext.upd n1
    generalize (upd H l1 (.lst [.str "a"])) = H1 at f1 e1
    refine ⟨(by show 1 ≤ sizeLine; decide), fun t1 n2 => ?_⟩
    have f2 : (upd H1 t1 (.tup [.str "a"])) t1 = some (.tup [.str "a"]) := upd_same
    have e2 : Ext H1 (upd H1 t1 (.tup [.str "a"])) := Ext.upd n2
    generalize (upd H1 t1 (.tup [.str "a"])) = H2 at f2 e2
    intro d0 n3
    have f3 : (upd H2 d0 (.dK [])) d0 = some (.dK []) := upd_same
    have e3 : Ext H2 (upd H2 d0 (.dK [])) := Ext.upd n3
    generalize (upd H2 d0 (.dK [])) = H3 at f3 e3
    refine ⟨(by show 17 ≤ sizeLine; decide), fun L1 n4 => ?_⟩
    obtain ⟨xs, hxs⟩ : ∃ xs : List V, xs = [.non, .bl true, .int 0, .int 7, .str "", .str "A", .str "a1", .str "a b", .str " a", .str "a ", .str "abcdefg", .str "a-", .str "load a", .ref l1, .ref t1, .ref d0, .str "a\n"] := ⟨_, rfl⟩
    have f4 : (upd H3 L1 (.lst xs)) L1 = some (.lst xs) := upd_same
    have e4 : Ext H3 (upd H3 L1 (.lst xs)) := Ext.upd n4
    rw [← hxs]
    generalize (upd H3 L1 (.lst xs)) = H4 at f4 e4
    refine ⟨_, rfl, _, rfl, _, _, rfl, rfl, ⟨by decide, by decide, by decide⟩, fun d1 n5 => ?_⟩
    refine ⟨upd_same, [(Sum.inr "a", .int 1)], rfl, by show 1 ≤ 15; decide, ?_⟩
    rw [upd_upd]
    have em : mergeK [] [((Sum.inr "a" : Key), V.int 1)] = [((Sum.inr "a" : Key), V.int 1)] := by kernel_rfl
    rw [em]
    have f5 : (upd H4 d1 (.dK [((Sum.inr "a" : Key), V.int 1)])) d1 = some (.dK [((Sum.inr "a" : Key), V.int 1)]) := upd_same
    have e5 : Ext H4 (upd H4 d1 (.dK [((Sum.inr "a" : Key), V.int 1)])) := Ext.upd n5
    generalize (upd H4 d1 (.dK [((Sum.inr "a" : Key), V.int 1)])) = H5 at f5 e5
    refine ⟨(by show 4 ≤ sizeLine; decide), fun L2 n6 => ?_⟩
    obtain ⟨zs, hzs⟩ : ∃ zs : List V, zs = [.int 100000000000000000000000000000000000000000000000000, .str "_", .str "Z", .ref d1] := ⟨_, rfl⟩
    have ep : [V.int (10 ^ (50 : Int).toNat), .str "_", .str "Z", .ref d1] = zs := by rw [hzs]; congr 1
    have f6 : (upd H5 L2 (.lst zs)) L2 = some (.lst zs) := upd_same
    have e6 : Ext H5 (upd H5 L2 (.lst zs)) := Ext.upd n6
    rw [ep]
    generalize (upd H5 L2 (.lst zs)) = H6 at f6 e6
    have e36 : Ext H3 H6 := e4.trans (e5.trans e6)
    have e06 : Ext H H6 := e1.trans (e2.trans (e3.trans e36))
    have hl : (xs ++ zs).length = 21 := by rw [hxs, hzs]; rfl
    refine ⟨L1, L2, xs, zs, rfl, rfl, e6 _ _ (e5 _ _ f4), f6, by rw [← List.length_append, hl]; decide, fun L3 n7 => ?_⟩
    have hp6 := hp.ext e06
    obtain ⟨np, nc⟩ := hp6.ne n7
    refine ⟨p, c, n, _, rfl, hp6.upd np nc, by omega, .inl ⟨L3, _, rfl, np.symm, nc.symm, upd_same, by rw [hl]; decide, by rw [hl]; decide, fun x H8 hx hp8 kp8 => ?_⟩⟩
    have kp : Keep p c H6 H8 := (Keep.new n7).trans kp8
    have at_ : ∀ {a : Addr} {o : HO} {H' : Hp}, Ext H H' → H' a = none → H6 a = some o → (∀ ps, o ≠ .tbl ps) → vis [p, c] H8 a = some o := fun {a o H'} e hn h6 nt => by
      obtain ⟨q1, q2⟩ := (hp.ext e).ne hn
      exact vis_at (by simp [q1.symm, q2.symm]) (kp a o h6 q1.symm q2.symm) nt
    have g1 := at_ Ext.rfl' n1 (e36 _ _ (e3 _ _ (e2 _ _ f1))) (fun ps z => nomatch z)
    have g2 := at_ e1 n2 (e36 _ _ (e3 _ _ f2)) (fun ps z => nomatch z)
    have g3 := at_ (e1.trans e2) n3 (e36 _ _ f3) (fun ps z => nomatch z)
    have g4 := at_ (e1.trans (e2.trans (e3.trans e4))) n5 (e6 _ _ f5) (fun ps z => nomatch z)
    have tx : ∃ d, d ∈ oddD ∧ TV (vis [p, c] H8) x d := by
      rw [hxs, hzs] at hx
      simp only [List.cons_append, List.nil_append, List.mem_cons, List.not_mem_nil, or_false] at hx
      rcases hx with rfl | rfl | rfl | rfl | rfl | rfl | rfl | rfl | rfl | rfl | rfl | rfl | rfl | rfl | rfl | rfl | rfl | rfl | rfl | rfl | rfl
      · exact ⟨_, odd_at 0 rfl, .non⟩
      · exact ⟨_, odd_at 1 rfl, .bl _⟩
      · exact ⟨_, odd_at 2 rfl, .int _⟩
      · exact ⟨_, odd_at 3 rfl, .int _⟩
      · exact ⟨_, odd_at 4 rfl, .str _⟩
      · exact ⟨_, odd_at 5 rfl, .str _⟩
      · exact ⟨_, odd_at 6 rfl, .str _⟩
      · exact ⟨_, odd_at 7 rfl, .str _⟩
      · exact ⟨_, odd_at 8 rfl, .str _⟩
      · exact ⟨_, odd_at 9 rfl, .str _⟩
      · exact ⟨_, odd_at 10 rfl, .str _⟩
      · exact ⟨_, odd_at 11 rfl, .str _⟩
      · exact ⟨_, odd_at 12 rfl, .str _⟩
      · exact ⟨_, odd_at 13 rfl, .lst g1 (.cons (.str _) .nil)⟩
      · exact ⟨_, odd_at 14 rfl, .tup g2 (.cons (.str _) .nil)⟩
      · exact ⟨_, odd_at 15 rfl, .dct g3 .nil .nil⟩
      · exact ⟨_, odd_at 16 rfl, .str _⟩
      · exact ⟨_, odd_at 17 rfl, .int _⟩
      · exact ⟨_, odd_at 18 rfl, .str _⟩
      · exact ⟨_, odd_at 19 rfl, .str _⟩
      · exact ⟨_, odd_at 20 rfl, .dct g4 (.cons (.str _) .nil) (.cons (.int _) .nil)⟩
    obtain ⟨d, hd, hv⟩ := tx
    exact k x d H8 hd hv hp8 ((Keep.ext e06).trans kp)
end
end K18
end
section
set_option Elab.async false
set_option autoImplicit false
set_option linter.all false
set_option maxRecDepth 100000
set_option maxHeartbeats 4000000
namespace K18
open PySem PySem.Spec PyProof.Rows L2 Ls
open C8 (pss_cut tCut)
open TL
/-! ### _law_bent -/
/-- a value that may be asked: small -/
structure Ask (d : PyData) : Prop where
  sm : SmD d
  sw : Shw 1000 d
  dp : d.depth ≤ 2
theorem Ask.str {z : Str} (h : OkS 60 z) : Ask (.str z) := ⟨fun y e => by cases e; exact Nat.le_trans h.1 (by decide), (Shw.str h).mono (by decide), by show 0 ≤ 2; decide⟩
theorem ok_name' {z : Str} (h : isName z = true) : OkS 6 z := ⟨(name_len h).2, fun c hc => by
  have q := name_sub h c hc
  have : (tl lettersS).all (fun c => decide (c < 256)) = true := by decide +kernel
  simpa using List.all_eq_true.mp this c q⟩
theorem ok_lit {n : Nat} {z : Str} (h : (decide (z.length ≤ n) && (tl z).all fun c => decide (c < 256)) = true) : OkS n z := by
  simp only [Bool.and_eq_true, decide_eq_true_eq, List.all_eq_true] at h
  exact h
theorem ok_text {m : Str × Str} (h : Good m) : OkS 13 (textM m) := ((ok_name' (w4_name h.1)).append (ok_lit (n := 1) (by decide +kernel))).append (ok_name' h.2)
def goodA (d : PyData) : Bool := d.showable && decide (d.depth ≤ 2) && decide (d.shown.length ≤ 1000) && match d with | .str z => decide (z.length ≤ 1000) | _ => true
theorem ask_lit {d : PyData} (h : goodA d = true) : Ask d := by
  unfold goodA at h
  simp only [Bool.and_eq_true, decide_eq_true_eq] at h
  obtain ⟨⟨⟨q2, q3⟩, q4⟩, q5⟩ := h
  refine ⟨fun z e => ?_, ⟨q2, by omega, q4⟩, q3⟩
  subst e
  simpa using q5
section
variable {P : Program} {w : World} {K : PySem.W.Frag} {mg : Str → Option Value} {base : Heap} {CM CB CL CA CS CF CE CN CD : Addr} {tL tN : Tok}
def spBent : Sp := fun vs H Q _ => ∃ (p c : Addr) (n : Nat) (m : Str × Str), vs = [.ref p, .str (textM m)] ∧ Good m ∧ PenAt H p c n ∧ n < 1000000 ∧ ∀ v d H', Ask d → TV (vis [p, c] H') v d → PenAt H' p c (n + 2) → Keep p c H H' → Q v H'
abbrev s__law_bent : Stmt := top 25
abbrev N__law_bent : List Str := ["_law_pen_here", "_law_line", "_law_words", "_law_way"]
theorem sc__law_bent : FnScope N__law_bent ["_law_pen_here", "_law_line"] (defScope s__law_bent) := ⟨rfl, rfl, rfl, by decide +kernel, rfl, by decide +kernel, by decide +kernel⟩
theorem ok_bent {f : Addr} {fd : FuncData} (F : Fun K "_law_bent" "_law_bent" s__law_bent f fd) (T : Tx K mg CM CB CL CA CS CF CE CN CD tL tN) (c__law_draw : Cal P w K mg base CX0 1 "_law_draw" spDraw) (c__law_pick : Cal P w K mg base CX0 2 "_law_pick" (spPick K)) :
    FnOk P w K mg base CX0 3 f fd ["_law_pen_here", "_law_line"] spBent := by
  refine F.ok sc__law_bent (fun vs H Q E h => ?_) (fun cdv A outer s H vs Q E hr h => ?_)
  · obtain ⟨p, c, n, m, rfl, _⟩ := h
    rfl
  · obtain ⟨p, c, n, m, rfl, hg, hp, hn, k⟩ := h
    refine ⟨_, (pss_cons (ps_par (i := 2) (j := 3) rfl sc__law_bent.nd rfl rfl (by decide) rfl rfl (pa_cons (pe_split (pv 1) pe_str) (pa_cons (pe_cal c__law_draw (hr.mono (by decide)) (by rfl) pass0 (pa_cons (pv 0) (pa_cons pe_int pa_nil))) pa_nil)) (by rfl))
      (pss_cons (ps_if (pt_cmpR op_eq (pv 3) pe_int (nomark _)) (pss_one (ps_ret (pe_cal c__law_pick (hr.mono (by decide)) (by rfl) pass0 (pa_cons (pv 0) (pa_cons (pe_lst (pa_cons pe_non (pa_cons pe_int (pa_cons pe_bl (pa_cons (pe_lst (pa_cons (pv 1) pa_nil)) (pa_cons (pe_tup (pa_cons (pv 1) pa_nil)) (pa_cons (pe_callTy call_tuple_of (by rfl) (T.bn _ (by decide +kernel)) (by decide +kernel) (pa_cons (pv 2) pa_nil)) (pa_cons pe_dnewK (pa_cons pe_str (pa_cons pe_str (pa_cons pe_str pa_nil))))))))))) pa_nil))))) pss_nil)
      (pss_cons (ps_if (pt_cmpR op_eq (pv 3) pe_int (nomark _)) (pss_one (ps_ret (pe_ix ix_list (pv 2) (pe_cal c__law_draw (hr.mono (by decide)) (by rfl) pass0 (pa_cons (pv 0) (pa_cons pe_int pa_nil))) (fun _ _ => rfl)))) pss_nil)
      (pss_cons (ps_if (pt_cmpR op_eq (pv 3) pe_int (nomark _)) (pss_one (ps_ret (pe_op op_add_str (pv 1) (pe_cal c__law_pick (hr.mono (by decide)) (by rfl) pass0 (pa_cons (pv 0) (pa_cons (pe_lst (pa_cons pe_str (pa_cons pe_str (pa_cons pe_str (pa_cons pe_str (pa_cons (pe_op op_add_str pe_str (pe_ix ix_list (pv 2) pe_int (fun _ _ => rfl))) (pa_cons pe_str pa_nil))))))) pa_nil)))))) pss_nil)
      (pss_cons (ps_if (pt_cmpR op_eq (pv 3) pe_int (nomark _)) (pss_one (ps_ret (pe_op op_add_str (pe_cal c__law_pick (hr.mono (by decide)) (by rfl) pass0 (pa_cons (pv 0) (pa_cons (pe_lst (pa_cons pe_str (pa_cons pe_str (pa_cons pe_str (pa_cons pe_str pa_nil))))) pa_nil))) (pv 1)))) pss_nil)
      (pss_cons (ps_if (pt_cmpR op_eq (pv 3) pe_int (nomark _)) (pss_one (ps_ret (pe_op op_add_str (pe_op op_add_str (pe_ix ix_list (pv 2) pe_int (fun _ _ => rfl)) pe_str) (pe_ix ix_list (pv 2) pe_int (fun _ _ => rfl))))) pss_nil)
      (pss_cons (ps_if (pt_cmpR op_eq (pv 3) pe_int (nomark _)) (pss_one (ps_ret (pe_op op_add_str (pe_op op_add_str (pe_ix ix_list (pv 2) pe_int (fun _ _ => rfl)) pe_str) (pe_ix ix_list (pv 2) pe_int (fun _ _ => rfl))))) pss_nil)
      (pss_cons (ps_if (pt_cmpR op_eq (pv 3) pe_int (nomark _)) (pss_one (ps_ret (pe_op op_add_str (pe_op op_add_str (pe_cal c__law_pick (hr.mono (by decide)) (by rfl) pass0 (pa_cons (pv 0) (pa_cons (pe_lst (pa_cons pe_str (pa_cons pe_str (pa_cons pe_str (pa_cons pe_str (pa_cons pe_str (pa_cons pe_str pa_nil))))))) pa_nil))) pe_str) (pe_ix ix_list (pv 2) pe_int (fun _ _ => rfl))))) pss_nil)
      (pss_cons (ps_if (pt_cmpR op_eq (pv 3) pe_int (nomark _)) (pss_one (ps_ret (pe_op op_add_str (pe_op op_add_str (pe_ix ix_list (pv 2) pe_int (fun _ _ => rfl)) pe_str) (pe_cal c__law_pick (hr.mono (by decide)) (by rfl) pass0 (pa_cons (pv 0) (pa_cons (pe_lst (pa_cons pe_str (pa_cons pe_str (pa_cons pe_str (pa_cons pe_str (pa_cons pe_str pa_nil)))))) pa_nil)))))) pss_nil)
      (pss_cons (ps_if (pt_cmpR op_eq (pv 3) pe_int (nomark _)) (pss_one (ps_ret (pe_op op_add_str (pe_ix ix_list (pv 2) pe_int (fun _ _ => rfl)) (pe_ix ix_list (pv 2) pe_int (fun _ _ => rfl))))) pss_nil)
      (pss_one (ps_ret (pe_op op_add_str (pe_op op_add_str (pe_cal c__law_pick (hr.mono (by decide)) (by rfl) pass0 (pa_cons (pv 0) (pa_cons (pe_lst (pa_cons pe_str (pa_cons pe_str (pa_cons pe_str (pa_cons pe_str pa_nil))))) pa_nil))) pe_str) (pe_ix ix_list (pv 2) pe_int (fun _ _ => rfl))))))))))))))), ?_⟩
    have hw : Txt.split (textM m) " " = [m.1, m.2] := split_two (name_no (w4_name hg.1) (by decide +kernel)) (name_no hg.2 (by decide +kernel))
    refine ⟨_, rfl, ⟨_, rfl⟩, _, _, rfl, rfl, (by decide +kernel), Nat.le_trans (Nat.add_le_add_right (ok_text hg).1 2) (by decide), fun l hl => ?_⟩
    rw [hw]
    obtain ⟨npl, ncl⟩ := hp.ne hl
    refine ⟨_, rfl, p, c, n, 10, rfl, hp.upd npl ncl, by omega, by decide, by decide, fun j H1 j0 j1 hp1 kp1 => ⟨_, _, rfl, ?_⟩⟩
    have hL : H1 l = some (.lst [.str m.1, .str m.2]) := kp1 l _ upd_same npl.symm ncl.symm
    have kp : Keep p c H H1 := (Keep.new hl).trans kp1
    have o1 := ok_name' (w4_name hg.1)
    have o2 := ok_name' hg.2
    have ot := ok_text hg
    have hs : sizeLine = 16777216 := sizeLine_eq
    have fin : ∀ z H2, OkS 60 z → PenAt H2 p c (n + 2) → Keep p c H H2 → Q (.str z) H2 := fun z H2 hz hp2 kp2 => k _ _ H2 (Ask.str hz) (.str z) hp2 kp2
    -- a pick of a written list of texts
    have pk : ∀ (xs : List V) (L : Addr) (C : VK), H1 L = none → xs ≠ [] → xs.length ≤ 1000 → (∀ x ∈ xs, ∃ z, x = .str z ∧ OkS 20 z) → (∀ z H3, OkS 20 z → PenAt H3 p c (n + 2) → Keep p c H1 H3 → C (.str z) H3) →
        spPick K [.ref p, .ref L] (upd H1 L (.lst xs)) C E0 := fun xs L C nL x0 x1 hx hC => by
      obtain ⟨q1, q2⟩ := hp1.ne nL
      refine ⟨p, c, n + 1, _, rfl, hp1.upd q1 q2, by omega, .inl ⟨L, xs, rfl, q1.symm, q2.symm, upd_same, List.length_pos_iff.mpr x0, x1, fun x H3 hm hp3 kp3 => ?_⟩⟩
      obtain ⟨z, rfl, hz⟩ := hx x hm
      exact hC z H3 hz hp3 ((Keep.new nL).trans kp3)
    refine ⟨_, rfl, rfl, _, rfl, ?_⟩
    refine ite2 (fun _ => ?_) (fun _ => ?_)
    · -- a value of another kind
      refine ⟨_, rfl, _, rfl, (by show 1 ≤ sizeLine; decide), fun a1 n1 => ?_⟩
      have f1 : (upd H1 a1 (.lst [.str (textM m)])) a1 = some (.lst [.str (textM m)]) := upd_same
      have e1 : Ext H1 (upd H1 a1 (.lst [.str (textM m)])) := Ext.upd n1
      generalize (upd H1 a1 (.lst [.str (textM m)])) = G1 at f1 e1
      refine ⟨_, rfl, (by show 1 ≤ sizeLine; decide), fun a2 n2 => ?_⟩
      have f2 : (upd G1 a2 (.tup [.str (textM m)])) a2 = some (.tup [.str (textM m)]) := upd_same
      have e2 : Ext G1 (upd G1 a2 (.tup [.str (textM m)])) := Ext.upd n2
      generalize (upd G1 a2 (.tup [.str (textM m)])) = G2 at f2 e2
      refine ⟨_, rfl, l, _, rfl, .inl ⟨SqL.of (e2 _ _ (e1 _ _ hL)), fun a3 n3 => ?_⟩⟩
      have f3 : (upd G2 a3 (.tup [.str m.1, .str m.2])) a3 = some (.tup [.str m.1, .str m.2]) := upd_same
      have e3 : Ext G2 (upd G2 a3 (.tup [.str m.1, .str m.2])) := Ext.upd n3
      generalize (upd G2 a3 (.tup [.str m.1, .str m.2])) = G3 at f3 e3
      intro a4 n4
      have f4 : (upd G3 a4 (.dK [])) a4 = some (.dK []) := upd_same
      have e4 : Ext G3 (upd G3 a4 (.dK [])) := Ext.upd n4
      generalize (upd G3 a4 (.dK [])) = G4 at f4 e4
      have e04 : Ext H1 G4 := e1.trans (e2.trans (e3.trans e4))
      refine ⟨(by show 10 ≤ sizeLine; decide), fun L nL => ?_⟩
      have hp4 := hp1.ext e04
      obtain ⟨q1, q2⟩ := hp4.ne nL
      refine ⟨p, c, n + 1, _, rfl, hp4.upd q1 q2, by omega, .inl ⟨L, _, rfl, q1.symm, q2.symm, upd_same, by simp, by simp, fun x H8 hx hp8 kp8 => ?_⟩⟩
      have kp2 : Keep p c G4 H8 := (Keep.new nL).trans kp8
      have at_ : ∀ {a : Addr} {o : HO} {H' : Hp}, Ext H1 H' → H' a = none → G4 a = some o → (∀ ps, o ≠ .tbl ps) → vis [p, c] H8 a = some o := fun {a o H'} e hn h6 nt => by
        obtain ⟨z1, z2⟩ := (hp1.ext e).ne hn
        exact vis_at (by simp [z1.symm, z2.symm]) (kp2 a o h6 z1.symm z2.symm) nt
      have g1 := at_ Ext.rfl' n1 (e4 _ _ (e3 _ _ (e2 _ _ f1))) (fun ps z => nomatch z)
      have g2 := at_ e1 n2 (e4 _ _ (e3 _ _ f2)) (fun ps z => nomatch z)
      have g3 := at_ (e1.trans e2) n3 (e4 _ _ f3) (fun ps z => nomatch z)
      have g4 := at_ (e1.trans (e2.trans e3)) n4 f4 (fun ps z => nomatch z)
      have st : Shw 132 (.str (textM m)) := Shw.str ot
      have tx : ∃ d, Ask d ∧ TV (vis [p, c] H8) x d := by
        simp only [List.mem_cons, List.not_mem_nil, or_false] at hx
        rcases hx with rfl | rfl | rfl | rfl | rfl | rfl | rfl | rfl | rfl | rfl
        · exact ⟨_, ask_lit (by decide +kernel), .non⟩
        · exact ⟨_, ask_lit (by decide +kernel), .int _⟩
        · exact ⟨_, ask_lit (by decide +kernel), .bl _⟩
        · exact ⟨.list [.str (textM m)], ⟨(fun _ z => nomatch z), (st.list1 (by show 0 < 20; decide)).mono (by decide), by show 1 ≤ 2; decide⟩, .lst g1 (.cons (.str _) .nil)⟩
        · exact ⟨.tuple [.str (textM m)], ⟨(fun _ z => nomatch z), (st.tup1 (by show 0 < 20; decide)).mono (by decide), by show 1 ≤ 2; decide⟩, .tup g2 (.cons (.str _) .nil)⟩
        · exact ⟨.tuple [.str m.1, .str m.2], ⟨(fun _ z => nomatch z), ((Shw.str o1).tup2 (Shw.str o2) (by show 0 < 20; decide) (by show 0 < 20; decide)).mono (by decide), by show 1 ≤ 2; decide⟩, .tup g3 (.cons (.str _) (.cons (.str _) .nil))⟩
        · exact ⟨.dict [], ask_lit (by decide +kernel), .dct g4 .nil .nil⟩
        · exact ⟨_, ask_lit (by decide +kernel), .str _⟩
        · exact ⟨_, ask_lit (by decide +kernel), .str _⟩
        · exact ⟨_, ask_lit (by decide +kernel), .str _⟩
      obtain ⟨d, hd, hv⟩ := tx
      exact k x d H8 hd hv hp8 (kp.trans ((Keep.ext e04).trans kp2))
    refine ⟨_, rfl, rfl, _, rfl, ?_⟩
    refine ite2 (fun _ => ?_) (fun _ => ?_)
    · -- one word
      refine ⟨_, rfl, _, rfl, p, c, n + 1, 2, rfl, hp1, by omega, by decide, by decide, fun i H2 i0 i1 hp2 kp2 => ?_⟩
      have hL2 := kp2 l _ hL npl.symm ncl.symm
      have hi : i = 0 ∨ i = 1 := by omega
      rcases hi with rfl | rfl
      · exact ⟨l, _, 0, .str m.1, rfl, rfl, SqL.of hL2, atI_nat (j := 0) rfl, fin _ _ (o1.mono (by decide)) hp2 (kp.trans kp2)⟩
      · exact ⟨l, _, 1, .str m.2, rfl, rfl, SqL.of hL2, atI_nat (j := 1) rfl, fin _ _ (o2.mono (by decide)) hp2 (kp.trans kp2)⟩
    have l1 := o1.1
    have l2 := o2.1
    have lt := ot.1
    have c1 : (" " : Str).length = 1 := by decide +kernel
    have os : OkS 1 (" " : Str) := ok_lit (by decide +kernel)
    refine ⟨_, rfl, rfl, _, rfl, ?_⟩
    refine ite2 (fun _ => ?_) (fun _ => ?_)
    · -- something behind
      refine ⟨_, rfl, _, rfl, _, rfl, l, _, 1, .str m.2, rfl, rfl, SqL.of hL, atI_nat (j := 1) rfl, _, _, rfl, rfl, by omega, (by show 6 ≤ sizeLine; decide), fun L nL => ?_⟩
      refine pk _ L _ nL (by simp) (by simp) (fun x hx => ?_) fun z H3 hz hp3 kp3 => ⟨_, _, rfl, rfl, by have := hz.1; omega, fin _ _ ((ot.append hz).mono (by decide)) hp3 (kp.trans kp3)⟩
      simp only [List.mem_cons, List.not_mem_nil, or_false] at hx
      rcases hx with rfl | rfl | rfl | rfl | rfl | rfl
      all_goals first | exact ⟨_, rfl, (os.append o2).mono (by decide)⟩ | exact ⟨_, rfl, ok_lit (by decide +kernel)⟩
    refine ⟨_, rfl, rfl, _, rfl, ?_⟩
    refine ite2 (fun _ => ?_) (fun _ => ?_)
    · -- something ahead
      refine ⟨_, rfl, (by show 4 ≤ sizeLine; decide), fun L nL => ?_⟩
      refine pk _ L _ nL (by simp) (by simp) (fun x hx => ?_) fun z H3 hz hp3 kp3 => ⟨_, rfl, _, _, rfl, rfl, by have := hz.1; omega, fin _ _ ((hz.append ot).mono (by decide)) hp3 (kp.trans kp3)⟩
      simp only [List.mem_cons, List.not_mem_nil, or_false] at hx
      rcases hx with rfl | rfl | rfl | rfl
      all_goals exact ⟨_, rfl, ok_lit (by decide +kernel)⟩
    refine ⟨_, rfl, rfl, _, rfl, ?_⟩
    refine ite2 (fun _ => ?_) (fun _ => ?_)
    · refine ⟨_, rfl, l, _, 0, .str m.1, rfl, rfl, SqL.of hL, atI_nat (j := 0) rfl, _, _, rfl, rfl, ?_, _, rfl, l, _, 1, .str m.2, rfl, rfl, SqL.of hL, atI_nat (j := 1) rfl, _, _, rfl, rfl, ?_, fin _ _ (((o1.append (ok_lit (n := 2) (by decide +kernel))).append o2).mono (by decide)) (hp1.mono (by omega)) kp⟩
      · have : ("  " : Str).length = 2 := by decide +kernel
        omega
      · have : ("  " : Str).length = 2 := by decide +kernel
        rw [Str.length_append]
        omega
    refine ⟨_, rfl, rfl, _, rfl, ?_⟩
    refine ite2 (fun _ => ?_) (fun _ => ?_)
    · refine ⟨_, rfl, l, _, 1, .str m.2, rfl, rfl, SqL.of hL, atI_nat (j := 1) rfl, _, _, rfl, rfl, by omega, _, rfl, l, _, 0, .str m.1, rfl, rfl, SqL.of hL, atI_nat (j := 0) rfl, _, _, rfl, rfl, by rw [Str.length_append]; omega, fin _ _ (((o2.append os).append o1).mono (by decide)) (hp1.mono (by omega)) kp⟩
    refine ⟨_, rfl, rfl, _, rfl, ?_⟩
    refine ite2 (fun _ => ?_) (fun _ => ?_)
    · refine ⟨_, rfl, (by show 6 ≤ sizeLine; decide), fun L nL => ?_⟩
      refine pk _ L _ nL (by simp) (by simp) (fun x hx => ?_) fun z H3 hz hp3 kp3 => ?_
      · simp only [List.mem_cons, List.not_mem_nil, or_false] at hx
        rcases hx with rfl | rfl | rfl | rfl | rfl | rfl
        all_goals exact ⟨_, rfl, ok_lit (by decide +kernel)⟩
      · have hz1 := hz.1
        have hL3 := kp3 l _ hL npl.symm ncl.symm
        exact ⟨_, _, rfl, rfl, by omega, _, rfl, l, _, 1, .str m.2, rfl, rfl, SqL.of hL3, atI_nat (j := 1) rfl, _, _, rfl, rfl, by rw [Str.length_append]; omega, fin _ _ (((hz.append os).append o2).mono (by decide)) hp3 (kp.trans kp3)⟩
    refine ⟨_, rfl, rfl, _, rfl, ?_⟩
    refine ite2 (fun _ => ?_) (fun _ => ?_)
    · refine ⟨_, rfl, l, _, 0, .str m.1, rfl, rfl, SqL.of hL, atI_nat (j := 0) rfl, _, _, rfl, rfl, by omega, _, rfl, (by show 5 ≤ sizeLine; decide), fun L nL => ?_⟩
      refine pk _ L _ nL (by simp) (by simp) (fun x hx => ?_) fun z H3 hz hp3 kp3 => ?_
      · simp only [List.mem_cons, List.not_mem_nil, or_false] at hx
        rcases hx with rfl | rfl | rfl | rfl | rfl
        all_goals exact ⟨_, rfl, ok_lit (by decide +kernel)⟩
      · have hz1 := hz.1
        exact ⟨_, _, rfl, rfl, by rw [Str.length_append]; omega, fin _ _ (((o1.append os).append hz).mono (by decide)) hp3 (kp.trans kp3)⟩
    refine ⟨_, rfl, rfl, _, rfl, ?_⟩
    refine ite2 (fun _ => ?_) (fun _ => ?_)
    · exact ⟨_, rfl, l, _, 0, .str m.1, rfl, rfl, SqL.of hL, atI_nat (j := 0) rfl, _, rfl, l, _, 1, .str m.2, rfl, rfl, SqL.of hL, atI_nat (j := 1) rfl, _, _, rfl, rfl, by omega, fin _ _ ((o1.append o2).mono (by decide)) (hp1.mono (by omega)) kp⟩
    refine ⟨_, rfl, (by show 4 ≤ sizeLine; decide), fun L nL => ?_⟩
    refine pk _ L _ nL (by simp) (by simp) (fun x hx => ?_) fun z H3 hz hp3 kp3 => ?_
    · simp only [List.mem_cons, List.not_mem_nil, or_false] at hx
      rcases hx with rfl | rfl | rfl | rfl
      all_goals exact ⟨_, rfl, ok_lit (by decide +kernel)⟩
    · have hz1 := hz.1
      have hL3 := kp3 l _ hL npl.symm ncl.symm
      exact ⟨_, _, rfl, rfl, by omega, _, rfl, l, _, 1, .str m.2, rfl, rfl, SqL.of hL3, atI_nat (j := 1) rfl, _, _, rfl, rfl, by rw [Str.length_append]; omega, fin _ _ (((hz.append os).append o2).mono (by decide)) hp3 (kp.trans kp3)⟩
end
end K18
end
section
set_option Elab.async false
set_option autoImplicit false
set_option linter.all false
set_option maxRecDepth 100000
set_option maxHeartbeats 4000000
namespace K18
open PySem PySem.Spec PyProof.Rows L2 Ls
open C8 (pss_cut tCut)
open TL
theorem kin_six (wd : Str) : ∃ b0 b1 b2 b3 b4 b5, kinOf wd = [b0, b1, b2, b3, b4, b5] := by
  unfold kinOf
  split
  · exact ⟨_, _, _, _, _, _, rfl⟩
  · split
    · exact ⟨_, _, _, _, _, _, rfl⟩
    · split
      · exact ⟨_, _, _, _, _, _, rfl⟩
      · exact ⟨_, _, _, _, _, _, rfl⟩
theorem tv_N {H H' : Hp} {v : V} {d : PyData} (h : TV H v d) (x : LamX.ExtN H H') : TV H' v d := by
  have h1 : TV (vis [] H) v d := tv_vis h
  exact (h1.ext (vis_extN x)).ext vis_ext
section
variable {P : Program} {w : World} {K : PySem.W.Frag} {mg : Str → Option Value} {base : Heap} {CM CB CL CA CS CF CE CN CD : Addr} {tL tN : Tok}
/-! ### _law_kin -/
def spKin (cl : Str → Addr) : Sp := fun vs H Q _ => ∃ (a : Addr) (m : Str × Str), vs = [.ref a] ∧ MoveAt cl H a m ∧ Good m ∧ ∀ q H', Ext H H' → nw H H' q = some (.lst ((kinOf m.1).map V.bl)) → Q (.ref q) H'
abbrev s__law_kin : Stmt := top 27
abbrev N__law_kin : List Str := ["_law_move", "_law_found"]
theorem sc__law_kin : FnScope N__law_kin ["_law_move"] (defScope s__law_kin) := ⟨rfl, rfl, rfl, by decide +kernel, rfl, by decide +kernel, by decide +kernel⟩
theorem ok_kin {f fs fe : Addr} {fd : FuncData} (F : Fun K "_law_kin" "_law_kin" s__law_kin f fd) (T : Tx K mg CM CB CL CA CS CF CE CN CD tL tN) (TC : ∀ wd ∈ W4, ClT K CM CB CL CA CS CF (clsOf CL CA CS CF wd) fs fe (kinOf wd)) :
    FnOk P w K mg base CX0 1 f fd ["_law_move"] (spKin (clsOf CL CA CS CF)) := by
  refine F.ok sc__law_kin (fun vs H Q E h => ?_) (fun cdv A outer s H vs Q E hr h => ?_)
  · obtain ⟨a, m, rfl, _⟩ := h
    rfl
  · obtain ⟨a, m, rfl, ⟨dx, ha⟩, hg, k⟩ := h
    have C := TC m.1 hg.1
    refine ⟨_, (pss_cons (ps_set (i := 1) sc__law_kin.nd rfl (by first | exact Or.inl rfl | exact Or.inr rfl) (pe_lst (pa_cons (pe_callB call_isi (by rfl) (T.bn _ (by decide +kernel)) (by decide +kernel) (pa_cons (pv 0) (pa_cons (pe_gref (by rfl) T.m_Move) pa_nil))) (pa_cons (pe_callB call_isi (by rfl) (T.bn _ (by decide +kernel)) (by decide +kernel) (pa_cons (pv 0) (pa_cons (pe_gref (by rfl) T.m_Bring) pa_nil))) (pa_cons (pe_callB call_isi (by rfl) (T.bn _ (by decide +kernel)) (by decide +kernel) (pa_cons (pv 0) (pa_cons (pe_gref (by rfl) T.m_Load) pa_nil))) (pa_cons (pe_callB call_isi (by rfl) (T.bn _ (by decide +kernel)) (by decide +kernel) (pa_cons (pv 0) (pa_cons (pe_gref (by rfl) T.m_Again) pa_nil))) pa_nil))))))
      (pss_one (ps_ret (pe_op op_cat (pv 1) (pe_lst (pa_cons (pe_callB call_isi (by rfl) (T.bn _ (by decide +kernel)) (by decide +kernel) (pa_cons (pv 0) (pa_cons (pe_gref (by rfl) T.m_Store) pa_nil))) (pa_cons (pe_callB call_isi (by rfl) (T.bn _ (by decide +kernel)) (by decide +kernel) (pa_cons (pv 0) (pa_cons (pe_gref (by rfl) T.m_Forget) pa_nil))) pa_nil))))))), ?_⟩
    obtain ⟨b0, b1, b2, b3, b4, b5, hk⟩ := kin_six m.1
    have kit := C.kit
    rw [hk] at kit
    have ty : ∀ {H' : Hp}, Ext H H' → TyX K H' (.ref a) (.ref (clsOf CL CA CS CF m.1)) := fun e => .base (.ins (e _ _ ha) C.cl C.ha C.hn C.htk C.hm)
    refine ⟨_, rfl, _, _, _, _, b0, rfl, .own CM, ty Ext.rfl', kit (CM, b0) (by simp), ?_⟩
    refine ⟨_, rfl, _, _, _, _, b1, rfl, .own CB, ty Ext.rfl', kit (CB, b1) (by simp), ?_⟩
    refine ⟨_, rfl, _, _, _, _, b2, rfl, .own CL, ty Ext.rfl', kit (CL, b2) (by simp), ?_⟩
    refine ⟨_, rfl, _, _, _, _, b3, rfl, .own CA, ty Ext.rfl', kit (CA, b3) (by simp), (by show 4 ≤ sizeLine; decide), fun l1 n1 => ?_⟩
    have e1 : Ext H (upd H l1 (.lst [.bl b0, .bl b1, .bl b2, .bl b3])) := Ext.upd n1
    refine ⟨_, rfl, _, rfl, _, _, _, _, b4, rfl, .own CS, ty e1, kit (CS, b4) (by simp), ?_⟩
    refine ⟨_, rfl, _, _, _, _, b5, rfl, .own CF, ty e1, kit (CF, b5) (by simp), (by show 2 ≤ sizeLine; decide), fun l2 n2 => ?_⟩
    refine ⟨l1, l2, _, _, rfl, rfl, by rw [upd_ne (ne_of_none upd_same n2)]; exact upd_same, upd_same, (by show 6 ≤ sizeLine; decide), fun l3 n3 => ?_⟩
    refine k l3 _ (e1.trans ((Ext.upd n2).trans (Ext.upd n3))) ?_
    rw [nw_at (ext_free (e1.trans (Ext.upd n2)) n3), upd_same, hk]
    rfl
/-! ### _law_read_right -/
def spRR (TT : List (Addr × Str)) : Sp := fun vs H Q _ => ∃ (v : V) (d : PyData), vs = [v] ∧ TV H v d ∧ Ask d ∧ LamX.Tabs TT H ∧ ∀ H', LamX.ExtN H H' → LamX.Tabs TT H' → Q (.bl true) H'
abbrev s__law_read_right : Stmt := top 26
abbrev N__law_read_right : List Str := ["_law_thing", "_law_heard_here", "_law_words", "_law_due", "_law_same", "_law_one"]
theorem sc__law_read_right : FnScope N__law_read_right ["_law_thing"] (defScope s__law_read_right) := ⟨rfl, rfl, rfl, by decide +kernel, rfl, by decide +kernel, by decide +kernel⟩
theorem ok_rr {f g fs fe c P1 : Addr} {fd fdh : FuncData} {TT : List (Addr × Str)} (F : Fun K "_law_read_right" "_law_read_right" s__law_read_right f fd) (T : Tx K mg CM CB CL CA CS CF CE CN CD tL tN) (TC : ∀ wd ∈ W4, ClT K CM CB CL CA CS CF (clsOf CL CA CS CF wd) fs fe (kinOf wd))
    (F__law_heard : Fun K "_law_heard" "_law_heard" s__law_heard g fdh) (m__law_heard : mg "_law_heard" = some (.ref g)) (b__law_heard : L2.Binds K fdh ["_law_ask"] [])
    (eN : ErrT K CE CN) (eD : ErrT K CE CD) (nND : PySem.W.kitOne K (.ref CN) (.ref CD) = some false) (nDN : PySem.W.kitOne K (.ref CD) (.ref CN) = some false)
    (hfc : fd.code = .ref c) (TB : LamX.TabB base mg c P1) (hmT : (P1, ("_law_read_right.<locals>.<lambda>" : Str)) ∈ TT) (huT : ∀ p ∈ TT, p.1 = P1 → p.2 = ("_law_read_right.<locals>.<lambda>" : Str)) (hsys : (base.get? sysModules).isSome = true)
    (rE : FnR P w K mg base CX0 1 fe (spEqM (clsOf CL CA CS CF))) (hfe : PySem.W.isFn K (.ref fe) = true) (rS : FnR P w K mg base CX0 1 fs (spStr (clsOf CL CA CS CF))) (hfs : PySem.W.isFn K (.ref fs) = true)
    (c__law_is_name : Cal P w K mg base CX0 1 "_law_is_name" spLIs) (c__law_made : Cal P w K mg base (L2.CX P w) 6 "_law_made" (spOf (clsOf CL CA CS CF) CN))
    (c_Move_read : Clm P w K mg base (L2.CX P w) 7 CM "read" (spRead (clsOf CL CA CS CF) CD)) (c_Move_read_kw : ClmK P w K mg base (L2.CX P w) 7 CM "read" "text" (spRead (clsOf CL CA CS CF) CD)) :
    FnG P w K mg base CX0 10 f fd ["_law_thing"] (spRR TT) := by
  refine okG F sc__law_read_right (fun vs H Q E h => ?_) (fun cdv A outer s H vs Q E hcd hgd hr h => ?_)
  · obtain ⟨v, d, rfl, _⟩ := h
    rfl
  · obtain ⟨v, d, rfl, hv, hA, hT, k⟩ := h
    rw [hfc] at hcd
    subst hcd
    refine ⟨_, (pss_cons (ps_set (i := 1) sc__law_read_right.nd rfl (by first | exact Or.inl rfl | exact Or.inr rfl) (pe_lst (pa_cons (pe_lamS (T := TT) (k := 7) F__law_heard (by rfl) m__law_heard b__law_heard sc__law_heard rfl (.inl rfl) (fun cdv => heard_gives T eN eD nND nDN) TB rfl hmT huT (hr.mono (by decide)) (LamX.lamS_by (sc := defScope s__law_read_right) (by decide +kernel)) rfl (fun _ _ _ _ _ => rfl) (fun A outer s H E f c2 hr => (pe_clm c_Move_read (hr.mono (by decide)) (pe_gref (by rfl) T.m_Move) passLm (pa_cons (pv 0) pa_nil)))) pa_nil)))
      (pss_cons (ps_expr (pe_bm PySem.F.plainAttrs_list PySem.F.slot_list_append PySem.F.type_list_append mt_append (pv 1) (pa_cons (pe_lamS (T := TT) (k := 7) F__law_heard (by rfl) m__law_heard b__law_heard sc__law_heard rfl (.inl rfl) (fun cdv => heard_gives T eN eD nND nDN) TB rfl hmT huT (hr.mono (by decide)) (LamX.lamS_by (sc := defScope s__law_read_right) (by decide +kernel)) rfl (fun _ _ _ _ _ => rfl) (fun A outer s H E f c2 hr => (pe_clmk c_Move_read_kw (hr.mono (by decide)) (pe_gref (by rfl) T.m_Move) passLm (pk_cons (pv 0) pk_nil)))) pa_nil)))
      (pss_cons (ps_set (i := 2) sc__law_read_right.nd rfl (by first | exact Or.inl rfl | exact Or.inr rfl) (pe_ifExp (pt_val (pe_callB call_isi (by rfl) (T.bn _ (by decide +kernel)) (by decide +kernel) (pa_cons (pv 0) (pa_cons (pe_gty (T := "str") (by rfl) (T.bn _ (by decide +kernel)) (by decide +kernel)) pa_nil)))) (pe_split (pv 0) pe_str) (pe_lst pa_nil)))
      (pss_cut (ps_if ((pw_and (pt_cmpR op_eq (pe_callB call_len_seq (by rfl) (T.bn _ (by decide +kernel)) (by decide +kernel) (pa_cons (pv 2) pa_nil)) pe_int (nomark _)) (pw_and (pt_cmpR op_in_seq (pe_ix ix_list (pv 2) pe_int (fun _ _ => rfl)) (pe_tup (pa_cons pe_str (pa_cons pe_str (pa_cons pe_str (pa_cons pe_str pa_nil))))) rfl) (pw_and1 (pt_val (pe_cal c__law_is_name (hr.mono (by decide)) (by rfl) pass0 (pa_cons (pe_ix ix_list (pv 2) pe_int (fun _ _ => rfl)) pa_nil))))))).pt (pss_cons (ps_set (i := 3) sc__law_read_right.nd rfl (by first | exact Or.inl rfl | exact Or.inr rfl) (pe_cal c__law_made (hr.mono (by decide)) (by rfl) passN (pa_cons (pe_ix ix_list (pv 2) pe_int (fun _ _ => rfl)) (pa_cons (pe_ix ix_list (pv 2) pe_int (fun _ _ => rfl)) pa_nil))))
      (pss_cons (ps_setLc (i := 4) (own := [("_law_one", 5)]) rfl sc__law_read_right.nd rfl rfl (sw_true rfl rfl rfl (by decide +kernel)) (pi_list (pv 1)) (blkOk_by (own := [("_law_one", 5)]) (N := N__law_read_right) (sc := defScope s__law_read_right) (by decide +kernel)) (fun _ _ _ _ _ => (pg_name (i := 5) sc__law_read_right.nd rfl (by first | exact Or.inl rfl | exact Or.inr rfl))) (fun _ _ _ _ _ => pts_one ((pw_and (pt_val (pe_callB (call_isiB (K := K) rfl) (by rfl) (T.bn _ (by decide +kernel)) (by decide +kernel) (pa_cons (pv 5) (pa_cons (pe_gty (T := "list") (by rfl) (T.bn _ (by decide +kernel)) (by decide +kernel)) pa_nil)))) (pw_and (pt_cmpR (op_eqOK rE hfe (hr.mono (by decide)) rfl rfl rfl rfl rfl rfl pass0) (pe_ix (ix_listK (K := K) rfl) (pv 5) pe_int (fun _ _ => rfl)) (pv 3) (nomark _)) (pw_and1 (pt_cmpR op_eq (pe_callTy (call_strOwnK hfs rS (hr.mono (by decide)) rfl rfl rfl rfl rfl rfl pass0) (by rfl) (T.bn _ (by decide +kernel)) (by decide +kernel) (pa_cons (pe_ix (ix_listK (K := K) rfl) (pv 5) pe_int (fun _ _ => rfl)) pa_nil)) (pv 0) (nomark _)))))).pt) (fun _ _ _ _ _ => pe_int))
      (pss_one (ps_ret (pe_cmpR (op_eqG (rcG_list mon_flat eqG_flat) (hr.mono (by decide))) (pv 4) (pe_lst (pa_cons pe_int (pa_cons pe_int pa_nil))) (nomark _)))))) pss_nil)
      (pss_one (ps_ret (pe_cmpR op_eq (pe_callB (call_repr hgd hr hsys) (by rfl) (T.bn _ (by decide +kernel)) (by decide +kernel) (pa_cons (pv 1) pa_nil)) (pe_callB (call_repr hgd hr hsys) (by rfl) (T.bn _ (by decide +kernel)) (by decide +kernel) (pa_cons (pe_lst (pa_cons (pe_tup (pa_cons pe_str (pa_cons (pv 0) pa_nil))) (pa_cons (pe_tup (pa_cons pe_str (pa_cons (pv 0) pa_nil))) pa_nil))) pa_nil)) (nomark _)))))))), ?_⟩
    cases hd : readOf d with
    | some m =>
      obtain ⟨rfl, hg⟩ := readOf_some hd
      cases tv_str hv
      have C := TC m.1 hg.1
      -- the first one heard
      refine ⟨hT, fun H1 x1 T1 E' Q' hE hQ => ⟨rfl, _, rfl, _, _, _, rfl, .str _, hA.sm, fun m' hm' a1 H2 e2 hm2 => hQ _ _ fun q1 H3 e3 hq1 => ?_, fun hn => by rw [hd] at hn; cases hn⟩⟩
      rw [hd] at hm'
      cases hm'
      refine ⟨(by show 1 ≤ sizeLine; decide), fun hh nh => ?_⟩
      have x3 : LamX.ExtN H H3 := x1.trans (LamX.ExtN.of (e2.trans e3))
      have T3 := (T1.ext e2).ext e3
      have hq1' : H3 q1 = some (.lst [.ref a1]) := (nw_some hq1).2
      have hm3 : MoveAt (clsOf CL CA CS CF) H3 a1 m := (hm2.mono nw_ext).mono e3
      have e4 : Ext H3 (upd H3 hh (.lst [.ref q1])) := Ext.upd nh
      have h4 : (upd H3 hh (.lst [.ref q1])) hh = some (.lst [.ref q1]) := upd_same
      have nhH : ∀ b o, H b = some o → (∀ ps, o ≠ .tbl ps) → b ≠ hh := fun b o q n => ne_of_none (x3 b o q n) nh
      have x4 : LamX.ExtN H (upd H3 hh (.lst [.ref q1])) := x3.trans (LamX.ExtN.of e4)
      have T4 := T3.ext e4
      have q4 := e4 _ _ hq1'
      have m4 := hm3.mono e4
      have n14 : q1 ≠ hh := ne_of_none hq1' nh
      generalize (upd H3 hh (.lst [.ref q1])) = H4 at e4 h4 x4 T4 q4 m4
      -- the second one
      refine ⟨_, rfl, .inl ⟨rfl, _, SqL.of h4⟩, T4, fun H5 x5 T5 E' Q' hE hQ => ⟨rfl, _, rfl, _, rfl, _, _, _, rfl, .str _, hA.sm, fun m' hm' a2 H6 e6 hm6 => hQ _ _ fun q2 H7 e7 hq2 => ?_, fun hn => by rw [hd] at hn; cases hn⟩⟩
      rw [hd] at hm'
      cases hm'
      have x7 : LamX.ExtN H4 H7 := x5.trans (LamX.ExtN.of (e6.trans e7))
      have T7 := (T5.ext e6).ext e7
      have h7 : H7 hh = some (.lst [.ref q1]) := x7 _ _ h4 (fun ps z => nomatch z)
      have q17 : H7 q1 = some (.lst [.ref a1]) := x7 _ _ q4 (fun ps z => nomatch z)
      obtain ⟨dx1, a17⟩ : MoveAt (clsOf CL CA CS CF) H7 a1 m := by
        obtain ⟨dx, z⟩ := m4
        exact ⟨dx, x7 _ _ z (fun ps z => nomatch z)⟩
      have q27 : H7 q2 = some (.lst [.ref a2]) := (nw_some hq2).2
      obtain ⟨dx2, a27⟩ : MoveAt (clsOf CL CA CS CF) H7 a2 m := (hm6.mono nw_ext).mono e7
      have n27 : q2 ≠ hh := fun z => by
        have z1 := (nw_some hq2).1
        rw [z] at z1
        rw [e6 _ _ (x5 _ _ h4 (fun ps z => nomatch z))] at z1
        cases z1
      refine ⟨hh, _, _, rfl, rfl, h7, (by show 1 < sizeLine; decide), ?_⟩
      -- both are in the list
      have ins : ∀ {b : Addr} {o : HO}, H7 b = some o → (∀ xs, o ≠ .lst xs) → (upd H7 hh (.lst ([.ref q1] ++ [.ref q2]))) b = some o := fun {b o} q n => by
        rw [upd_ne fun z => by rw [z, h7] at q; exact n _ (Option.some.inj q).symm]
        exact q
      have g_h : (upd H7 hh (.lst ([.ref q1] ++ [.ref q2]))) hh = some (.lst [.ref q1, .ref q2]) := upd_same
      have g_1 : (upd H7 hh (.lst ([.ref q1] ++ [.ref q2]))) q1 = some (.lst [.ref a1]) := by rw [upd_ne n14]; exact q17
      have g_2 : (upd H7 hh (.lst ([.ref q1] ++ [.ref q2]))) q2 = some (.lst [.ref a2]) := by rw [upd_ne n27]; exact q27
      have g_a1 := ins a17 (fun xs z => nomatch z)
      have g_a2 := ins a27 (fun xs z => nomatch z)
      have xG : LamX.ExtN H (upd H7 hh (.lst ([.ref q1] ++ [.ref q2]))) := fun b o q n => by
        rw [upd_ne (nhH b o q n)]
        exact x7 _ _ (x4 _ _ q n) n
      have TG : LamX.Tabs TT (upd H7 hh (.lst ([.ref q1] ++ [.ref q2]))) := tabs_upd T7 h7
      generalize (upd H7 hh (.lst ([.ref q1] ++ [.ref q2]))) = G at g_h g_1 g_2 g_a1 g_a2 xG TG
      have hzl : (textM m).length ≤ 1000 := hA.sm _ rfl
      have hw : Txt.split (textM m) " " = [m.1, m.2] := split_two (name_no (w4_name hg.1) (by decide +kernel)) (name_no hg.2 (by decide +kernel))
      refine ⟨_, rfl, _, _, _, _, true, rfl, .ty "str", .base (.str _), kit_ty (by decide +kernel), _, rfl, ?_⟩
      refine iteT ?_
      refine ⟨_, rfl, ⟨_, rfl⟩, _, _, rfl, rfl, (by decide +kernel), Nat.le_trans (Nat.add_le_add_right hzl 2) (by decide), fun l hl => ?_⟩
      rw [hw]
      have hL : (upd G l (.lst ([m.1, m.2].map V.str))) l = some (.lst [.str m.1, .str m.2]) := upd_same
      have eL : Ext G (upd G l (.lst ([m.1, m.2].map V.str))) := Ext.upd hl
      generalize (upd G l (.lst ([m.1, m.2].map V.str))) = G1 at hL eL
      refine ⟨fun _ _ => False, ?_, fun _ _ z => z.elim⟩
      refine ⟨_, rfl, l, _, rfl, .inl (SqL.of hL), rfl, _, rfl, ?_⟩
      refine iteT ?_
      refine ⟨_, rfl, l, _, 0, .str m.1, rfl, rfl, SqL.of hL, atI_nat (j := 0) rfl, (by show 4 ≤ sizeLine; decide), fun t ht => ?_⟩
      have eT : Ext G1 (upd G1 t (.tup [.str "load", .str "again", .str "store", .str "forget"])) := Ext.upd ht
      have hL2 := eT _ _ hL
      refine ⟨t, _, rfl, .inr (SqT.of upd_same), rfl, rfl, _, rfl, ?_⟩
      generalize (upd G1 t (.tup [.str "load", .str "again", .str "store", .str "forget"])) = G2 at hL2 eT
      rw [in_w4]
      refine iteYes (decide_eq_true hg.1) ?_
      refine ⟨_, rfl, l, _, 1, .str m.2, rfl, rfl, SqL.of hL2, atI_nat (j := 1) rfl, m.2, rfl, Nat.le_trans (name_len hg.2).2 (by decide), fun G3 e3 => ⟨_, rfl, ?_⟩⟩
      refine iteYes hg.2 ?_
      have hL3 := e3 _ _ hL2
      refine ⟨_, rfl, l, _, 0, .str m.1, rfl, rfl, SqL.of hL3, atI_nat (j := 0) rfl, _, rfl, l, _, 1, .str m.2, rfl, rfl, SqL.of hL3, atI_nat (j := 1) rfl, m.1, .str m.2, .str m.2, rfl, hg.1, .str _, fun z e => by cases e; exact Nat.le_trans (name_len hg.2).2 (by decide), fun n hn a3 G4 e4 hm4 => ?_, fun hn => by rw [nameOf_str hg.2] at hn; cases hn⟩
      rw [nameOf_str hg.2] at hn
      cases hn
      have eG : Ext G G4 := eL.trans (eT.trans (e3.trans e4))
      obtain ⟨dx3, a34⟩ : MoveAt (clsOf CL CA CS CF) G4 a3 m := hm4.mono nw_ext
      have k_h := eG _ _ g_h
      have k_1 := eG _ _ g_1
      have k_2 := eG _ _ g_2
      have k_a1 := eG _ _ g_a1
      have k_a2 := eG _ _ g_a2
      have xK : LamX.ExtN H G4 := xG.trans (LamX.ExtN.of eG)
      have TK := TG.ext eG
      -- the comprehension
      refine ⟨_, rfl, hh, rfl, ⟨_, SqL.of k_h⟩, fun D hD => ?_⟩
      have nhD : hh ≠ D := ne_of_none k_h hD
      refine lc_it (walk_list (xs := [.ref q1, .ref q2])) (fun i Hx => Hx = upd G4 D (.lst (List.replicate i (.int 1)))) rfl (fun i Hx _ e => by rw [e]; exact SqL.of (by rw [upd_ne nhD]; exact k_h)) ?_ ?_
      · rintro i x _ H' hi rfl ⟨rfl, hx⟩
        obtain ⟨q, a', dx', rfl, kq, ka⟩ : ∃ (q a' : Addr) (dx' : Addr), x = .ref q ∧ G4 q = some (.lst [.ref a']) ∧ G4 a' = some (.ins (clsOf CL CA CS CF m.1) dx' (flds m.1 m.2)) := by
          match i, hx with
          | 0, hx => exact ⟨q1, a1, dx1, (Option.some.inj hx).symm, k_1, k_a1⟩
          | 1, hx => exact ⟨q2, a2, dx2, (Option.some.inj hx).symm, k_2, k_a2⟩
        have up : ∀ {b : Addr} {o : HO}, G4 b = some o → (upd G4 D (.lst (List.replicate i (.int 1)))) b = some o := fun {b o} q => by rw [upd_ne (ne_of_none q hD)]; exact q
        refine ⟨rfl, _, rfl, _, _, _, _, true, rfl, .ty "list", .base (.lst (up kq)), kit_ty (by decide +kernel), _, rfl, ?_⟩
        refine iteT ?_
        refine ⟨_, rfl, q, _, 0, .ref a', rfl, rfl, SqL.of (up kq), atI_nat (j := 0) rfl, _, rfl, a', _, dx', _, .ref (clsOf CL CA CS CF m.1), rfl, up ka, C.eq, .base (.ins (up a34) C.cl C.ha C.hn C.htk C.hm), by simp [PySem.W.notFirst], a', _, m, rfl, ⟨dx', up ka⟩, hg, .inl ⟨a3, m, rfl, ⟨dx3, up a34⟩, hg, true, by rw [decide_eq_true rfl], _, rfl, ?_⟩⟩
        refine iteT ?_
        refine ⟨_, rfl, q, _, 0, .ref a', rfl, rfl, SqL.of (up kq), atI_nat (j := 0) rfl, a', _, dx', _, rfl, up ka, C.st, a', m, rfl, ⟨dx', up ka⟩, hg, _, rfl, _, rfl, rfl, _, rfl, ?_⟩
        refine iteYes (decide_eq_true rfl) ?_
        refine ⟨_, upd_same, ?_, ?_⟩
        · rw [List.length_replicate]
          have : i < 2 := hi
          exact Nat.lt_of_lt_of_le this (by decide)
        · rw [upd_upd, ← List.replicate_succ']
      · rintro _ rfl
        refine ⟨_, rfl, (by show 2 ≤ sizeLine; decide), fun l2 n2 => ⟨⟨D, l2, _, _, rfl, rfl, by rw [upd_ne (ne_of_none upd_same n2)]; exact upd_same, upd_same, ?_⟩, fun G6 e6 => ?_⟩⟩
        · exact .cons ⟨rfl, rfl, rfl⟩ (.cons ⟨rfl, rfl, rfl⟩ .nil)
        · have e : Ext G4 G6 := (Ext.upd hD).trans ((Ext.upd n2).trans e6)
          exact k G6 (xK.trans (LamX.ExtN.of e)) (TK.ext e)
    | none =>
      -- the first one heard
      refine ⟨hT, fun H1 x1 T1 E' Q' hE hQ => ⟨rfl, _, rfl, _, _, d, rfl, tv_N hv x1, hA.sm, fun m' hm' => (by rw [hd] at hm'; cases hm'), fun _ dd H2 e2 hdd => hE _ _ _ ⟨CD, dd, v, "move", rfl, rfl, (nw_some hdd).2, .inl ⟨rfl, rfl⟩, fun q1 H3 e3 hq1 => ?_⟩⟩⟩
      refine ⟨(by show 1 ≤ sizeLine; decide), fun hh nh => ?_⟩
      have x3 : LamX.ExtN H H3 := x1.trans (LamX.ExtN.of (e2.trans e3))
      have T3 := (T1.ext e2).ext e3
      have hq1' : H3 q1 = some (.tup [.str "move", v]) := (nw_some hq1).2
      have e4 : Ext H3 (upd H3 hh (.lst [.ref q1])) := Ext.upd nh
      have h4 : (upd H3 hh (.lst [.ref q1])) hh = some (.lst [.ref q1]) := upd_same
      have nhH : ∀ b o, H b = some o → (∀ ps, o ≠ .tbl ps) → b ≠ hh := fun b o q n => ne_of_none (x3 b o q n) nh
      have x4 : LamX.ExtN H (upd H3 hh (.lst [.ref q1])) := x3.trans (LamX.ExtN.of e4)
      have T4 := T3.ext e4
      have q4 := e4 _ _ hq1'
      generalize (upd H3 hh (.lst [.ref q1])) = H4 at e4 h4 x4 T4 q4
      -- the second one
      refine ⟨_, rfl, .inl ⟨rfl, _, SqL.of h4⟩, T4, fun H5 x5 T5 E' Q' hE hQ => ⟨rfl, _, rfl, _, rfl, _, _, d, rfl, tv_N hv (x4.trans x5), hA.sm, fun m' hm' => (by rw [hd] at hm'; cases hm'), fun _ dd H6 e6 hdd => hE _ _ _ ⟨CD, dd, v, "move", rfl, rfl, (nw_some hdd).2, .inl ⟨rfl, rfl⟩, fun q2 H7 e7 hq2 => ?_⟩⟩⟩
      have x7 : LamX.ExtN H4 H7 := x5.trans (LamX.ExtN.of (e6.trans e7))
      have T7 := (T5.ext e6).ext e7
      have h7 : H7 hh = some (.lst [.ref q1]) := x7 _ _ h4 (fun ps z => nomatch z)
      have q17 : H7 q1 = some (.tup [.str "move", v]) := x7 _ _ q4 (fun ps z => nomatch z)
      have q27 : H7 q2 = some (.tup [.str "move", v]) := (nw_some hq2).2
      refine ⟨hh, _, _, rfl, rfl, h7, (by show 1 < sizeLine; decide), ?_⟩
      have ins : ∀ {b : Addr} {xs : List V}, H7 b = some (.tup xs) → (upd H7 hh (.lst ([.ref q1] ++ [.ref q2]))) b = some (.tup xs) := fun {b xs} q => by
        rw [upd_ne fun z => by rw [z, h7] at q; cases q]
        exact q
      have g_h : (upd H7 hh (.lst ([.ref q1] ++ [.ref q2]))) hh = some (.lst [.ref q1, .ref q2]) := upd_same
      have g_1 := ins q17
      have g_2 := ins q27
      have xG : LamX.ExtN H (upd H7 hh (.lst ([.ref q1] ++ [.ref q2]))) := fun b o q n => by
        rw [upd_ne (nhH b o q n)]
        exact x7 _ _ (x4 _ _ q n) n
      have TG : LamX.Tabs TT (upd H7 hh (.lst ([.ref q1] ++ [.ref q2]))) := tabs_upd T7 h7
      generalize (upd H7 hh (.lst ([.ref q1] ++ [.ref q2]))) = G at g_h g_1 g_2 xG TG
      have sd : Shw 1110 (.tuple [.str "move", d]) := by
        have h1 : Shw 100 (.str "move") := ⟨rfl, by decide, by decide +kernel⟩
        exact (h1.tup2 hA.sw (by decide) (by have := hA.dp; omega)).mono (by decide)
      have dd2 : (PyData.tuple [.str "move", d]).depth ≤ 3 := by
        show max (0 : Nat) (max d.depth 0) + 1 ≤ 3
        have := hA.dp
        omega
      have sl : Shw 3000 (.list [.tuple [.str "move", d], .tuple [.str "move", d]]) := (sd.list2 sd (by omega) (by omega)).mono (by decide)
      have hv_ : ∀ {H' : Hp}, LamX.ExtN H H' → TV H' v d := fun x => tv_N hv x
      -- what is left: the two texts
      refine ⟨_, rfl, _, _, _, _, isStrD d, rfl, .ty "str", tyX_of (hv_ xG), kit_str d, _, rfl, ?_⟩
      cases hs : isStrD d with
      | false =>
        refine iteF ?_
        refine ⟨(by show 0 ≤ sizeLine; decide), fun l hl => ?_⟩
        refine ⟨fun σ' G' => σ' = [some v, some (.ref hh), some (.ref l), none, none, none] ∧ Ext G G', ?_, ?_⟩
        · refine ⟨_, rfl, l, _, rfl, .inl (SqL.of upd_same), rfl, _, rfl, ?_⟩
          refine iteF ?_
          exact ⟨rfl, Ext.upd hl⟩
        · rintro σ' G' ⟨rfl, eG⟩
          have xL : LamX.ExtN H G' := xG.trans (LamX.ExtN.of eG)
          refine ⟨_, rfl, _, .list [.tuple [.str "move", d], .tuple [.str "move", d]], rfl, .lst (eG _ _ g_h) (.cons (.tup (eG _ _ g_1) (.cons (.str _) (.cons (hv_ xL) .nil))) (.cons (.tup (eG _ _ g_2) (.cons (.str _) (.cons (hv_ xL) .nil))) .nil)), sl.sh, Nat.le_trans sl.dp (by decide), Nat.le_trans sl.ln (by decide), ?_⟩
          refine ⟨_, rfl, (by show 2 ≤ sizeLine; decide), fun t1 n1 => ⟨_, rfl, (by show 2 ≤ sizeLine; decide), fun t2 n2 => ⟨(by show 2 ≤ sizeLine; decide), fun l2 n3 => ?_⟩⟩⟩
          have y1 := Ext.upd (o := HO.tup [.str "move", v]) n1
          have y2 := y1.trans (Ext.upd (o := HO.tup [.str "move", v]) n2)
          have y3 := y2.trans (Ext.upd (o := HO.lst [.ref t1, .ref t2]) n3)
          have xM := xL.trans (LamX.ExtN.of y3)
          refine ⟨_, .list [.tuple [.str "move", d], .tuple [.str "move", d]], rfl, .lst upd_same (.cons (.tup ?_ (.cons (.str _) (.cons (hv_ xM) .nil))) (.cons (.tup ?_ (.cons (.str _) (.cons (hv_ xM) .nil))) .nil)), sl.sh, Nat.le_trans sl.dp (by decide), Nat.le_trans sl.ln (by decide), rfl, ?_⟩
          · rw [upd_ne (ne_of_none (by rw [upd_ne (ne_of_none upd_same n2)]; exact upd_same) n3), upd_ne (ne_of_none upd_same n2)]
            exact upd_same
          · rw [upd_ne (ne_of_none upd_same n3)]
            exact upd_same
          · rw [decide_eq_true rfl]
            exact k _ xM (TG.ext (eG.trans y3))
      | true =>
        refine iteT ?_
        obtain ⟨z, rfl⟩ := strD hs
        cases tv_str hv
        have hz : z.length ≤ 1000 := hA.sm z rfl
        refine ⟨_, rfl, ⟨_, rfl⟩, _, _, rfl, rfl, (by decide +kernel), Nat.le_trans (Nat.add_le_add_right hz 2) (by decide), fun l hl => ?_⟩
        generalize hw : Txt.split z " " = ws
        have rd : rd2 ws = none := by
          rw [← hw]
          exact hd
        have wl : ∀ y ∈ ws, y.length ≤ 1000 := fun y hy => Nat.le_trans (split_sub (x := z) sp_tl sp_kd (by rw [hw]; exact hy)).1 hz
        have hL : (upd G l (.lst (ws.map V.str))) l = some (.lst (ws.map V.str)) := upd_same
        have eL : Ext G (upd G l (.lst (ws.map V.str))) := Ext.upd hl
        generalize (upd G l (.lst (ws.map V.str))) = G1 at hL eL
        refine ⟨fun σ' G' => σ' = [some (.str z), some (.ref hh), some (.ref l), none, none, none] ∧ Ext G G', ?_, ?_⟩
        · refine ⟨_, rfl, l, _, rfl, .inl (SqL.of hL), rfl, _, rfl, ?_⟩
          refine ite2 (fun h1 => ?_) (fun _ => ⟨rfl, eL⟩)
          obtain ⟨a, b, rfl⟩ : ∃ a b, ws = [a, b] := by
            match ws, h1 with
            | [a, b], _ => exact ⟨a, b, rfl⟩
            | [], h => simp at h
            | [_], h => simp at h
            | _ :: _ :: _ :: _, h =>
              simp at h
              omega
          refine ⟨_, rfl, l, _, 0, .str a, rfl, rfl, SqL.of hL, atI_nat (j := 0) rfl, (by show 4 ≤ sizeLine; decide), fun t ht => ?_⟩
          have eT : Ext G1 (upd G1 t (.tup [.str "load", .str "again", .str "store", .str "forget"])) := Ext.upd ht
          have hL2 := eT _ _ hL
          refine ⟨t, _, rfl, .inr (SqT.of upd_same), rfl, rfl, _, rfl, ?_⟩
          generalize (upd G1 t (.tup [.str "load", .str "again", .str "store", .str "forget"])) = G2 at hL2 eT
          rw [in_w4]
          by_cases ha : a ∈ W4
          · refine iteYes (decide_eq_true ha) ?_
            have hb : isName b = false := by
              cases q : isName b with
              | false => rfl
              | true =>
                have : rd2 [a, b] = some (a, b) := if_pos ⟨ha, q⟩
                rw [this] at rd
                cases rd
            refine ⟨_, rfl, l, _, 1, .str b, rfl, rfl, SqL.of hL2, atI_nat (j := 1) rfl, b, rfl, wl b (by simp), fun G3 e3 => ⟨_, rfl, ?_⟩⟩
            rw [hb]
            refine iteF ?_
            exact ⟨rfl, eL.trans (eT.trans e3)⟩
          · refine iteNo (decide_eq_false ha) ?_
            exact ⟨rfl, eL.trans eT⟩
        · rintro σ' G' ⟨rfl, eG⟩
          have xL : LamX.ExtN H G' := xG.trans (LamX.ExtN.of eG)
          refine ⟨_, rfl, _, .list [.tuple [.str "move", .str z], .tuple [.str "move", .str z]], rfl, .lst (eG _ _ g_h) (.cons (.tup (eG _ _ g_1) (.cons (.str _) (.cons (hv_ xL) .nil))) (.cons (.tup (eG _ _ g_2) (.cons (.str _) (.cons (hv_ xL) .nil))) .nil)), sl.sh, Nat.le_trans sl.dp (by decide), Nat.le_trans sl.ln (by decide), ?_⟩
          refine ⟨_, rfl, (by show 2 ≤ sizeLine; decide), fun t1 n1 => ⟨_, rfl, (by show 2 ≤ sizeLine; decide), fun t2 n2 => ⟨(by show 2 ≤ sizeLine; decide), fun l2 n3 => ?_⟩⟩⟩
          have y1 := Ext.upd (o := HO.tup [.str "move", .str z]) n1
          have y2 := y1.trans (Ext.upd (o := HO.tup [.str "move", .str z]) n2)
          have y3 := y2.trans (Ext.upd (o := HO.lst [.ref t1, .ref t2]) n3)
          have xM := xL.trans (LamX.ExtN.of y3)
          refine ⟨_, .list [.tuple [.str "move", .str z], .tuple [.str "move", .str z]], rfl, .lst upd_same (.cons (.tup ?_ (.cons (.str _) (.cons (hv_ xM) .nil))) (.cons (.tup ?_ (.cons (.str _) (.cons (hv_ xM) .nil))) .nil)), sl.sh, Nat.le_trans sl.dp (by decide), Nat.le_trans sl.ln (by decide), rfl, ?_⟩
          · rw [upd_ne (ne_of_none (by rw [upd_ne (ne_of_none upd_same n2)]; exact upd_same) n3), upd_ne (ne_of_none upd_same n2)]
            exact upd_same
          · rw [upd_ne (ne_of_none upd_same n3)]
            exact upd_same
          · rw [decide_eq_true rfl]
            exact k _ xM (TG.ext (eG.trans y3))
end
end K18
end
section
set_option Elab.async false
set_option autoImplicit false
set_option linter.all false
set_option maxRecDepth 100000
set_option maxHeartbeats 4000000
namespace K18
open PySem PySem.Spec PyProof.Rows L2 Ls
open C8 (pss_cut tCut)
open TL
/-! ### law -/
abbrev kw (x : Str) : Key := Sum.inr x
/-- the words and the kinds, as they were written -/
structure Cst (G : Hp) (Wd Kd : Addr) : Prop where
  wd : G Wd = some (.lst (W4.map V.str))
  kd : ∃ kvs, G Kd = some (.dK kvs) ∧ ∀ x ∈ W4, ∃ q, valV kvs (kw x) = some (.ref q) ∧ G q = some (.lst ((kinOf x).map V.bl))
theorem Cst.ext {G G' : Hp} {Wd Kd : Addr} (h : Cst G Wd Kd) (e : Ext G G') : Cst G' Wd Kd := ⟨e _ _ h.wd, by
  obtain ⟨kvs, h1, h2⟩ := h.kd
  exact ⟨kvs, e _ _ h1, fun x hx => by
    obtain ⟨q, q1, q2⟩ := h2 x hx
    exact ⟨q, q1, e _ _ q2⟩⟩⟩
theorem PenAt.tabs {H H' : Hp} {p c : Addr} {n : Nat} {TT : List (Addr × Str)} (h : PenAt H p c n) (t : LamX.Tabs TT H) (k : Keep p c H H') : LamX.Tabs TT H' := by
  obtain ⟨ns, b, r, h1, h2, _⟩ := h
  exact tabs_keep t k h1 h2
theorem PenAt.extN {H H' : Hp} {p c : Addr} {n : Nat} (h : PenAt H p c n) (e : LamX.ExtN H H') : PenAt H' p c n := by
  obtain ⟨ns, b, r, h1, h2, h3⟩ := h
  exact ⟨ns, b, r, e _ _ h1 (fun ps z => nomatch z), e _ _ h2 (fun ps z => nomatch z), h3⟩
theorem prs_bl {H : Hp} : ∀ l : List Bool, Prs DFlat (l.map V.bl) (l.map V.bl) H
  | [] => .nil
  | b :: l => .cons ⟨rfl, rfl, by cases b <;> rfl⟩ (prs_bl l)
section
variable {P : Program} {w : World} {K : PySem.W.Frag} {mg : Str → Option Value} {base : Heap} {CM CB CL CA CS CF CE CN CD : Addr} {tL tN : Tok}
def spLaw (K : PySem.W.Frag) (TT : List (Addr × Str)) : Sp := fun vs H Q _ => ∃ (a : Addr) (ns : List Int), vs = [.ref a] ∧ SqL K H a (ns.map V.int) ∧ ns.length ≤ 63 ∧ LamX.Tabs TT H ∧ ∀ H', Q (.bl true) H'
abbrev s_law : Stmt := top 28
abbrev N_law : List Str := ["_law_script", "_law_pen_here", "_law_words", "_law_kin_here", "_law_go", "_law_name_here", "_law_other", "_law_at", "_law_word", "_law_move", "_law_also", "_law_second", "_law_due", "_law_twin", "_law_odd_here", "_law_heard_here"]
theorem sc_law : FnScope N_law ["_law_script"] (defScope s_law) := ⟨rfl, rfl, rfl, by decide +kernel, rfl, by decide +kernel, by decide +kernel⟩
theorem ok_law {f g fs fe c2 P2 : Addr} {fd fdh : FuncData} {TT : List (Addr × Str)} (F : Fun K "law" "law" s_law f fd) (T : Tx K mg CM CB CL CA CS CF CE CN CD tL tN) (TC : ∀ wd ∈ W4, ClT K CM CB CL CA CS CF (clsOf CL CA CS CF wd) fs fe (kinOf wd))
    (F__law_heard : Fun K "_law_heard" "_law_heard" s__law_heard g fdh) (m__law_heard : mg "_law_heard" = some (.ref g)) (b__law_heard : L2.Binds K fdh ["_law_ask"] [])
    (eN : ErrT K CE CN) (eD : ErrT K CE CD) (nND : PySem.W.kitOne K (.ref CN) (.ref CD) = some false) (nDN : PySem.W.kitOne K (.ref CD) (.ref CN) = some false)
    (hfc : fd.code = .ref c2) (TB : LamX.TabB base mg c2 P2) (hmT : (P2, ("law.<locals>.<lambda>" : Str)) ∈ TT) (huT : ∀ p ∈ TT, p.1 = P2 → p.2 = ("law.<locals>.<lambda>" : Str)) (hsys : (base.get? sysModules).isSome = true)
    (rE : FnR P w K mg base CX0 1 fe (spEqM (clsOf CL CA CS CF))) (hfe : PySem.W.isFn K (.ref fe) = true) (rS : FnR P w K mg base CX0 1 fs (spStr (clsOf CL CA CS CF))) (hfs : PySem.W.isFn K (.ref fs) = true)
    (nF : ∀ x ∈ W4, ∀ y ∈ W4, PySem.W.notFirst K (clsOf CL CA CS CF x) (.ref (clsOf CL CA CS CF y)) = true) (nFt : ∀ x ∈ W4, ∀ T ∈ ["str", "tuple"], PySem.W.notFirst K (clsOf CL CA CS CF x) (.type T) = true) (hne : ∀ x ∈ W4, PySem.W.findIn K (.ref (clsOf CL CA CS CF x)) "__ne__" = some (some (.builtin "object.__ne__")))
    (c__law_pen : Cal P w K mg base CX0 1 "_law_pen" (spPen K)) (c__law_name : Cal P w K mg base CX0 3 "_law_name" spLName) (c__law_odd : Cal P w K mg base CX0 3 "_law_odd" spOdd) (c__law_bent : Cal P w K mg base CX0 3 "_law_bent" spBent)
    (c__law_kin : Cal P w K mg base CX0 1 "_law_kin" (spKin (clsOf CL CA CS CF))) (c__law_made : Cal P w K mg base (L2.CX P w) 6 "_law_made" (spOf (clsOf CL CA CS CF) CN)) (c__law_read_right : CalG P w K mg base CX0 10 "_law_read_right" (spRR TT)) :
    FnG P w K mg base CX0 12 f fd ["_law_script"] (spLaw K TT) := by
  refine okG F sc_law (fun vs H Q E h => ?_) (fun cdv A outer s H vs Q E hcd hgd hr h => ?_)
  · obtain ⟨a, ns, rfl, _⟩ := h
    rfl
  · obtain ⟨a, ns, rfl, ha, hn, hT, k⟩ := h
    rw [hfc] at hcd
    subst hcd
    have hu := hu_of hr
    refine ⟨_, (pss_cons (ps_set (i := 1) sc_law.nd rfl (by first | exact Or.inl rfl | exact Or.inr rfl) (pe_cal c__law_pen (hr.mono (by decide)) (by rfl) pass0 (pa_cons (pv 0) pa_nil)))
      (pss_cons (ps_set (i := 2) sc_law.nd rfl (by first | exact Or.inl rfl | exact Or.inr rfl) (pe_lst (pa_cons pe_str (pa_cons pe_str (pa_cons pe_str (pa_cons pe_str pa_nil))))))
      (pss_cons (ps_set (i := 3) sc_law.nd rfl (by first | exact Or.inl rfl | exact Or.inr rfl) (pe_disp (pps_cons pe_str (pe_lst (pa_cons pe_bl (pa_cons pe_bl (pa_cons pe_bl (pa_cons pe_bl (pa_cons pe_bl (pa_cons pe_bl pa_nil))))))) (pps_cons pe_str (pe_lst (pa_cons pe_bl (pa_cons pe_bl (pa_cons pe_bl (pa_cons pe_bl (pa_cons pe_bl (pa_cons pe_bl pa_nil))))))) (pps_cons pe_str (pe_lst (pa_cons pe_bl (pa_cons pe_bl (pa_cons pe_bl (pa_cons pe_bl (pa_cons pe_bl (pa_cons pe_bl pa_nil))))))) (pps_cons pe_str (pe_lst (pa_cons pe_bl (pa_cons pe_bl (pa_cons pe_bl (pa_cons pe_bl (pa_cons pe_bl (pa_cons pe_bl pa_nil))))))) pps_nil)))) (by rfl) (by rfl) (fun z => by cases z) (by decide)))
      (pss_cons (ps_for PassesOwn.never rfl (pi_range1 rfl (T.bn _ (by decide +kernel)) (pa_cons pe_int pa_nil)) (pg_name (i := 4) sc_law.nd rfl (by first | exact Or.inl rfl | exact Or.inr rfl))
      (pss_cons (ps_par (i := 5) (j := 6) rfl sc_law.nd rfl rfl (by decide) rfl rfl (pa_cons (pe_cal c__law_name (hr.mono (by decide)) (by rfl) pass0 (pa_cons (pv 1) pa_nil)) (pa_cons (pe_cal c__law_name (hr.mono (by decide)) (by rfl) pass0 (pa_cons (pv 1) pa_nil)) pa_nil)) (by rfl))
      (pss_one (ps_for PassesOwn.never rfl (pi_enum (by rfl) (T.bn _ (by decide +kernel)) (pa_cons (pv 2) pa_nil)) (pg_tup rfl (pgs_cons (pg_name (i := 7) sc_law.nd rfl (by first | exact Or.inl rfl | exact Or.inr rfl)) (pgs_cons (pg_name (i := 8) sc_law.nd rfl (by first | exact Or.inl rfl | exact Or.inr rfl)) pgs_nil)))
      (pss_cons (ps_set (i := 9) sc_law.nd rfl (by first | exact Or.inl rfl | exact Or.inr rfl) (pe_cal c__law_made (hr.mono (by decide)) (by rfl) passN (pa_cons (pv 8) (pa_cons (pv 5) pa_nil))))
      (pss_cons (ps_if (pt_cmpR (op_neG mon_flat eqG_flat (hr.mono (by decide))) (pe_lst (pa_cons (pe_fld (pv 9) rfl) (pa_cons (pe_fld (pv 9) rfl) (pa_cons (pe_callTy (call_strOwn hfs rS (hr.mono (by decide)) pass0) (by rfl) (T.bn _ (by decide +kernel)) (by decide +kernel) (pa_cons (pv 9) pa_nil)) pa_nil)))) (pe_lst (pa_cons (pv 8) (pa_cons (pv 5) (pa_cons (pe_op op_add_str (pe_op op_add_str (pv 8) pe_str) (pv 5)) pa_nil)))) (nomark _)) (pss_one (ps_ret pe_bl)) pss_nil)
      (pss_cons (ps_if (pt_cmpR (op_neG mon_flat eqG_flat (hr.mono (by decide))) (pe_cal c__law_kin (hr.mono (by decide)) (by rfl) pass0 (pa_cons (pv 9) pa_nil)) (pe_dget hu (pv 3) (pv 8) (fun _ _ => rfl)) (nomark _)) (pss_one (ps_ret pe_bl)) pss_nil)
      (pss_cut (ps_for PassesOwn.never rfl (pi_list (pv 2)) (pg_name (i := 10) sc_law.nd rfl (by first | exact Or.inl rfl | exact Or.inr rfl))
      (pss_one (ps_for PassesOwn.never rfl (pi_tup (pe_tup (pa_cons (pv 5) (pa_cons (pv 6) pa_nil)))) (pg_name (i := 11) sc_law.nd rfl (by first | exact Or.inl rfl | exact Or.inr rfl))
      (pss_cut (ps_set (i := 12) sc_law.nd rfl (by first | exact Or.inl rfl | exact Or.inr rfl) (pe_and (pe_cmpR op_eq (pv 8) (pv 10) (nomark _)) (pe_one (pe_cmpR op_eq (pv 5) (pv 11) (nomark _)))))
      (pss_cons (ps_set (i := 13) sc_law.nd rfl (by first | exact Or.inl rfl | exact Or.inr rfl) (pe_cal c__law_made (hr.mono (by decide)) (by rfl) passN (pa_cons (pv 10) (pa_cons (pv 11) pa_nil))))
      (pss_one (ps_if (pt_cmpR (op_neG mon_flat eqG_flat (hr.mono (by decide))) (pe_lst (pa_cons (pe_cmpR (op_eqO rE hfe (hr.mono (by decide)) pass0) (pv 9) (pv 13) (nomark _)) (pa_cons (pe_cmpR (op_neO rE hfe (hr.mono (by decide)) pass0) (pv 9) (pv 13) (nomark _)) pa_nil))) (pe_lst (pa_cons (pv 12) (pa_cons (pe_not (pv 12)) pa_nil))) (nomark _)) (pss_one (ps_ret pe_bl)) pss_nil)))))))
      (pss_cons (ps_set (i := 14) sc_law.nd rfl (by first | exact Or.inl rfl | exact Or.inr rfl) (pe_cal c__law_odd (hr.mono (by decide)) (by rfl) pass0 (pa_cons (pv 1) pa_nil)))
      (pss_cons (ps_set (i := 15) sc_law.nd rfl (by first | exact Or.inl rfl | exact Or.inr rfl) (pe_lamS (T := TT) (k := 7) F__law_heard (by rfl) m__law_heard b__law_heard sc__law_heard rfl (.inl rfl) (fun cdv => heard_gives T eN eD nND nDN) TB rfl hmT huT (hr.mono (by decide)) (LamX.lamS_by (sc := defScope s_law) (by decide +kernel)) rfl (fun _ _ _ _ _ => rfl) (fun A outer s H E f c2 hr => (pe_cal c__law_made (hr.mono (by decide)) (by rfl) passLm (pa_cons (pv 8) (pa_cons (pv 14) pa_nil))))))
      (pss_cons (ps_if ((pw_or (pt_not (pt_val (pe_callB call_isi (by rfl) (T.bn _ (by decide +kernel)) (by decide +kernel) (pa_cons (pv 15) (pa_cons (pe_gty (T := "tuple") (by rfl) (T.bn _ (by decide +kernel)) (by decide +kernel)) pa_nil))))) (pw_or1 (pt_cmpR op_ne (pe_callB (call_repr hgd hr hsys) (by rfl) (T.bn _ (by decide +kernel)) (by decide +kernel) (pa_cons (pv 15) pa_nil)) (pe_callB (call_repr hgd hr hsys) (by rfl) (T.bn _ (by decide +kernel)) (by decide +kernel) (pa_cons (pe_tup (pa_cons pe_str (pa_cons (pv 14) pa_nil))) pa_nil)) (nomark _))))).pt (pss_one (ps_ret pe_bl)) pss_nil)
      (pss_cons (ps_if ((pw_or (pt_not (pt_val (pe_calG hgd c__law_read_right (hr.mono (by decide)) (by rfl) pass0 (pa_cons (pe_callTy (call_strOwn hfs rS (hr.mono (by decide)) pass0) (by rfl) (T.bn _ (by decide +kernel)) (by decide +kernel) (pa_cons (pv 9) pa_nil)) pa_nil)))) (pw_or1 (pt_not (pt_val (pe_calG hgd c__law_read_right (hr.mono (by decide)) (by rfl) pass0 (pa_cons (pe_cal c__law_bent (hr.mono (by decide)) (by rfl) pass0 (pa_cons (pv 1) (pa_cons (pe_callTy (call_strOwn hfs rS (hr.mono (by decide)) pass0) (by rfl) (T.bn _ (by decide +kernel)) (by decide +kernel) (pa_cons (pv 9) pa_nil)) pa_nil))) pa_nil))))))).pt (pss_one (ps_ret pe_bl)) pss_nil)
      (pss_one (ps_if ((pw_or (pt_cmpR (op_eqO rE hfe (hr.mono (by decide)) pass0) (pv 9) (pe_callTy (call_strOwn hfs rS (hr.mono (by decide)) pass0) (by rfl) (T.bn _ (by decide +kernel)) (by decide +kernel) (pa_cons (pv 9) pa_nil)) (nomark _)) (pw_or1 (pt_cmpR (op_eqO rE hfe (hr.mono (by decide)) pass0) (pv 9) (pe_tup (pa_cons (pv 8) (pa_cons (pv 5) pa_nil))) (nomark _))))).pt (pss_one (ps_ret pe_bl)) pss_nil))))))))))))))
      (pss_one (ps_ret pe_bl)))))), ?_⟩
    refine ⟨_, rfl, a, ns, rfl, ha, by omega, fun p c H1 hp e1 _ _ => ?_⟩
    have T1 := hT.ext e1
    refine ⟨(by show 4 ≤ sizeLine; decide), fun Wd nW => ?_⟩
    have e2 : Ext H1 (upd H1 Wd (.lst [.str "load", .str "again", .str "store", .str "forget"])) := Ext.upd nW
    have f2 : (upd H1 Wd (.lst [.str "load", .str "again", .str "store", .str "forget"])) Wd = some (.lst (W4.map V.str)) := upd_same
    obtain ⟨w1, w2⟩ := hp.ne nW
    generalize (upd H1 Wd (.lst [.str "load", .str "again", .str "store", .str "forget"])) = H2 at e2 f2
    intro Kd nK
    have hp2 := hp.ext e2
    obtain ⟨d1, d2⟩ := hp2.ne nK
    have e3 : Ext H2 (upd H2 Kd (.dK [])) := Ext.upd nK
    have f3 : (upd H2 Kd (.dK [])) Kd = some (.dK []) := upd_same
    generalize (upd H2 Kd (.dK [])) = H3 at e3 f3
    refine ⟨(by show 6 ≤ sizeLine; decide), fun k0 n0 => ?_⟩
    have g0 : (upd H3 k0 (.lst [.bl true, .bl true, .bl true, .bl false, .bl false, .bl false])) k0 = some (.lst ((kinOf "load").map V.bl)) := by rw [upd_same]; exact congrArg (fun l => some (HO.lst (l.map V.bl))) (by decide +kernel : [true, true, true, false, false, false] = kinOf "load")
    have e4 : Ext H3 (upd H3 k0 (.lst [.bl true, .bl true, .bl true, .bl false, .bl false, .bl false])) := Ext.upd n0
    generalize (upd H3 k0 (.lst [.bl true, .bl true, .bl true, .bl false, .bl false, .bl false])) = H4 at g0 e4
    refine ⟨(by show 6 ≤ sizeLine; decide), fun k1 n1 => ?_⟩
    have g1 : (upd H4 k1 (.lst [.bl true, .bl true, .bl false, .bl true, .bl false, .bl false])) k1 = some (.lst ((kinOf "again").map V.bl)) := by rw [upd_same]; exact congrArg (fun l => some (HO.lst (l.map V.bl))) (by decide +kernel : [true, true, false, true, false, false] = kinOf "again")
    have e5 : Ext H4 (upd H4 k1 (.lst [.bl true, .bl true, .bl false, .bl true, .bl false, .bl false])) := Ext.upd n1
    generalize (upd H4 k1 (.lst [.bl true, .bl true, .bl false, .bl true, .bl false, .bl false])) = H5 at g1 e5
    refine ⟨(by show 6 ≤ sizeLine; decide), fun k2 n2 => ?_⟩
    have g2 : (upd H5 k2 (.lst [.bl true, .bl false, .bl false, .bl false, .bl true, .bl false])) k2 = some (.lst ((kinOf "store").map V.bl)) := by rw [upd_same]; exact congrArg (fun l => some (HO.lst (l.map V.bl))) (by decide +kernel : [true, false, false, false, true, false] = kinOf "store")
    have e6 : Ext H5 (upd H5 k2 (.lst [.bl true, .bl false, .bl false, .bl false, .bl true, .bl false])) := Ext.upd n2
    generalize (upd H5 k2 (.lst [.bl true, .bl false, .bl false, .bl false, .bl true, .bl false])) = H6 at g2 e6
    refine ⟨(by show 6 ≤ sizeLine; decide), fun k3 n3 => ?_⟩
    have g3 : (upd H6 k3 (.lst [.bl true, .bl false, .bl false, .bl false, .bl false, .bl true])) k3 = some (.lst ((kinOf "forget").map V.bl)) := by rw [upd_same]; exact congrArg (fun l => some (HO.lst (l.map V.bl))) (by decide +kernel : [true, false, false, false, false, true] = kinOf "forget")
    have e7 : Ext H6 (upd H6 k3 (.lst [.bl true, .bl false, .bl false, .bl false, .bl false, .bl true])) := Ext.upd n3
    generalize (upd H6 k3 (.lst [.bl true, .bl false, .bl false, .bl false, .bl false, .bl true])) = H7 at g3 e7
    have e37 : Ext H3 H7 := e4.trans (e5.trans (e6.trans e7))
    have f7 := e37 _ _ f3
    refine ⟨f7, [(kw "load", .ref k0), (kw "again", .ref k1), (kw "store", .ref k2), (kw "forget", .ref k3)], rfl, by show 4 ≤ 15; decide, ?_⟩
    have hp7 : PenAt H7 p c 0 := hp2.ext (e3.trans e37)
    have T8 : LamX.Tabs TT (upd H7 Kd (.dK (mergeK [] [(kw "load", .ref k0), (kw "again", .ref k1), (kw "store", .ref k2), (kw "forget", .ref k3)]))) := tabs_upd2 ((T1.ext e2).ext (e3.trans e37)) f7
    have hp8 : PenAt (upd H7 Kd (.dK (mergeK [] [(kw "load", .ref k0), (kw "again", .ref k1), (kw "store", .ref k2), (kw "forget", .ref k3)]))) p c 0 := hp7.upd d1 d2
    have at_ : ∀ {b : Addr} {H' : Hp} {xs : List V}, PenAt H' p c 0 → H' b = none → H7 b = some (.lst xs) → vis [p, c] (upd H7 Kd (.dK (mergeK [] [(kw "load", .ref k0), (kw "again", .ref k1), (kw "store", .ref k2), (kw "forget", .ref k3)]))) b = some (.lst xs) := fun {b H' xs} hp' nb hb => by
      obtain ⟨z1, z2⟩ := hp'.ne nb
      refine vis_at (by simp [z1.symm, z2.symm]) ?_ (fun ps z => nomatch z)
      rw [upd_ne fun z => by rw [z, f7] at hb; cases hb]
      exact hb
    have cst : Cst (vis [p, c] (upd H7 Kd (.dK (mergeK [] [(kw "load", .ref k0), (kw "again", .ref k1), (kw "store", .ref k2), (kw "forget", .ref k3)])))) Wd Kd := by
      have hp3 := hp2.ext e3
      refine ⟨at_ hp nW (e37 _ _ (e3 _ _ f2)), _, vis_at (by simp [d1.symm, d2.symm]) upd_same (fun ps z => nomatch z), fun x hx => ?_⟩
      rcases w4_cases hx with rfl | rfl | rfl | rfl
      · exact ⟨k0, by kernel_rfl, at_ hp3 n0 (e7 _ _ (e6 _ _ (e5 _ _ g0)))⟩
      · exact ⟨k1, by kernel_rfl, at_ (hp3.ext e4) n1 (e7 _ _ (e6 _ _ g1))⟩
      · exact ⟨k2, by kernel_rfl, at_ (hp3.ext (e4.trans e5)) n2 (e7 _ _ g2)⟩
      · exact ⟨k3, by kernel_rfl, at_ (hp3.ext (e4.trans (e5.trans e6))) n3 g3⟩
    generalize (upd H7 Kd (.dK (mergeK [] [(kw "load", .ref k0), (kw "again", .ref k1), (kw "store", .ref k2), (kw "forget", .ref k3)]))) = H8 at T8 hp8 cst
    refine ⟨10, rfl, by decide, by decide, for_range (n := 10) (fun i σ H' => ∃ x4 x5 x6 x7 x8 x9 x10 x11 x12 x13 x14 x15, σ = [some (.ref a), some (.ref p), some (.ref Wd), some (.ref Kd), x4, x5, x6, x7, x8, x9, x10, x11, x12, x13, x14, x15] ∧ PenAt H' p c (i * 200) ∧ LamX.Tabs TT H' ∧ Cst (vis [p, c] H') Wd Kd) ⟨_, _, _, _, _, _, _, _, _, _, _, _, rfl, hp8, T8, cst⟩ ?_ (fun σ H' _ => k H')⟩
    rintro i σ H9 hi ⟨x4, x5, x6, x7, x8, x9, x10, x11, x12, x13, x14, x15, rfl, hp9, T9, cst9⟩
    refine ⟨_, rfl, p, c, i * 200, rfl, hp9, by omega, fun z1 H10 hz1 hp10 kp10 => ⟨_, rfl, p, c, i * 200 + 8, rfl, hp10, by omega, fun z2 H11 hz2 hp11 kp11 => ⟨_, _, rfl, ?_⟩⟩⟩
    have T11 : LamX.Tabs TT H11 := hp10.tabs (hp9.tabs T9 kp10) kp11
    have cst11 : Cst (vis [p, c] H11) Wd Kd := (cst9.ext (vis_keep kp10 (by simp) (by simp))).ext (vis_keep kp11 (by simp) (by simp))
    refine ⟨_, rfl, Wd, _, rfl, SqL.of (vis_ext _ _ cst11.wd), for_it (walk_enum (xs := W4.map V.str)) (fun j σ H' => ∃ x4 x7 x8 x9 x10 x11 x12 x13 x14 x15, σ = [some (.ref a), some (.ref p), some (.ref Wd), some (.ref Kd), x4, some (.str z1), some (.str z2), x7, x8, x9, x10, x11, x12, x13, x14, x15] ∧ PenAt H' p c (i * 200 + 16 + j * 20) ∧ LamX.Tabs TT H' ∧ Cst (vis [p, c] H') Wd Kd)
      ⟨_, _, _, _, _, _, _, _, _, _, rfl, hp11, T11, cst11⟩ (fun j σ H' _ ⟨_, _, _, _, _, _, _, _, _, _, _, _, _, q⟩ => SqL.of (vis_ext _ _ q.wd)) ?_ (fun σ H' ⟨_, _, _, _, _, _, _, _, _, _, e, q1, q2, q3⟩ => ⟨_, _, _, _, _, _, _, _, _, _, _, _, e, q1.mono (by show _ + 4 * 20 ≤ _; omega), q2, q3⟩)⟩
    rintro j x σ H12 _ hj ⟨x4, x7, x8, x9, x10, x11, x12, x13, x14, x15, rfl, hp12, T12, cst12⟩ ⟨Tq, y1, y2, rfl, nT, rfl, hy1, hy2⟩
    cases hy1
    obtain ⟨wd, hwd, rfl⟩ : ∃ wd ∈ W4, y2 = V.str wd := by
      have hy2 : (W4.map V.str)[j]? = some y2 := hy2
      rw [List.getElem?_map] at hy2
      obtain ⟨wd, q1, q2⟩ := Option.map_eq_some_iff.mp hy2
      exact ⟨wd, List.mem_of_getElem? q1, q2.symm⟩
    have hj4 : j < 4 := hj
    have eT : Ext H12 (upd H12 Tq (.tup [.int (j : Nat), .str wd])) := Ext.upd nT
    have uT : (upd H12 Tq (.tup [.int (j : Nat), .str wd])) Tq = some (.tup [.int (j : Nat), .str wd]) := upd_same
    generalize (upd H12 Tq (.tup [.int (j : Nat), .str wd])) = H13 at eT uT
    have hp13 := hp12.ext eT
    have T13 := T12.ext eT
    have cst13 := cst12.ext (vis_mono eT)
    refine ⟨Tq, _, rfl, SqT.of uT, rfl, _, _, rfl, _, _, rfl, rfl, ?_⟩
    -- the move
    have sm1 : SmD (.str z1) := fun z e => by cases e; exact Nat.le_trans (name_len hz1).2 (by decide)
    refine ⟨_, rfl, _, rfl, wd, .str z1, .str z1, rfl, hwd, .str _, sm1, fun n hn am H14 e14 hm14 => ?_, fun hn => by rw [nameOf_str hz1] at hn; cases hn⟩
    rw [nameOf_str hz1] at hn
    cases hn
    have hp14 := hp13.ext e14
    have T14 := T13.ext e14
    have cst14 := cst13.ext (vis_mono e14)
    have inS : ∀ b ∈ [p, c], H13 b ≠ none := fun b hb z => by
      obtain ⟨q1, q2⟩ := hp13.ne z
      simp [q1.symm, q2.symm] at hb
    have hg : Good (wd, z1) := ⟨hwd, hz1⟩
    obtain ⟨dxm, hm14⟩ := hm14
    have vm14 : vis [p, c] H14 am = some (.ins (clsOf CL CA CS CF wd) dxm (flds wd z1)) := vis_new inS hm14 (fun ps z => nomatch z)
    have C := TC wd hwd
    have hs : sizeLine = 16777216 := sizeLine_eq
    have l1 := (name_len (w4_name hwd)).2
    have l2 := (name_len hz1).2
    have c1 : (" " : Str).length = 1 := by decide +kernel
    -- its fields and its text
    have m14 := vis_ext _ _ vm14
    refine ⟨_, rfl, am, _, dxm, _, _, rfl, m14, C.cl, C.nW, flds_word _ _, _, rfl, am, _, dxm, _, _, rfl, m14, C.cl, C.nN, flds_name _ _, _, rfl, am, _, dxm, _, rfl, m14, C.st, am, (wd, z1), rfl, ⟨dxm, m14⟩, hg, _, rfl, (by show 3 ≤ sizeLine; decide), fun q1 n1 => ?_⟩
    refine ⟨_, rfl, _, rfl, _, rfl, _, _, rfl, rfl, by omega, _, rfl, _, _, rfl, rfl, by rw [Str.length_append]; omega, (by show 3 ≤ sizeLine; decide), fun q2 n2 => ?_⟩
    refine ⟨⟨q1, q2, _, _, rfl, rfl, by rw [upd_ne (ne_of_none upd_same n2)]; exact upd_same, upd_same, ?_⟩, fun H15 e15 => ⟨_, rfl, ?_⟩⟩
    · exact .cons ⟨rfl, rfl, by rw [eqV_str]; exact decide_eq_true rfl⟩ (.cons ⟨rfl, rfl, by rw [eqV_str]; exact decide_eq_true rfl⟩ (.cons ⟨rfl, rfl, by rw [eqV_str]; exact decide_eq_true rfl⟩ .nil))
    refine iteF ?_
    have e1415 : Ext H14 H15 := (Ext.upd n1).trans ((Ext.upd n2).trans e15)
    have m15 := e1415 _ _ m14
    obtain ⟨kvs, hkd, hkv⟩ := (cst14.ext (vis_mono e1415)).kd
    obtain ⟨qw, vw, gw⟩ := hkv wd hwd
    -- its kin
    refine ⟨_, rfl, am, (wd, z1), rfl, ⟨dxm, m15⟩, hg, fun qk H16 e16 hqk => ?_⟩
    have e1416 := e1415.trans e16
    refine ⟨_, rfl, _, rfl, Kd, _, rfl, vw ▸ DGet.k (k := kw wd) (e16 _ _ (vis_ext _ _ hkd)), ?_⟩
    refine ⟨⟨qk, qw, _, _, rfl, rfl, (nw_some hqk).2, e16 _ _ (vis_ext _ _ gw), prs_bl _⟩, fun H17 e17 => ⟨_, rfl, ?_⟩⟩
    refine iteF ?_
    have e1417 := e1416.trans e17
    have hp17 := hp14.ext e1417
    have T17 := T14.ext e1417
    have cst17 := cst14.ext (vis_mono e1417)
    have vm17 := vis_mono (S := [p, c]) e1417 _ _ vm14
    -- the others beside it
    refine ⟨fun σ' H' => ∃ x10 x11 x12 x13, σ' = [some (.ref a), some (.ref p), some (.ref Wd), some (.ref Kd), x4, some (.str z1), some (.str z2), some (.int (j : Nat)), some (.str wd), some (.ref am), x10, x11, x12, x13, x14, x15] ∧ Ext H17 H', ?_, ?_⟩
    · refine ⟨_, rfl, Wd, rfl, ⟨_, SqL.of (vis_ext _ _ cst17.wd)⟩, for_it (walk_list (xs := W4.map V.str)) (fun u σ' H' => ∃ x10 x11 x12 x13, σ' = [some (.ref a), some (.ref p), some (.ref Wd), some (.ref Kd), x4, some (.str z1), some (.str z2), some (.int (j : Nat)), some (.str wd), some (.ref am), x10, x11, x12, x13, x14, x15] ∧ Ext H17 H')
        ⟨_, _, _, _, rfl, Ext.rfl'⟩ (fun u σ' H' _ ⟨_, _, _, _, _, e⟩ => SqL.of (e _ _ (vis_ext _ _ cst17.wd))) ?_ (fun σ' H' h => h)⟩
      rintro u x σ' _ H18 hu18 ⟨x10, x11, x12, x13, rfl, e18⟩ ⟨rfl, hx⟩
      obtain ⟨wd2, hwd2, rfl⟩ : ∃ wd2 ∈ W4, x = V.str wd2 := by
        rw [List.getElem?_map] at hx
        obtain ⟨wd2, q1, q2⟩ := Option.map_eq_some_iff.mp hx
        exact ⟨wd2, List.mem_of_getElem? q1, q2.symm⟩
      refine ⟨_, rfl, _, rfl, (by show 2 ≤ sizeLine; decide), fun tp ntp => ⟨tp, rfl, ⟨_, SqT.of upd_same⟩, for_it (walk_tup (xs := [.str z1, .str z2])) (fun u2 σ' H' => ∃ x11 x12 x13, σ' = [some (.ref a), some (.ref p), some (.ref Wd), some (.ref Kd), x4, some (.str z1), some (.str z2), some (.int (j : Nat)), some (.str wd), some (.ref am), some (.str wd2), x11, x12, x13, x14, x15] ∧ Ext H17 H' ∧ H' tp = some (.tup [.str z1, .str z2]))
        ⟨_, _, _, rfl, e18.trans (Ext.upd ntp), upd_same⟩ (fun u2 σ' H' _ ⟨_, _, _, _, _, q⟩ => SqT.of q) ?_ (fun σ' H' ⟨_, _, _, e, q, _⟩ => ⟨_, _, _, _, e, q⟩)⟩⟩
      rintro u2 x σ' _ H19 hu19 ⟨x11, x12, x13, rfl, e19, htp⟩ ⟨rfl, hx⟩
      obtain ⟨z, hz, rfl⟩ : ∃ z, isName z = true ∧ x = V.str z := by
        match u2, hx with
        | 0, hx => exact ⟨z1, hz1, (Option.some.inj hx).symm⟩
        | 1, hx => exact ⟨z2, hz2, (Option.some.inj hx).symm⟩
      have hg2 : Good (wd2, z) := ⟨hwd2, hz⟩
      have C2 := TC wd2 hwd2
      -- is it due
      refine ⟨fun σ' H' => σ' = [some (.ref a), some (.ref p), some (.ref Wd), some (.ref Kd), x4, some (.str z1), some (.str z2), some (.int (j : Nat)), some (.str wd), some (.ref am), some (.str wd2), some (.str z), some (.bl (decide ((wd, z1) = (wd2, z)))), x13, x14, x15] ∧ H' = H19, ?_, ?_⟩
      · refine ⟨_, rfl, _, rfl, rfl, _, rfl, ?_⟩
        by_cases h1 : wd = wd2
        · refine iteYes (by rw [h1]; exact decide_eq_true rfl) ?_
          refine ⟨_, rfl, _, rfl, rfl, ?_⟩
          have : decide (V.str z1 = V.str z) = decide ((wd, z1) = (wd2, z)) := by
            by_cases h2 : z1 = z
            · rw [h1, h2, decide_eq_true rfl, decide_eq_true rfl]
            · have q : decide ((wd, z1) = (wd2, z)) = false := decide_eq_false fun q => h2 (congrArg Prod.snd q)
              rw [q]
              exact strNo h2
          rw [this]
          exact ⟨rfl, rfl⟩
        · refine iteNo (strNo h1) ?_
          have q : decide ((wd, z1) = (wd2, z)) = false := decide_eq_false fun q => h1 (congrArg Prod.fst q)
          rw [q]
          exact ⟨rfl, rfl⟩
      rintro σ' H' ⟨rfl, rfl⟩
      generalize hb : decide ((wd, z1) = (wd2, z)) = b
      have sm2 : SmD (.str z) := fun y e => by cases e; exact Nat.le_trans (name_len hz).2 (by decide)
      refine ⟨_, rfl, _, rfl, wd2, .str z, .str z, rfl, hwd2, .str _, sm2, fun n hn a2 H20 e20 hm20 => ?_, fun hn => by rw [nameOf_str hz] at hn; cases hn⟩
      rw [nameOf_str hz] at hn
      cases hn
      obtain ⟨dx2, hm20⟩ := hm20
      have t20 := (nw_some hm20).2
      have m20 := e20 _ _ (e19 _ _ (vis_ext _ _ vm17))
      have ty2 : ∀ {H' : Hp}, Ext H20 H' → TyX K H' (.ref a2) (.ref (clsOf CL CA CS CF wd2)) := fun e => .base (.ins (e _ _ t20) C2.cl C2.ha C2.hn C2.htk C2.hm)
      refine ⟨_, rfl, _, rfl, am, _, dxm, _, _, rfl, m20, C.eq, ty2 Ext.rfl', nF wd hwd wd2 hwd2, am, _, (wd, z1), rfl, ⟨dxm, m20⟩, hg, .inl ⟨a2, (wd2, z), rfl, ⟨dx2, t20⟩, hg2, b, by rw [hb], ?_⟩⟩
      refine ⟨_, rfl, _, rfl, am, _, dxm, _, _, rfl, m20, C.eq, hne wd hwd, C.hm, ty2 Ext.rfl', nF wd hwd wd2 hwd2, am, _, (wd, z1), rfl, ⟨dxm, m20⟩, hg, .inl ⟨a2, (wd2, z), rfl, ⟨dx2, t20⟩, hg2, b, by rw [hb], (by show 2 ≤ sizeLine; decide), fun q1 n1 => ?_⟩⟩
      refine ⟨_, rfl, _, rfl, b, rfl, (by show 2 ≤ sizeLine; decide), fun q2 n2 => ?_⟩
      refine ⟨⟨q1, q2, _, _, rfl, rfl, by rw [upd_ne (ne_of_none upd_same n2)]; exact upd_same, upd_same, prs_bl [b, !b]⟩, fun H21 e21 => ⟨_, rfl, ?_⟩⟩
      refine iteF ?_
      have e2021 : Ext H20 H21 := (Ext.upd n1).trans ((Ext.upd n2).trans e21)
      exact ⟨_, _, _, rfl, e19.trans (e20.trans e2021), e2021 _ _ (e20 _ _ htp)⟩
    · rintro σ' H18 ⟨x10, x11, x12, x13, rfl, e18⟩
      have hp18 := hp17.ext e18
      have T18 := T17.ext e18
      have cst18 := cst17.ext (vis_mono e18)
      have vm18 := vis_mono (S := [p, c]) e18 _ _ vm17
      -- an odd value for a name
      refine ⟨_, rfl, p, c, _, rfl, hp18, by omega, fun v d H19 hd hv hp19 kp19 => ?_⟩
      have T19 := hp18.tabs T18 kp19
      have ek : Ext (vis [p, c] H18) (vis [p, c] H19) := vis_keep kp19 (by simp) (by simp)
      have cst19 := cst18.ext ek
      have vm19 := ek _ _ vm18
      obtain ⟨od1, od2, od3, od4⟩ := odd_of hd
      refine ⟨T19, fun H20 x20 T20 E' Q' hE hQ => ⟨_, rfl, _, rfl, wd, v, d, rfl, hwd, tv_N (hv.ext vis_ext) x20, od4, fun n hn => (by rw [od1] at hn; cases hn), fun _ dd H21 e21 hdd => hE _ _ _ ⟨CN, dd, v, "name", rfl, rfl, (nw_some hdd).2, .inr ⟨rfl, rfl⟩, fun q H22 e22 hq => ?_⟩⟩⟩
      have x22 : LamX.ExtN H19 H22 := x20.trans (LamX.ExtN.of (e21.trans e22))
      have T22 := (T20.ext e21).ext e22
      have hp22 := hp19.extN x22
      have cst22 := cst19.ext (vis_extN x22)
      have vm22 := vis_extN (S := [p, c]) x22 _ _ vm19
      have hv22 : TV H22 v d := tv_N (hv.ext vis_ext) x22
      have hq22 := (nw_some hq).2
      have sd : Shw 300 (.tuple [.str "name", d]) := by
        have h1 : Shw 100 (.str "name") := ⟨rfl, by decide, by decide +kernel⟩
        exact (h1.tup2 od2 (by decide) (by omega)).mono (by decide)
      refine ⟨_, rfl, _, _, _, _, true, rfl, .ty "tuple", .base (.tup hq22), kit_ty (by decide +kernel), _, rfl, ?_⟩
      refine iteF ?_
      refine ⟨_, rfl, _, .tuple [.str "name", d], rfl, .tup hq22 (.cons (.str _) (.cons hv22 .nil)), sd.sh, Nat.le_trans sd.dp (by decide), Nat.le_trans sd.ln (by decide), ?_⟩
      refine ⟨_, rfl, (by show 2 ≤ sizeLine; decide), fun t1 n1 => ?_⟩
      have e23 : Ext H22 (upd H22 t1 (.tup [.str "name", v])) := Ext.upd n1
      refine ⟨_, .tuple [.str "name", d], rfl, .tup upd_same (.cons (.str _) (.cons (hv22.ext e23) .nil)), sd.sh, Nat.le_trans sd.dp (by decide), Nat.le_trans sd.ln (by decide), rfl, _, rfl, ?_⟩
      refine iteNo (by rw [decide_eq_true rfl]; rfl) ?_
      generalize (upd H22 t1 (.tup [.str "name", v])) = H23 at e23
      have hp23 := hp22.ext e23
      have T23 := T22.ext e23
      have cst23 := cst22.ext (vis_mono e23)
      have vm23 := vis_mono (S := [p, c]) e23 _ _ vm22
      have m23 := vis_ext _ _ vm23
      -- read
      have askM : Ask (.str (textM (wd, z1))) := Ask.str ((ok_text hg).mono (by decide))
      refine ⟨_, rfl, am, _, dxm, _, rfl, m23, C.st, am, (wd, z1), rfl, ⟨dxm, m23⟩, hg, _, rfl, _, .str (textM (wd, z1)), rfl, .str _, askM, T23, fun H24 x24 T24 => ⟨_, rfl, ?_⟩⟩
      refine iteF ?_
      have hp24 := hp23.extN x24
      have cst24 := cst23.ext (vis_extN x24)
      have vm24 := vis_extN (S := [p, c]) x24 _ _ vm23
      have m24 := vis_ext _ _ vm24
      refine ⟨_, rfl, _, rfl, am, _, dxm, _, rfl, m24, C.st, am, (wd, z1), rfl, ⟨dxm, m24⟩, hg, _, rfl, p, c, _, (wd, z1), rfl, hg, hp24, by omega, fun v2 d2 H25 hask hv2 hp25 kp25 => ?_⟩
      have T25 := hp24.tabs T24 kp25
      have ek2 : Ext (vis [p, c] H24) (vis [p, c] H25) := vis_keep kp25 (by simp) (by simp)
      refine ⟨v2, d2, rfl, hv2.ext vis_ext, hask, T25, fun H26 x26 T26 => ⟨_, rfl, ?_⟩⟩
      refine iteF ?_
      have hp26 := hp25.extN x26
      have e2426 : Ext (vis [p, c] H24) (vis [p, c] H26) := ek2.trans (vis_extN x26)
      have cst26 := cst24.ext e2426
      have m26 := vis_ext _ _ (e2426 _ _ vm24)
      -- no text and no tuple
      refine ⟨_, rfl, _, rfl, am, _, dxm, _, rfl, m26, C.st, am, (wd, z1), rfl, ⟨dxm, m26⟩, hg, _, rfl, am, _, dxm, _, .type "str", rfl, m26, C.eq, .base (.str _), nFt wd hwd _ (by simp), am, _, (wd, z1), rfl, ⟨dxm, m26⟩, hg, .inr ⟨.str _, .str _, by simp [tyN], false, rfl, _, rfl, ?_⟩⟩
      refine iteF ?_
      refine ⟨_, rfl, _, rfl, _, rfl, (by show 2 ≤ sizeLine; decide), fun t2 n2 => ?_⟩
      have e27 : Ext H26 (upd H26 t2 (.tup [.str wd, .str z1])) := Ext.upd n2
      refine ⟨am, _, dxm, _, .type "tuple", rfl, e27 _ _ m26, C.eq, .base (.tup upd_same), nFt wd hwd _ (by simp), am, _, (wd, z1), rfl, ⟨dxm, e27 _ _ m26⟩, hg, .inr ⟨.tuple [.str wd, .str z1], .tup upd_same (.cons (.str _) (.cons (.str _) .nil)), by simp [tyN], false, rfl, _, rfl, ?_⟩⟩
      refine iteF ?_
      exact ⟨_, _, _, _, _, _, _, _, _, _, rfl, (hp26.ext e27).mono (by omega), T26.ext e27, cst26.ext (vis_mono e27)⟩
end
end K18
end
section
set_option Elab.async false
set_option linter.all false
set_option maxRecDepth 100000
set_option maxHeartbeats 8000000
namespace K18
open PySem PySem.Spec PyProof.Rows L2 Ls
theorem all_mk {l : PySem.W.OpenLaw} {w : World} {K : PySem.W.Frag} {q : Program} {h : Heap} {mg : Str → Option Value} {fa : Addr} (X : K.In h) (G : h.Ns mainGlobals mg) (hfa : mg "law" = some (.ref fa))
    (ow : ∀ (x : Str) (fx : Addr), ((recsOf q).any fun e => e.name == x) = true → mg x = some (.ref fx) → LamX.OwnTab K fx h)
    {tL tN : Tok} {zL : Str} {CM CB CE : Addr}
    {fMI fE fS fR pR : Addr} {mc : Value} {restR : List Value}
    {odMI anMI : Option Addr} {slMI : Array (Option Value)} {ocMI kVMI dcMI pmMI ctMI : Value}
    {cdMI : Value}
    {odE anE : Option Addr} {slE : Array (Option Value)} {ocE kVE dcE pmE ctE : Value}
    {cdE : Value}
    {odS anS : Option Addr} {slS : Array (Option Value)} {ocS kVS dcS pmS ctS : Value}
    {cdS : Value}
    {odR anR : Option Addr} {slR : Array (Option Value)} {ocR kVR dcR pmR ctR : Value}
    {cdR : Value}
    {CL : Addr}
    {CA : Addr}
    {CS : Addr}
    {CF : Addr}
    {fL_ ccL cdaL : Addr} {clL cclL : Value} {cldL cddL : Option Addr} {cslL ccsL : Array (Option Value)} {vsL : Array Value} {fileL : Str} {tfL : Tok} {cdatL : ClassData}
    {odIL anIL : Option Addr} {slIL : Array (Option Value)} {ocIL kVIL dcIL pmIL ctIL : Value}
    {fA_ ccA cdaA : Addr} {clA cclA : Value} {cldA cddA : Option Addr} {cslA ccsA : Array (Option Value)} {vsA : Array Value} {fileA : Str} {tfA : Tok} {cdatA : ClassData}
    {odIA anIA : Option Addr} {slIA : Array (Option Value)} {ocIA kVIA dcIA pmIA ctIA : Value}
    {fS_ ccS cdaS : Addr} {clS cclS : Value} {cldS cddS : Option Addr} {cslS ccsS : Array (Option Value)} {vsS : Array Value} {fileS : Str} {tfS : Tok} {cdatS : ClassData}
    {odIS anIS : Option Addr} {slIS : Array (Option Value)} {ocIS kVIS dcIS pmIS ctIS : Value}
    {fF_ ccF cdaF : Addr} {clF cclF : Value} {cldF cddF : Option Addr} {cslF ccsF : Array (Option Value)} {vsF : Array Value} {fileF : Str} {tfF : Tok} {cdatF : ClassData}
    {odIF anIF : Option Addr} {slIF : Array (Option Value)} {ocIF kVIF dcIF pmIF ctIF : Value}
    {CN : Addr}
    {CD : Addr}
    {fN_ ccN cdaN : Addr} {clN cclN : Value} {cldN cddN : Option Addr} {cslN ccsN : Array (Option Value)} {vsN : Array Value} {fileN : Str} {tfN : Tok} {cdatN : ClassData}
    {xnmN xqN : Str} {xNN : Addr} {xbsN xbmN xsubN : List Value} {xsnN : List Str} {xabN : Bool} {xcolN : Option Bool} {xddN : Option Addr} {xaN xbN xcN xdN xeN : Option Value}
    {odIN anIN : Option Addr} {slIN : Array (Option Value)} {ocIN kVIN dcIN pmIN ctIN : Value}
    {fD_ ccD cdaD : Addr} {clD cclD : Value} {cldD cddD : Option Addr} {cslD ccsD : Array (Option Value)} {vsD : Array Value} {fileD : Str} {tfD : Tok} {cdatD : ClassData}
    {xnmD xqD : Str} {xND : Addr} {xbsD xbmD xsubD : List Value} {xsnD : List Str} {xabD : Bool} {xcolD : Option Bool} {xddD : Option Addr} {xaD xbD xcD xdD xeD : Option Value}
    {odID anID : Option Addr} {slID : Array (Option Value)} {ocID kVID dcID pmID ctID : Value}
    {f_is_name : Addr}
    {od_is_name an_is_name : Option Addr} {sl_is_name : Array (Option Value)} {oc_is_name kV_is_name dc_is_name pm_is_name ct_is_name : Value}
    {cd_is_name : Value}
    {f_move_of : Addr}
    {od_move_of an_move_of : Option Addr} {sl_move_of : Array (Option Value)} {oc_move_of kV_move_of dc_move_of pm_move_of ct_move_of : Value}
    {cd_move_of : Value}
    {f__law_pen : Addr}
    {od__law_pen an__law_pen : Option Addr} {sl__law_pen : Array (Option Value)} {oc__law_pen kV__law_pen dc__law_pen pm__law_pen ct__law_pen : Value}
    {cd__law_pen : Value}
    {f__law_draw : Addr}
    {od__law_draw an__law_draw : Option Addr} {sl__law_draw : Array (Option Value)} {oc__law_draw kV__law_draw dc__law_draw pm__law_draw ct__law_draw : Value}
    {cd__law_draw : Value}
    {f__law_pick : Addr}
    {od__law_pick an__law_pick : Option Addr} {sl__law_pick : Array (Option Value)} {oc__law_pick kV__law_pick dc__law_pick pm__law_pick ct__law_pick : Value}
    {cd__law_pick : Value}
    {f__law_heard : Addr}
    {od__law_heard an__law_heard : Option Addr} {sl__law_heard : Array (Option Value)} {oc__law_heard kV__law_heard dc__law_heard pm__law_heard ct__law_heard : Value}
    {cd__law_heard : Value}
    {f__law_made : Addr}
    {od__law_made an__law_made : Option Addr} {sl__law_made : Array (Option Value)} {oc__law_made kV__law_made dc__law_made pm__law_made ct__law_made : Value}
    {cd__law_made : Value}
    {f__law_name : Addr}
    {od__law_name an__law_name : Option Addr} {sl__law_name : Array (Option Value)} {oc__law_name kV__law_name dc__law_name pm__law_name ct__law_name : Value}
    {cd__law_name : Value}
    {f__law_odd : Addr}
    {od__law_odd an__law_odd : Option Addr} {sl__law_odd : Array (Option Value)} {oc__law_odd kV__law_odd dc__law_odd pm__law_odd ct__law_odd : Value}
    {cd__law_odd : Value}
    {f__law_is_name : Addr}
    {od__law_is_name an__law_is_name : Option Addr} {sl__law_is_name : Array (Option Value)} {oc__law_is_name kV__law_is_name dc__law_is_name pm__law_is_name ct__law_is_name : Value}
    {cd__law_is_name : Value}
    {f__law_bent : Addr}
    {od__law_bent an__law_bent : Option Addr} {sl__law_bent : Array (Option Value)} {oc__law_bent kV__law_bent dc__law_bent pm__law_bent ct__law_bent : Value}
    {cd__law_bent : Value}
    {f__law_read_right : Addr}
    {q1 P1 : Addr} {qd1 : Option Addr} {qv1 : Array Value} {qs1 : Array (Option Value)} {qf1 : Str} {qt1 qg1 qh1 : Tok} {qi1 qj1 : Int} {qb1 : Bool}
    {od__law_read_right an__law_read_right : Option Addr} {sl__law_read_right : Array (Option Value)} {oc__law_read_right kV__law_read_right dc__law_read_right pm__law_read_right ct__law_read_right : Value}
    {f__law_kin : Addr}
    {od__law_kin an__law_kin : Option Addr} {sl__law_kin : Array (Option Value)} {oc__law_kin kV__law_kin dc__law_kin pm__law_kin ct__law_kin : Value}
    {cd__law_kin : Value}
    {f_law : Addr}
    {q2 P2 : Addr} {qd2 : Option Addr} {qv2 : Array Value} {qs2 : Array (Option Value)} {qf2 : Str} {qt2 qg2 qh2 : Tok} {qi2 qj2 : Int} {qb2 : Bool}
    {od_law an_law : Option Addr} {sl_law : Array (Option Value)} {oc_law kV_law dc_law pm_law ct_law : Value}
    (b0 : PySem.W.nsIn K mainGlobals "len" = some none)
    (b1 : PySem.W.nsIn K mainGlobals "int" = some none)
    (b2 : PySem.W.nsIn K mainGlobals "abs" = some none)
    (b3 : PySem.W.nsIn K mainGlobals "list" = some none)
    (b4 : PySem.W.nsIn K mainGlobals "str" = some none)
    (b5 : PySem.W.nsIn K mainGlobals "isinstance" = some none)
    (b6 : PySem.W.nsIn K mainGlobals "all" = some none)
    (b7 : PySem.W.nsIn K mainGlobals "enumerate" = some none)
    (b8 : PySem.W.nsIn K mainGlobals "range" = some none)
    (b9 : PySem.W.nsIn K mainGlobals "tuple" = some none)
    (b10 : PySem.W.nsIn K mainGlobals "super" = some none)
    (b11 : PySem.W.nsIn K mainGlobals "repr" = some none)
    (b12 : PySem.W.nsIn K mainGlobals "ValueError" = some none)
    (gL : PySem.W.nsIn K mainGlobals "LETTERS" = some (some (.str zL tL)))
    (eL : zL = lettersS)
    (gN : PySem.W.nsIn K mainGlobals "LONGEST_NAME" = some (some (.int 6 tN)))
    (gCM : PySem.W.nsIn K mainGlobals "Move" = some (some (.ref CM)))
    (gCB : PySem.W.nsIn K mainGlobals "Bring" = some (some (.ref CB)))
    (gCE : PySem.W.nsIn K mainGlobals "StowError" = some (some (.ref CE)))
    (aMI : PySem.W.findIn K (.ref CM) "__init__" = some (some (.ref fMI)))
    (lMI : K.lookup fMI = some ⟨ocMI, odMI, .func (PySem.W.fnOf "__init__" "Move.__init__" (defArgs s_Move_init) (defBody s_Move_init) (defScope s_Move_init) .none kVMI dcMI pmMI anMI cdMI ctMI), slMI⟩)
    (cMI : PySem.W.codeIn K cdMI "Move.__init__" = true)
    (kMI : PySem.W.keepIn K (.ref fMI) = true)
    (tMI : PySem.W.typeIn K (.ref fMI) = some (.type "function"))
    (fiMI : PySem.W.fnIn K fMI = true)
    (aE : PySem.W.findIn K (.ref CM) "__eq__" = some (some (.ref fE)))
    (lE : K.lookup fE = some ⟨ocE, odE, .func (PySem.W.fnOf "__eq__" "Move.__eq__" (defArgs s_Move_eq) (defBody s_Move_eq) (defScope s_Move_eq) .none kVE dcE pmE anE cdE ctE), slE⟩)
    (cE : PySem.W.codeIn K cdE "Move.__eq__" = true)
    (kE : PySem.W.keepIn K (.ref fE) = true)
    (iE : PySem.W.isFn K (.ref fE) = true)
    (aS : PySem.W.findIn K (.ref CM) "__str__" = some (some (.ref fS)))
    (lS : K.lookup fS = some ⟨ocS, odS, .func (PySem.W.fnOf "__str__" "Move.__str__" (defArgs s_Move_str) (defBody s_Move_str) (defScope s_Move_str) .none kVS dcS pmS anS cdS ctS), slS⟩)
    (cS : PySem.W.codeIn K cdS "Move.__str__" = true)
    (kS : PySem.W.keepIn K (.ref fS) = true)
    (iS : PySem.W.isFn K (.ref fS) = true)
    (tyM : PySem.W.typeIn K (.ref CM) = some mc)
    (rdM : PySem.W.readsIn K CM mc = true)
    (gaM : PySem.W.specialIn K (.ref CM) "__getattribute__" = some (some (.builtin "type.__getattribute__")))
    (atR : PySem.W.findCls K (.ref CM) mc "read" = some (.get (.builtin "classmethod.__get__") (.ref pR) .none (.ref CM)))
    (rcR : PySem.W.recIn K pR "classmethod" = some (.ref fR :: restR))
    (fiR : PySem.W.fnIn K fR = true)
    (lR : K.lookup fR = some ⟨ocR, odR, .func (PySem.W.fnOf "read" "Move.read" (defArgs s_Move_read) (defBody s_Move_read) (defScope s_Move_read) .none kVR dcR pmR anR cdR ctR), slR⟩)
    (cR : PySem.W.codeIn K cdR "Move.read" = true)
    (kR : PySem.W.keepIn K (.ref fR) = true)
    (hn : PySem.W.specialIn K (.builtin "object.__class__") "__get__" = some (some (.builtin "getset_descriptor.__get__")))
    (htk : PySem.W.takesIn K (.builtin "object.__class__") = some true)
    (any_ : PySem.W.nsIn K cStatics "thirdparty.any" = some none)
    (top_ : (l.prog.main.scope.names.lookup ("super" : Str)).isSome = false)
    (kOs : PySem.W.kitOne K (.type "str") (.ref CM) = some false)
    (kOt : PySem.W.kitOne K (.type "tuple") (.ref CM) = some false)
    (eE1 : PySem.W.subIn K (.ref CE) (.type "BaseException") = some true)
    (eE2 : PySem.W.hasDictIn K CE = true)
    (eE3 : PySem.W.typeIn K (.ref CE) = some (.type "type"))
    (gL_ : PySem.W.nsIn K mainGlobals "Load" = some (some (.ref CL)))
    (gA_ : PySem.W.nsIn K mainGlobals "Again" = some (some (.ref CA)))
    (gS_ : PySem.W.nsIn K mainGlobals "Store" = some (some (.ref CS)))
    (gF_ : PySem.W.nsIn K mainGlobals "Forget" = some (some (.ref CF)))
    (pgL : PySem.W.plainGet K CL Str.empty = true)
    (hdL : PySem.W.hasDictIn K CL = true)
    (poL : PySem.W.plainOver K CL = true)
    (saL : PySem.W.findIn K (.ref CL) "__setattr__" = some (some (.builtin "object.__setattr__")))
    (nWL : PySem.W.findIn K (.ref CL) "word" = some none)
    (nNL : PySem.W.findIn K (.ref CL) "name" = some none)
    (haL : PySem.W.findIn K (.ref CL) "__class__" = some (some (.builtin "object.__class__")))
    (hmL : PySem.W.mroIn K CL (.type "object") = some true)
    (kitL0 : PySem.W.kitOne K (.ref CL) (.ref CM) = some true)
    (kitL1 : PySem.W.kitOne K (.ref CL) (.ref CB) = some true)
    (kitL2 : PySem.W.kitOne K (.ref CL) (.ref CL) = some true)
    (kitL3 : PySem.W.kitOne K (.ref CL) (.ref CA) = some false)
    (kitL4 : PySem.W.kitOne K (.ref CL) (.ref CS) = some false)
    (kitL5 : PySem.W.kitOne K (.ref CL) (.ref CF) = some false)
    (stL : PySem.W.findIn K (.ref CL) "__str__" = some (some (.ref fS)))
    (eqL : PySem.W.findIn K (.ref CL) "__eq__" = some (some (.ref fE)))
    (neL : PySem.W.findIn K (.ref CL) "__ne__" = some (some (.builtin "object.__ne__")))
    (nfLL : PySem.W.notFirst K CL (.ref CL) = true)
    (nfLA : PySem.W.notFirst K CL (.ref CA) = true)
    (nfLS : PySem.W.notFirst K CL (.ref CS) = true)
    (nfLF : PySem.W.notFirst K CL (.ref CF) = true)
    (nfsL : PySem.W.notFirst K CL (.type "str") = true)
    (nftL : PySem.W.notFirst K CL (.type "tuple") = true)
    (mkL : PySem.W.makesIn K CL = true)
    (inL : PySem.W.findIn K (.ref CL) "__init__" = some (some (.ref fL_)))
    (fnL : PySem.W.isFn K (.ref fL_) = true)
    (kpL : PySem.W.keepIn K (.ref CL) = true)
    (lIL : K.lookup fL_ = some ⟨ocIL, odIL, .func (PySem.W.ksFn "__init__" "Load.__init__" (defArgs s_Load_init) (defBody s_Load_init) (defScope s_Load_init) .none kVIL dcIL pmIL anIL (.ref cdaL) ctIL ccL), slIL⟩)
    (cIL : PySem.W.codeIn K (.ref cdaL) "Load.__init__" = true)
    (kIL : PySem.W.keepIn K (.ref fL_) = true)
    (ceL : K.lookup ccL = some ⟨clL, cldL, .cell (some (.ref CL)), cslL⟩)
    (coL : K.lookup cdaL = some ⟨cclL, cddL, .fields vsL, ccsL⟩)
    (v2L : vsL[2]? = some (.str fileL tfL))
    (flL : ((l.prog.main.file : Str) == fileL) = true)
    (cd_L : PySem.W.clsIn K CL = some cdatL)
    (sbL : PySem.W.mroIn K CL (.ref CL) = some true)
    (fd_L : PySem.W.ks_superIn K CL CL "__init__" = some (some (.ref fMI)))
    (pgA : PySem.W.plainGet K CA Str.empty = true)
    (hdA : PySem.W.hasDictIn K CA = true)
    (poA : PySem.W.plainOver K CA = true)
    (saA : PySem.W.findIn K (.ref CA) "__setattr__" = some (some (.builtin "object.__setattr__")))
    (nWA : PySem.W.findIn K (.ref CA) "word" = some none)
    (nNA : PySem.W.findIn K (.ref CA) "name" = some none)
    (haA : PySem.W.findIn K (.ref CA) "__class__" = some (some (.builtin "object.__class__")))
    (hmA : PySem.W.mroIn K CA (.type "object") = some true)
    (kitA0 : PySem.W.kitOne K (.ref CA) (.ref CM) = some true)
    (kitA1 : PySem.W.kitOne K (.ref CA) (.ref CB) = some true)
    (kitA2 : PySem.W.kitOne K (.ref CA) (.ref CL) = some false)
    (kitA3 : PySem.W.kitOne K (.ref CA) (.ref CA) = some true)
    (kitA4 : PySem.W.kitOne K (.ref CA) (.ref CS) = some false)
    (kitA5 : PySem.W.kitOne K (.ref CA) (.ref CF) = some false)
    (stA : PySem.W.findIn K (.ref CA) "__str__" = some (some (.ref fS)))
    (eqA : PySem.W.findIn K (.ref CA) "__eq__" = some (some (.ref fE)))
    (neA : PySem.W.findIn K (.ref CA) "__ne__" = some (some (.builtin "object.__ne__")))
    (nfAL : PySem.W.notFirst K CA (.ref CL) = true)
    (nfAA : PySem.W.notFirst K CA (.ref CA) = true)
    (nfAS : PySem.W.notFirst K CA (.ref CS) = true)
    (nfAF : PySem.W.notFirst K CA (.ref CF) = true)
    (nfsA : PySem.W.notFirst K CA (.type "str") = true)
    (nftA : PySem.W.notFirst K CA (.type "tuple") = true)
    (mkA : PySem.W.makesIn K CA = true)
    (inA : PySem.W.findIn K (.ref CA) "__init__" = some (some (.ref fA_)))
    (fnA : PySem.W.isFn K (.ref fA_) = true)
    (kpA : PySem.W.keepIn K (.ref CA) = true)
    (lIA : K.lookup fA_ = some ⟨ocIA, odIA, .func (PySem.W.ksFn "__init__" "Again.__init__" (defArgs s_Again_init) (defBody s_Again_init) (defScope s_Again_init) .none kVIA dcIA pmIA anIA (.ref cdaA) ctIA ccA), slIA⟩)
    (cIA : PySem.W.codeIn K (.ref cdaA) "Again.__init__" = true)
    (kIA : PySem.W.keepIn K (.ref fA_) = true)
    (ceA : K.lookup ccA = some ⟨clA, cldA, .cell (some (.ref CA)), cslA⟩)
    (coA : K.lookup cdaA = some ⟨cclA, cddA, .fields vsA, ccsA⟩)
    (v2A : vsA[2]? = some (.str fileA tfA))
    (flA : ((l.prog.main.file : Str) == fileA) = true)
    (cd_A : PySem.W.clsIn K CA = some cdatA)
    (sbA : PySem.W.mroIn K CA (.ref CA) = some true)
    (fd_A : PySem.W.ks_superIn K CA CA "__init__" = some (some (.ref fMI)))
    (pgS : PySem.W.plainGet K CS Str.empty = true)
    (hdS : PySem.W.hasDictIn K CS = true)
    (poS : PySem.W.plainOver K CS = true)
    (saS : PySem.W.findIn K (.ref CS) "__setattr__" = some (some (.builtin "object.__setattr__")))
    (nWS : PySem.W.findIn K (.ref CS) "word" = some none)
    (nNS : PySem.W.findIn K (.ref CS) "name" = some none)
    (haS : PySem.W.findIn K (.ref CS) "__class__" = some (some (.builtin "object.__class__")))
    (hmS : PySem.W.mroIn K CS (.type "object") = some true)
    (kitS0 : PySem.W.kitOne K (.ref CS) (.ref CM) = some true)
    (kitS1 : PySem.W.kitOne K (.ref CS) (.ref CB) = some false)
    (kitS2 : PySem.W.kitOne K (.ref CS) (.ref CL) = some false)
    (kitS3 : PySem.W.kitOne K (.ref CS) (.ref CA) = some false)
    (kitS4 : PySem.W.kitOne K (.ref CS) (.ref CS) = some true)
    (kitS5 : PySem.W.kitOne K (.ref CS) (.ref CF) = some false)
    (stS : PySem.W.findIn K (.ref CS) "__str__" = some (some (.ref fS)))
    (eqS : PySem.W.findIn K (.ref CS) "__eq__" = some (some (.ref fE)))
    (neS : PySem.W.findIn K (.ref CS) "__ne__" = some (some (.builtin "object.__ne__")))
    (nfSL : PySem.W.notFirst K CS (.ref CL) = true)
    (nfSA : PySem.W.notFirst K CS (.ref CA) = true)
    (nfSS : PySem.W.notFirst K CS (.ref CS) = true)
    (nfSF : PySem.W.notFirst K CS (.ref CF) = true)
    (nfsS : PySem.W.notFirst K CS (.type "str") = true)
    (nftS : PySem.W.notFirst K CS (.type "tuple") = true)
    (mkS : PySem.W.makesIn K CS = true)
    (inS : PySem.W.findIn K (.ref CS) "__init__" = some (some (.ref fS_)))
    (fnS : PySem.W.isFn K (.ref fS_) = true)
    (kpS : PySem.W.keepIn K (.ref CS) = true)
    (lIS : K.lookup fS_ = some ⟨ocIS, odIS, .func (PySem.W.ksFn "__init__" "Store.__init__" (defArgs s_Store_init) (defBody s_Store_init) (defScope s_Store_init) .none kVIS dcIS pmIS anIS (.ref cdaS) ctIS ccS), slIS⟩)
    (cIS : PySem.W.codeIn K (.ref cdaS) "Store.__init__" = true)
    (kIS : PySem.W.keepIn K (.ref fS_) = true)
    (ceS : K.lookup ccS = some ⟨clS, cldS, .cell (some (.ref CS)), cslS⟩)
    (coS : K.lookup cdaS = some ⟨cclS, cddS, .fields vsS, ccsS⟩)
    (v2S : vsS[2]? = some (.str fileS tfS))
    (flS : ((l.prog.main.file : Str) == fileS) = true)
    (cd_S : PySem.W.clsIn K CS = some cdatS)
    (sbS : PySem.W.mroIn K CS (.ref CS) = some true)
    (fd_S : PySem.W.ks_superIn K CS CS "__init__" = some (some (.ref fMI)))
    (pgF : PySem.W.plainGet K CF Str.empty = true)
    (hdF : PySem.W.hasDictIn K CF = true)
    (poF : PySem.W.plainOver K CF = true)
    (saF : PySem.W.findIn K (.ref CF) "__setattr__" = some (some (.builtin "object.__setattr__")))
    (nWF : PySem.W.findIn K (.ref CF) "word" = some none)
    (nNF : PySem.W.findIn K (.ref CF) "name" = some none)
    (haF : PySem.W.findIn K (.ref CF) "__class__" = some (some (.builtin "object.__class__")))
    (hmF : PySem.W.mroIn K CF (.type "object") = some true)
    (kitF0 : PySem.W.kitOne K (.ref CF) (.ref CM) = some true)
    (kitF1 : PySem.W.kitOne K (.ref CF) (.ref CB) = some false)
    (kitF2 : PySem.W.kitOne K (.ref CF) (.ref CL) = some false)
    (kitF3 : PySem.W.kitOne K (.ref CF) (.ref CA) = some false)
    (kitF4 : PySem.W.kitOne K (.ref CF) (.ref CS) = some false)
    (kitF5 : PySem.W.kitOne K (.ref CF) (.ref CF) = some true)
    (stF : PySem.W.findIn K (.ref CF) "__str__" = some (some (.ref fS)))
    (eqF : PySem.W.findIn K (.ref CF) "__eq__" = some (some (.ref fE)))
    (neF : PySem.W.findIn K (.ref CF) "__ne__" = some (some (.builtin "object.__ne__")))
    (nfFL : PySem.W.notFirst K CF (.ref CL) = true)
    (nfFA : PySem.W.notFirst K CF (.ref CA) = true)
    (nfFS : PySem.W.notFirst K CF (.ref CS) = true)
    (nfFF : PySem.W.notFirst K CF (.ref CF) = true)
    (nfsF : PySem.W.notFirst K CF (.type "str") = true)
    (nftF : PySem.W.notFirst K CF (.type "tuple") = true)
    (mkF : PySem.W.makesIn K CF = true)
    (inF : PySem.W.findIn K (.ref CF) "__init__" = some (some (.ref fF_)))
    (fnF : PySem.W.isFn K (.ref fF_) = true)
    (kpF : PySem.W.keepIn K (.ref CF) = true)
    (lIF : K.lookup fF_ = some ⟨ocIF, odIF, .func (PySem.W.ksFn "__init__" "Forget.__init__" (defArgs s_Forget_init) (defBody s_Forget_init) (defScope s_Forget_init) .none kVIF dcIF pmIF anIF (.ref cdaF) ctIF ccF), slIF⟩)
    (cIF : PySem.W.codeIn K (.ref cdaF) "Forget.__init__" = true)
    (kIF : PySem.W.keepIn K (.ref fF_) = true)
    (ceF : K.lookup ccF = some ⟨clF, cldF, .cell (some (.ref CF)), cslF⟩)
    (coF : K.lookup cdaF = some ⟨cclF, cddF, .fields vsF, ccsF⟩)
    (v2F : vsF[2]? = some (.str fileF tfF))
    (flF : ((l.prog.main.file : Str) == fileF) = true)
    (cd_F : PySem.W.clsIn K CF = some cdatF)
    (sbF : PySem.W.mroIn K CF (.ref CF) = some true)
    (fd_F : PySem.W.ks_superIn K CF CF "__init__" = some (some (.ref fMI)))
    (gN_ : PySem.W.nsIn K mainGlobals "BadName" = some (some (.ref CN)))
    (gD_ : PySem.W.nsIn K mainGlobals "BadMove" = some (some (.ref CD)))
    (xoN : K.lookup CN = some (excClassObj xnmN xqN CN xNN xbsN xbmN true xsnN xsubN xabN xcolN xddN xaN xbN xcN xdN xeN "ValueError.__new__"))
    (xrN : PySem.HandSPX.refsVE xbmN = true)
    (saN : PySem.W.findIn K (.ref CN) "__setattr__" = some (some (.builtin "object.__setattr__")))
    (beN : PySem.W.subIn K (.ref CN) (.type "BaseException") = some true)
    (tyN : PySem.W.typeIn K (.ref CN) = some (.type "type"))
    (kpN : PySem.W.keepIn K (.ref CN) = true)
    (inN : PySem.W.findIn K (.ref CN) "__init__" = some (some (.ref fN_)))
    (tf_N : PySem.W.typeIn K (.ref fN_) = some (.type "function"))
    (lIN : K.lookup fN_ = some ⟨ocIN, odIN, .func (PySem.W.ksFn "__init__" "BadName.__init__" (defArgs s_BadName_init) (defBody s_BadName_init) (defScope s_BadName_init) .none kVIN dcIN pmIN anIN (.ref cdaN) ctIN ccN), slIN⟩)
    (cIN : PySem.W.codeIn K (.ref cdaN) "BadName.__init__" = true)
    (kIN : PySem.W.keepIn K (.ref fN_) = true)
    (ceN : K.lookup ccN = some ⟨clN, cldN, .cell (some (.ref CN)), cslN⟩)
    (coN : K.lookup cdaN = some ⟨cclN, cddN, .fields vsN, ccsN⟩)
    (v2N : vsN[2]? = some (.str fileN tfN))
    (flN : ((l.prog.main.file : Str) == fileN) = true)
    (cd_N : PySem.W.clsIn K CN = some cdatN)
    (sbN : PySem.W.mroIn K CN (.ref CN) = some true)
    (svN : PySem.W.mroIn K CN (.type "ValueError") = some true)
    (fd_N : PySem.W.ks_superIn K CN CN "__init__" = some (some (.builtin "ValueError.__init__")))
    (noN : PySem.W.findIn K (.ref CN) "value" = some none)
    (suN : PySem.W.subIn K (.ref CN) (.ref CE) = some true)
    (xgN : PySem.W.findIn K (.ref CN) "__getattribute__" = some (some (.builtin "BaseException.__getattribute__")))
    (xkN : PySem.W.findIn K (.ref CN) "__getattr__" = some none)
    (hdN : PySem.W.hasDictIn K CN = true)
    (haN : PySem.W.findIn K (.ref CN) "__class__" = some (some (.builtin "object.__class__")))
    (hmN : PySem.W.mroIn K CN (.type "object") = some true)
    (kvN : PySem.W.kitOne K (.ref CN) (.type "ValueError") = some true)
    (koN : PySem.W.kitOne K (.ref CN) (.ref CN) = some true)
    (xoD : K.lookup CD = some (excClassObj xnmD xqD CD xND xbsD xbmD true xsnD xsubD xabD xcolD xddD xaD xbD xcD xdD xeD "ValueError.__new__"))
    (xrD : PySem.HandSPX.refsVE xbmD = true)
    (saD : PySem.W.findIn K (.ref CD) "__setattr__" = some (some (.builtin "object.__setattr__")))
    (beD : PySem.W.subIn K (.ref CD) (.type "BaseException") = some true)
    (tyD : PySem.W.typeIn K (.ref CD) = some (.type "type"))
    (kpD : PySem.W.keepIn K (.ref CD) = true)
    (inD : PySem.W.findIn K (.ref CD) "__init__" = some (some (.ref fD_)))
    (tf_D : PySem.W.typeIn K (.ref fD_) = some (.type "function"))
    (lID : K.lookup fD_ = some ⟨ocID, odID, .func (PySem.W.ksFn "__init__" "BadMove.__init__" (defArgs s_BadMove_init) (defBody s_BadMove_init) (defScope s_BadMove_init) .none kVID dcID pmID anID (.ref cdaD) ctID ccD), slID⟩)
    (cID : PySem.W.codeIn K (.ref cdaD) "BadMove.__init__" = true)
    (kID : PySem.W.keepIn K (.ref fD_) = true)
    (ceD : K.lookup ccD = some ⟨clD, cldD, .cell (some (.ref CD)), cslD⟩)
    (coD : K.lookup cdaD = some ⟨cclD, cddD, .fields vsD, ccsD⟩)
    (v2D : vsD[2]? = some (.str fileD tfD))
    (flD : ((l.prog.main.file : Str) == fileD) = true)
    (cd_D : PySem.W.clsIn K CD = some cdatD)
    (sbD : PySem.W.mroIn K CD (.ref CD) = some true)
    (svD : PySem.W.mroIn K CD (.type "ValueError") = some true)
    (fd_D : PySem.W.ks_superIn K CD CD "__init__" = some (some (.builtin "ValueError.__init__")))
    (noD : PySem.W.findIn K (.ref CD) "value" = some none)
    (suD : PySem.W.subIn K (.ref CD) (.ref CE) = some true)
    (xgD : PySem.W.findIn K (.ref CD) "__getattribute__" = some (some (.builtin "BaseException.__getattribute__")))
    (xkD : PySem.W.findIn K (.ref CD) "__getattr__" = some none)
    (hdD : PySem.W.hasDictIn K CD = true)
    (haD : PySem.W.findIn K (.ref CD) "__class__" = some (some (.builtin "object.__class__")))
    (hmD : PySem.W.mroIn K CD (.type "object") = some true)
    (kvD : PySem.W.kitOne K (.ref CD) (.type "ValueError") = some true)
    (koD : PySem.W.kitOne K (.ref CD) (.ref CD) = some true)
    (nND : PySem.W.kitOne K (.ref CN) (.ref CD) = some false)
    (nDN : PySem.W.kitOne K (.ref CD) (.ref CN) = some false)
    (a_is_name : PySem.W.nsIn K mainGlobals "is_name" = some (some (.ref f_is_name)))
    (l_is_name : K.lookup f_is_name = some ⟨oc_is_name, od_is_name, .func (PySem.W.fnOf "is_name" "is_name" (defArgs s_is_name) (defBody s_is_name) (defScope s_is_name) .none kV_is_name dc_is_name pm_is_name an_is_name cd_is_name ct_is_name), sl_is_name⟩)
    (c_is_name : PySem.W.codeIn K cd_is_name "is_name" = true)
    (k_is_name : PySem.W.keepIn K (.ref f_is_name) = true)
    (a_move_of : PySem.W.nsIn K mainGlobals "move_of" = some (some (.ref f_move_of)))
    (l_move_of : K.lookup f_move_of = some ⟨oc_move_of, od_move_of, .func (PySem.W.fnOf "move_of" "move_of" (defArgs s_move_of) (defBody s_move_of) (defScope s_move_of) .none kV_move_of dc_move_of pm_move_of an_move_of cd_move_of ct_move_of), sl_move_of⟩)
    (c_move_of : PySem.W.codeIn K cd_move_of "move_of" = true)
    (k_move_of : PySem.W.keepIn K (.ref f_move_of) = true)
    (a__law_pen : PySem.W.nsIn K mainGlobals "_law_pen" = some (some (.ref f__law_pen)))
    (l__law_pen : K.lookup f__law_pen = some ⟨oc__law_pen, od__law_pen, .func (PySem.W.fnOf "_law_pen" "_law_pen" (defArgs s__law_pen) (defBody s__law_pen) (defScope s__law_pen) .none kV__law_pen dc__law_pen pm__law_pen an__law_pen cd__law_pen ct__law_pen), sl__law_pen⟩)
    (c__law_pen : PySem.W.codeIn K cd__law_pen "_law_pen" = true)
    (k__law_pen : PySem.W.keepIn K (.ref f__law_pen) = true)
    (a__law_draw : PySem.W.nsIn K mainGlobals "_law_draw" = some (some (.ref f__law_draw)))
    (l__law_draw : K.lookup f__law_draw = some ⟨oc__law_draw, od__law_draw, .func (PySem.W.fnOf "_law_draw" "_law_draw" (defArgs s__law_draw) (defBody s__law_draw) (defScope s__law_draw) .none kV__law_draw dc__law_draw pm__law_draw an__law_draw cd__law_draw ct__law_draw), sl__law_draw⟩)
    (c__law_draw : PySem.W.codeIn K cd__law_draw "_law_draw" = true)
    (k__law_draw : PySem.W.keepIn K (.ref f__law_draw) = true)
    (a__law_pick : PySem.W.nsIn K mainGlobals "_law_pick" = some (some (.ref f__law_pick)))
    (l__law_pick : K.lookup f__law_pick = some ⟨oc__law_pick, od__law_pick, .func (PySem.W.fnOf "_law_pick" "_law_pick" (defArgs s__law_pick) (defBody s__law_pick) (defScope s__law_pick) .none kV__law_pick dc__law_pick pm__law_pick an__law_pick cd__law_pick ct__law_pick), sl__law_pick⟩)
    (c__law_pick : PySem.W.codeIn K cd__law_pick "_law_pick" = true)
    (k__law_pick : PySem.W.keepIn K (.ref f__law_pick) = true)
    (a__law_heard : PySem.W.nsIn K mainGlobals "_law_heard" = some (some (.ref f__law_heard)))
    (l__law_heard : K.lookup f__law_heard = some ⟨oc__law_heard, od__law_heard, .func (PySem.W.fnOf "_law_heard" "_law_heard" (defArgs s__law_heard) (defBody s__law_heard) (defScope s__law_heard) .none kV__law_heard dc__law_heard pm__law_heard an__law_heard cd__law_heard ct__law_heard), sl__law_heard⟩)
    (c__law_heard : PySem.W.codeIn K cd__law_heard "_law_heard" = true)
    (k__law_heard : PySem.W.keepIn K (.ref f__law_heard) = true)
    (a__law_made : PySem.W.nsIn K mainGlobals "_law_made" = some (some (.ref f__law_made)))
    (l__law_made : K.lookup f__law_made = some ⟨oc__law_made, od__law_made, .func (PySem.W.fnOf "_law_made" "_law_made" (defArgs s__law_made) (defBody s__law_made) (defScope s__law_made) .none kV__law_made dc__law_made pm__law_made an__law_made cd__law_made ct__law_made), sl__law_made⟩)
    (c__law_made : PySem.W.codeIn K cd__law_made "_law_made" = true)
    (k__law_made : PySem.W.keepIn K (.ref f__law_made) = true)
    (a__law_name : PySem.W.nsIn K mainGlobals "_law_name" = some (some (.ref f__law_name)))
    (l__law_name : K.lookup f__law_name = some ⟨oc__law_name, od__law_name, .func (PySem.W.fnOf "_law_name" "_law_name" (defArgs s__law_name) (defBody s__law_name) (defScope s__law_name) .none kV__law_name dc__law_name pm__law_name an__law_name cd__law_name ct__law_name), sl__law_name⟩)
    (c__law_name : PySem.W.codeIn K cd__law_name "_law_name" = true)
    (k__law_name : PySem.W.keepIn K (.ref f__law_name) = true)
    (a__law_odd : PySem.W.nsIn K mainGlobals "_law_odd" = some (some (.ref f__law_odd)))
    (l__law_odd : K.lookup f__law_odd = some ⟨oc__law_odd, od__law_odd, .func (PySem.W.fnOf "_law_odd" "_law_odd" (defArgs s__law_odd) (defBody s__law_odd) (defScope s__law_odd) .none kV__law_odd dc__law_odd pm__law_odd an__law_odd cd__law_odd ct__law_odd), sl__law_odd⟩)
    (c__law_odd : PySem.W.codeIn K cd__law_odd "_law_odd" = true)
    (k__law_odd : PySem.W.keepIn K (.ref f__law_odd) = true)
    (a__law_is_name : PySem.W.nsIn K mainGlobals "_law_is_name" = some (some (.ref f__law_is_name)))
    (l__law_is_name : K.lookup f__law_is_name = some ⟨oc__law_is_name, od__law_is_name, .func (PySem.W.fnOf "_law_is_name" "_law_is_name" (defArgs s__law_is_name) (defBody s__law_is_name) (defScope s__law_is_name) .none kV__law_is_name dc__law_is_name pm__law_is_name an__law_is_name cd__law_is_name ct__law_is_name), sl__law_is_name⟩)
    (c__law_is_name : PySem.W.codeIn K cd__law_is_name "_law_is_name" = true)
    (k__law_is_name : PySem.W.keepIn K (.ref f__law_is_name) = true)
    (a__law_bent : PySem.W.nsIn K mainGlobals "_law_bent" = some (some (.ref f__law_bent)))
    (l__law_bent : K.lookup f__law_bent = some ⟨oc__law_bent, od__law_bent, .func (PySem.W.fnOf "_law_bent" "_law_bent" (defArgs s__law_bent) (defBody s__law_bent) (defScope s__law_bent) .none kV__law_bent dc__law_bent pm__law_bent an__law_bent cd__law_bent ct__law_bent), sl__law_bent⟩)
    (c__law_bent : PySem.W.codeIn K cd__law_bent "_law_bent" = true)
    (k__law_bent : PySem.W.keepIn K (.ref f__law_bent) = true)
    (a__law_read_right : PySem.W.nsIn K mainGlobals "_law_read_right" = some (some (.ref f__law_read_right)))
    (l__law_read_right : K.lookup f__law_read_right = some ⟨oc__law_read_right, od__law_read_right, .func (PySem.W.fnOf "_law_read_right" "_law_read_right" (defArgs s__law_read_right) (defBody s__law_read_right) (defScope s__law_read_right) .none kV__law_read_right dc__law_read_right pm__law_read_right an__law_read_right (.ref q1) ct__law_read_right), sl__law_read_right⟩)
    (c__law_read_right : PySem.W.codeIn K (.ref q1) "_law_read_right" = true)
    (k__law_read_right : PySem.W.keepIn K (.ref f__law_read_right) = true)
    (qo1 : K.lookup q1 = some ⟨.type "code", qd1, .fields qv1, qs1⟩)
    (qp1 : qv1[11]? = some (.ref P1))
    (qr1 : qv1.getD 11 .none = .ref P1)
    (qs_1 : qv1.getD 18 .none = .str qf1 qt1)
    (qu1 : qv1.getD 7 .none = .int qi1 qg1)
    (qv_1 : qv1.getD 9 .none = .bool qb1)
    (qw1 : qv1.getD 10 .none = .int qj1 qh1)
    (qx1 : q1 ≠ P1)
    (qn1 : K.lookup P1 = none)
    (a__law_kin : PySem.W.nsIn K mainGlobals "_law_kin" = some (some (.ref f__law_kin)))
    (l__law_kin : K.lookup f__law_kin = some ⟨oc__law_kin, od__law_kin, .func (PySem.W.fnOf "_law_kin" "_law_kin" (defArgs s__law_kin) (defBody s__law_kin) (defScope s__law_kin) .none kV__law_kin dc__law_kin pm__law_kin an__law_kin cd__law_kin ct__law_kin), sl__law_kin⟩)
    (c__law_kin : PySem.W.codeIn K cd__law_kin "_law_kin" = true)
    (k__law_kin : PySem.W.keepIn K (.ref f__law_kin) = true)
    (a_law : PySem.W.nsIn K mainGlobals "law" = some (some (.ref f_law)))
    (l_law : K.lookup f_law = some ⟨oc_law, od_law, .func (PySem.W.fnOf "law" "law" (defArgs s_law) (defBody s_law) (defScope s_law) .none kV_law dc_law pm_law an_law (.ref q2) ct_law), sl_law⟩)
    (c_law : PySem.W.codeIn K (.ref q2) "law" = true)
    (k_law : PySem.W.keepIn K (.ref f_law) = true)
    (qo2 : K.lookup q2 = some ⟨.type "code", qd2, .fields qv2, qs2⟩)
    (qp2 : qv2[11]? = some (.ref P2))
    (qr2 : qv2.getD 11 .none = .ref P2)
    (qs_2 : qv2.getD 18 .none = .str qf2 qt2)
    (qu2 : qv2.getD 7 .none = .int qi2 qg2)
    (qv_2 : qv2.getD 9 .none = .bool qb2)
    (qw2 : qv2.getD 10 .none = .int qj2 qh2)
    (qx2 : q2 ≠ P2)
    (qn2 : K.lookup P2 = none)
    (qne : P1 ≠ P2)
    (rc1 : ((recsOf q).any fun e => e.name == "_law_read_right") = true)
    (rc2 : ((recsOf q).any fun e => e.name == "law") = true) :
    LawG l w K CX0 12 63 "_law_script" mg fa h := by
  have e := hfa.symm.trans (PySem.W.mg_of X G a_law)
  cases e
  subst eL
  have T : Tx K mg CM CB CL CA CS CF CE CN CD tL tN := ⟨by
    intro x hx
    simp only [bns, List.mem_cons, List.not_mem_nil, or_false] at hx
    rcases hx with rfl | rfl | rfl | rfl | rfl | rfl | rfl | rfl | rfl | rfl | rfl | rfl | rfl
    · exact PySem.W.mg_none_of X G b0
    · exact PySem.W.mg_none_of X G b1
    · exact PySem.W.mg_none_of X G b2
    · exact PySem.W.mg_none_of X G b3
    · exact PySem.W.mg_none_of X G b4
    · exact PySem.W.mg_none_of X G b5
    · exact PySem.W.mg_none_of X G b6
    · exact PySem.W.mg_none_of X G b7
    · exact PySem.W.mg_none_of X G b8
    · exact PySem.W.mg_none_of X G b9
    · exact PySem.W.mg_none_of X G b10
    · exact PySem.W.mg_none_of X G b11
    · exact PySem.W.mg_none_of X G b12, PySem.W.mg_of X G gL, PySem.W.mg_of X G gN, PySem.W.mg_of X G gCM, PySem.W.mg_of X G gCB, PySem.W.mg_of X G gL_, PySem.W.mg_of X G gA_, PySem.W.mg_of X G gS_, PySem.W.mg_of X G gF_, PySem.W.mg_of X G gCE, PySem.W.mg_of X G gN_, PySem.W.mg_of X G gD_⟩
  have FMI := fun_mk (st := s_Move_init) lMI cMI kMI
  have FE := fun_mk (st := s_Move_eq) lE cE kE
  have FS_ := fun_mk (st := s_Move_str) lS cS kS
  have FR := fun_mk (st := s_Move_read) lR cR kR
  have F_is_name := fun_mk (st := s_is_name) l_is_name c_is_name k_is_name
  have F_move_of := fun_mk (st := s_move_of) l_move_of c_move_of k_move_of
  have F__law_pen := fun_mk (st := s__law_pen) l__law_pen c__law_pen k__law_pen
  have F__law_draw := fun_mk (st := s__law_draw) l__law_draw c__law_draw k__law_draw
  have F__law_pick := fun_mk (st := s__law_pick) l__law_pick c__law_pick k__law_pick
  have F__law_heard := fun_mk (st := s__law_heard) l__law_heard c__law_heard k__law_heard
  have F__law_made := fun_mk (st := s__law_made) l__law_made c__law_made k__law_made
  have F__law_name := fun_mk (st := s__law_name) l__law_name c__law_name k__law_name
  have F__law_odd := fun_mk (st := s__law_odd) l__law_odd c__law_odd k__law_odd
  have F__law_is_name := fun_mk (st := s__law_is_name) l__law_is_name c__law_is_name k__law_is_name
  have F__law_bent := fun_mk (st := s__law_bent) l__law_bent c__law_bent k__law_bent
  have F__law_read_right := fun_mk (st := s__law_read_right) l__law_read_right c__law_read_right k__law_read_right
  have F__law_kin := fun_mk (st := s__law_kin) l__law_kin c__law_kin k__law_kin
  have F_law := fun_mk (st := s_law) l_law c_law k_law
  have BMI := FMI.binds (ps := ["self", "word", "name"]) fun _ _ _ _ _ _ us hl => match us, hl with | [_, _, _], _ => rfl
  have BE := FE.binds (ps := ["self", "other"]) fun _ _ _ _ _ _ us hl => match us, hl with | [_, _], _ => rfl
  have BS := FS_.binds (ps := ["self"]) fun _ _ _ _ _ _ us hl => match us, hl with | [_], _ => rfl
  have BR := FR.binds (ps := ["cls", "text"]) fun _ _ _ _ _ _ us hl => match us, hl with | [_, _], _ => rfl
  have B_is_name := F_is_name.binds (ps := ["value"]) fun _ _ _ _ _ _ us hl => match us, hl with | [_], _ => rfl
  have B_move_of := F_move_of.binds (ps := ["word", "name"]) fun _ _ _ _ _ _ us hl => match us, hl with | [_, _], _ => rfl
  have B__law_pen := F__law_pen.binds (ps := ["_law_script"]) fun _ _ _ _ _ _ us hl => match us, hl with | [_], _ => rfl
  have B__law_draw := F__law_draw.binds (ps := ["_law_pen_here", "_law_many"]) fun _ _ _ _ _ _ us hl => match us, hl with | [_, _], _ => rfl
  have B__law_pick := F__law_pick.binds (ps := ["_law_pen_here", "_law_some"]) fun _ _ _ _ _ _ us hl => match us, hl with | [_, _], _ => rfl
  have B__law_heard := F__law_heard.binds (ps := ["_law_ask"]) fun _ _ _ _ _ _ us hl => match us, hl with | [_], _ => rfl
  have B__law_made := F__law_made.binds (ps := ["_law_word", "_law_name_here"]) fun _ _ _ _ _ _ us hl => match us, hl with | [_, _], _ => rfl
  have B__law_name := F__law_name.binds (ps := ["_law_pen_here"]) fun _ _ _ _ _ _ us hl => match us, hl with | [_], _ => rfl
  have B__law_odd := F__law_odd.binds (ps := ["_law_pen_here"]) fun _ _ _ _ _ _ us hl => match us, hl with | [_], _ => rfl
  have B__law_is_name := F__law_is_name.binds (ps := ["_law_line"]) fun _ _ _ _ _ _ us hl => match us, hl with | [_], _ => rfl
  have B__law_bent := F__law_bent.binds (ps := ["_law_pen_here", "_law_line"]) fun _ _ _ _ _ _ us hl => match us, hl with | [_, _], _ => rfl
  have B__law_read_right := F__law_read_right.binds (ps := ["_law_thing"]) fun _ _ _ _ _ _ us hl => match us, hl with | [_], _ => rfl
  have B__law_kin := F__law_kin.binds (ps := ["_law_move"]) fun _ _ _ _ _ _ us hl => match us, hl with | [_], _ => rfl
  have FSL : FunS K "__init__" "Load.__init__" s_Load_init fL_ _ cdaL ccL := ⟨⟨_, _, _, _, _, _, _, _, rfl, lIL, cIL⟩, kIL⟩
  have FSA : FunS K "__init__" "Again.__init__" s_Again_init fA_ _ cdaA ccA := ⟨⟨_, _, _, _, _, _, _, _, rfl, lIA, cIA⟩, kIA⟩
  have FSS : FunS K "__init__" "Store.__init__" s_Store_init fS_ _ cdaS ccS := ⟨⟨_, _, _, _, _, _, _, _, rfl, lIS, cIS⟩, kIS⟩
  have FSF : FunS K "__init__" "Forget.__init__" s_Forget_init fF_ _ cdaF ccF := ⟨⟨_, _, _, _, _, _, _, _, rfl, lIF, cIF⟩, kIF⟩
  have FSN : FunS K "__init__" "BadName.__init__" s_BadName_init fN_ _ cdaN ccN := ⟨⟨_, _, _, _, _, _, _, _, rfl, lIN, cIN⟩, kIN⟩
  have FSD : FunS K "__init__" "BadMove.__init__" s_BadMove_init fD_ _ cdaD ccD := ⟨⟨_, _, _, _, _, _, _, _, rfl, lID, cID⟩, kID⟩
  have CL_L : Cls K CL := ⟨pgL, hdL, poL, saL⟩
  have SPL : SupT l.prog K mg CL CL ccL cdaL "__init__" fMI := ⟨⟨_, _, _, ceL⟩, ⟨_, _, _, _, _, _, coL, v2L, flL⟩, ⟨_, cd_L⟩, sbL, T.bn _ (by decide +kernel), top_, any_, fd_L, tMI, fiMI⟩
  have TCL : ClT K CM CB CL CA CS CF CL fS fE (kinOf "load") := ⟨CL_L, nWL, nNL, haL, hn, htk, hmL, by
    have e : kinOf "load" = [true, true, true, false, false, false] := by decide +kernel
    rw [e]
    intro q hq
    simp only [List.zip_cons_cons, List.zip_nil_right, List.mem_cons, List.not_mem_nil, or_false] at hq
    rcases hq with rfl | rfl | rfl | rfl | rfl | rfl
    · exact kitL0
    · exact kitL1
    · exact kitL2
    · exact kitL3
    · exact kitL4
    · exact kitL5, stL, eqL⟩
  have CL_A : Cls K CA := ⟨pgA, hdA, poA, saA⟩
  have SPA : SupT l.prog K mg CA CA ccA cdaA "__init__" fMI := ⟨⟨_, _, _, ceA⟩, ⟨_, _, _, _, _, _, coA, v2A, flA⟩, ⟨_, cd_A⟩, sbA, T.bn _ (by decide +kernel), top_, any_, fd_A, tMI, fiMI⟩
  have TCA : ClT K CM CB CL CA CS CF CA fS fE (kinOf "again") := ⟨CL_A, nWA, nNA, haA, hn, htk, hmA, by
    have e : kinOf "again" = [true, true, false, true, false, false] := by decide +kernel
    rw [e]
    intro q hq
    simp only [List.zip_cons_cons, List.zip_nil_right, List.mem_cons, List.not_mem_nil, or_false] at hq
    rcases hq with rfl | rfl | rfl | rfl | rfl | rfl
    · exact kitA0
    · exact kitA1
    · exact kitA2
    · exact kitA3
    · exact kitA4
    · exact kitA5, stA, eqA⟩
  have CL_S : Cls K CS := ⟨pgS, hdS, poS, saS⟩
  have SPS : SupT l.prog K mg CS CS ccS cdaS "__init__" fMI := ⟨⟨_, _, _, ceS⟩, ⟨_, _, _, _, _, _, coS, v2S, flS⟩, ⟨_, cd_S⟩, sbS, T.bn _ (by decide +kernel), top_, any_, fd_S, tMI, fiMI⟩
  have TCS : ClT K CM CB CL CA CS CF CS fS fE (kinOf "store") := ⟨CL_S, nWS, nNS, haS, hn, htk, hmS, by
    have e : kinOf "store" = [true, false, false, false, true, false] := by decide +kernel
    rw [e]
    intro q hq
    simp only [List.zip_cons_cons, List.zip_nil_right, List.mem_cons, List.not_mem_nil, or_false] at hq
    rcases hq with rfl | rfl | rfl | rfl | rfl | rfl
    · exact kitS0
    · exact kitS1
    · exact kitS2
    · exact kitS3
    · exact kitS4
    · exact kitS5, stS, eqS⟩
  have CL_F : Cls K CF := ⟨pgF, hdF, poF, saF⟩
  have SPF : SupT l.prog K mg CF CF ccF cdaF "__init__" fMI := ⟨⟨_, _, _, ceF⟩, ⟨_, _, _, _, _, _, coF, v2F, flF⟩, ⟨_, cd_F⟩, sbF, T.bn _ (by decide +kernel), top_, any_, fd_F, tMI, fiMI⟩
  have TCF : ClT K CM CB CL CA CS CF CF fS fE (kinOf "forget") := ⟨CL_F, nWF, nNF, haF, hn, htk, hmF, by
    have e : kinOf "forget" = [true, false, false, false, false, true] := by decide +kernel
    rw [e]
    intro q hq
    simp only [List.zip_cons_cons, List.zip_nil_right, List.mem_cons, List.not_mem_nil, or_false] at hq
    rcases hq with rfl | rfl | rfl | rfl | rfl | rfl
    · exact kitF0
    · exact kitF1
    · exact kitF2
    · exact kitF3
    · exact kitF4
    · exact kitF5, stF, eqF⟩
  have OXN : OexC K CN := ⟨⟨_, _, _, _, _, _, _, _, _, _, _, _, _, _, _, xoN, xrN⟩, saN, beN, tyN, kpN⟩
  have SEN : SupE l.prog K mg CN CN ccN cdaN := ⟨⟨_, _, _, ceN⟩, ⟨_, _, _, _, _, _, coN, v2N, flN⟩, ⟨_, cd_N⟩, sbN, svN, T.bn _ (by decide +kernel), top_, any_, fd_N, OXN⟩
  have eN : ErrT K CE CN := ⟨PySem.W.exm_ref eE1 eE2 eE3 suN, ⟨xgN, xkN, beN, hdN, haN, hn, htk, hmN⟩, kvN, koN, ⟨xgN, xkN, beN, hdN⟩, noN⟩
  have OXD : OexC K CD := ⟨⟨_, _, _, _, _, _, _, _, _, _, _, _, _, _, _, xoD, xrD⟩, saD, beD, tyD, kpD⟩
  have SED : SupE l.prog K mg CD CD ccD cdaD := ⟨⟨_, _, _, ceD⟩, ⟨_, _, _, _, _, _, coD, v2D, flD⟩, ⟨_, cd_D⟩, sbD, svD, T.bn _ (by decide +kernel), top_, any_, fd_D, OXD⟩
  have eD : ErrT K CE CD := ⟨PySem.W.exm_ref eE1 eE2 eE3 suD, ⟨xgD, xkD, beD, hdD, haD, hn, htk, hmD⟩, kvD, koD, ⟨xgD, xkD, beD, hdD⟩, noD⟩
  have TC : ∀ wd ∈ W4, ClT K CM CB CL CA CS CF (clsOf CL CA CS CF wd) fS fE (kinOf wd) := by
    intro wd hwd
    rcases w4_cases hwd with rfl | rfl | rfl | rfl
    · exact TCL
    · exact TCA
    · exact TCS
    · exact TCF
  have nF : ∀ x ∈ W4, ∀ y ∈ W4, PySem.W.notFirst K (clsOf CL CA CS CF x) (.ref (clsOf CL CA CS CF y)) = true := by
    intro x hx y hy
    rcases w4_cases hx with rfl | rfl | rfl | rfl <;> rcases w4_cases hy with rfl | rfl | rfl | rfl
    · exact nfLL
    · exact nfLA
    · exact nfLS
    · exact nfLF
    · exact nfAL
    · exact nfAA
    · exact nfAS
    · exact nfAF
    · exact nfSL
    · exact nfSA
    · exact nfSS
    · exact nfSF
    · exact nfFL
    · exact nfFA
    · exact nfFS
    · exact nfFF
  have nFt : ∀ x ∈ W4, ∀ T ∈ ["str", "tuple"], PySem.W.notFirst K (clsOf CL CA CS CF x) (.type T) = true := by
    intro x hx T hT
    simp only [List.mem_cons, List.not_mem_nil, or_false] at hT
    rcases w4_cases hx with rfl | rfl | rfl | rfl <;> rcases hT with rfl | rfl
    · exact nfsL
    · exact nftL
    · exact nfsA
    · exact nftA
    · exact nfsS
    · exact nftS
    · exact nfsF
    · exact nftF
  have hne : ∀ x ∈ W4, PySem.W.findIn K (.ref (clsOf CL CA CS CF x)) "__ne__" = some (some (.builtin "object.__ne__")) := by
    intro x hx
    rcases w4_cases hx with rfl | rfl | rfl | rfl
    · exact neL
    · exact neA
    · exact neS
    · exact neF
  have kO : ∀ T ∈ ["str", "tuple"], PySem.W.kitOne K (.type T) (.ref CM) = some false := by
    intro T hT
    simp only [List.mem_cons, List.not_mem_nil, or_false] at hT
    rcases hT with rfl | rfl
    · exact kOs
    · exact kOt
  have mr : mg "_law_read_right" = some (.ref f__law_read_right) := PySem.W.mg_of X G a__law_read_right
  refine ⟨_, [(q1, P1), (q2, P2)], spLaw K [(P1, "_law_read_right.<locals>.<lambda>"), (P2, "law.<locals>.<lambda>")], ?_, ?_, ?_, fun s u => .of_eq (fd := PySem.W.fnOf "law" "law" (defArgs s_law) (defBody s_law) (defScope s_law) .none kV_law dc_law pm_law an_law (.ref q2) ct_law) rfl, ?_, ?_⟩
  · intro p hp
    simp only [List.mem_cons, List.not_mem_nil, or_false] at hp
    rcases hp with rfl | rfl
    · exact ow "_law_read_right" _ rc1 mr q1 P1 _ _ _ _ _ _ l__law_read_right rfl rfl qo1 qp1
    · exact ow "law" _ rc2 (PySem.W.mg_of X G a_law) q2 P2 _ _ _ _ _ _ l_law rfl rfl qo2 qp2
  · intro p hp
    simp only [List.mem_cons, List.not_mem_nil, or_false] at hp
    rcases hp with rfl | rfl
    · exact qn1
    · exact qn2
  · intro p hp
    simp only [List.mem_cons, List.not_mem_nil, or_false] at hp
    rcases hp with rfl | rfl
    · exact ⟨_, _, _, _, _, _, _, _, _, X _ _ qo1, rfl, rfl, qp1, qr1, qs_1, qu1, qv_1, qw1, qx1⟩
    · exact ⟨_, _, _, _, _, _, _, _, _, X _ _ qo2, rfl, rfl, qp2, qr2, qs_2, qu2, qv_2, qw2, qx2⟩
  · intro H a ns hl _ hH hS
    refine ⟨a, ns, rfl, hS, hl, fun p hp => ?_, fun _ => rfl⟩
    simp only [List.mem_cons, List.not_mem_nil, or_false] at hp
    rcases hp with rfl | rfl
    · exact LamX.TabS.nil (hH (q1, P1) (by simp))
    · exact LamX.TabS.nil (hH (q2, P2) (by simp))
  intro base _ _ TBs hsys
  have TB1 := TBs (q1, P1) (by simp)
  have TB2 := TBs (q2, P2) (by simp)
  have hu1 : ∀ p ∈ [(P1, ("_law_read_right.<locals>.<lambda>" : Str)), (P2, "law.<locals>.<lambda>")], p.1 = P1 → p.2 = ("_law_read_right.<locals>.<lambda>" : Str) := fun p hp e => by
    simp only [List.mem_cons, List.not_mem_nil, or_false] at hp
    rcases hp with rfl | rfl
    · rfl
    · exact absurd e.symm qne
  have hu2 : ∀ p ∈ [(P1, ("_law_read_right.<locals>.<lambda>" : Str)), (P2, "law.<locals>.<lambda>")], p.1 = P2 → p.2 = ("law.<locals>.<lambda>" : Str) := fun p hp e => by
    simp only [List.mem_cons, List.not_mem_nil, or_false] at hp
    rcases hp with rfl | rfl
    · exact absurd e qne
    · rfl
  have raw : ∀ {CX : CXT} {k : Nat} {f : Addr} {fd : FuncData} {ps : List Str} {sp : Sp}, FnOk l.prog w K mg base CX k f fd ps sp → Binds K fd ps [] → FnR l.prog w K mg base CX k f sp := fun {CX k f fd ps sp} F b => (F.raw b .nil).imp fun vs H Q E h => by rw [List.append_nil]; exact h
  have c_is_name : Cal l.prog w K mg base CX0 1 "is_name" spName := ⟨_, PySem.W.mg_of X G a_is_name, k_is_name, raw (ok_name F_is_name T) B_is_name⟩
  have x_BadName : Xer l.prog w K mg base CN "BadName" ["value"] := ⟨T.m_BadName, OXN, _, _, _, inN, tf_N, ok_BadName_init FSN SEN noN, Binds.all fun us hl => match us, hl with | [_, _], _ => rfl⟩
  have x_BadMove : Xer l.prog w K mg base CD "BadMove" ["value"] := ⟨T.m_BadMove, OXD, _, _, _, inD, tf_D, ok_BadMove_init FSD SED noD, Binds.all fun us hl => match us, hl with | [_, _], _ => rfl⟩
  have rMI : FnR l.prog w K mg base (L2.CX l.prog w) 3 fMI (spMI K CN) := raw (ok_MI FMI T c_is_name x_BadName) BMI
  have c_Load : Mkc l.prog w K mg base (L2.CX l.prog w) 4 CL "Load" (spCI K CN "load" CL) := ⟨fL_, PySem.W.mg_of X G gL_, ⟨mkL, inL, fnL, kpL⟩, raw (ok_Load_init FSL CL_L nWL nNL SPL rMI) (Binds.all fun us hl => match us, hl with | [_, _], _ => rfl)⟩
  have c_Again : Mkc l.prog w K mg base (L2.CX l.prog w) 4 CA "Again" (spCI K CN "again" CA) := ⟨fA_, PySem.W.mg_of X G gA_, ⟨mkA, inA, fnA, kpA⟩, raw (ok_Again_init FSA CL_A nWA nNA SPA rMI) (Binds.all fun us hl => match us, hl with | [_, _], _ => rfl)⟩
  have c_Store : Mkc l.prog w K mg base (L2.CX l.prog w) 4 CS "Store" (spCI K CN "store" CS) := ⟨fS_, PySem.W.mg_of X G gS_, ⟨mkS, inS, fnS, kpS⟩, raw (ok_Store_init FSS CL_S nWS nNS SPS rMI) (Binds.all fun us hl => match us, hl with | [_, _], _ => rfl)⟩
  have c_Forget : Mkc l.prog w K mg base (L2.CX l.prog w) 4 CF "Forget" (spCI K CN "forget" CF) := ⟨fF_, PySem.W.mg_of X G gF_, ⟨mkF, inF, fnF, kpF⟩, raw (ok_Forget_init FSF CL_F nWF nNF SPF rMI) (Binds.all fun us hl => match us, hl with | [_, _], _ => rfl)⟩
  have c_move_of : Cal l.prog w K mg base (L2.CX l.prog w) 6 "move_of" (spOf (clsOf CL CA CS CF) CN) := ⟨_, PySem.W.mg_of X G a_move_of, k_move_of, raw (ok_of F_move_of T c_Load c_Again c_Store c_Forget) B_move_of⟩
  have c__law_made : Cal l.prog w K mg base (L2.CX l.prog w) 6 "_law_made" (spOf (clsOf CL CA CS CF) CN) := ⟨_, PySem.W.mg_of X G a__law_made, k__law_made, raw (ok_made F__law_made T c_Load c_Again c_Store c_Forget) B__law_made⟩
  have okR := ok_read (base := base) FR T c_is_name c_move_of x_BadMove
  have c_Move_read : Clm l.prog w K mg base (L2.CX l.prog w) 7 CM "read" (spRead (clsOf CL CA CS CF) CD) := ⟨mc, pR, fR, ⟨rdM, gaM⟩, ⟨atR, ⟨_, rcR⟩, fiR⟩, raw okR BR⟩
  have c_Move_read_kw : ClmK l.prog w K mg base (L2.CX l.prog w) 7 CM "read" "text" (spRead (clsOf CL CA CS CF) CD) := ⟨mc, pR, fR, _, _, ⟨rdM, gaM⟩, ⟨atR, ⟨_, rcR⟩, fiR⟩, okR, fun s u => .of_eq rfl⟩
  have rE := raw (ok_eq (P := l.prog) (w := w) (base := base) FE T TC kO) BE
  have rS := raw (ok_str (P := l.prog) (w := w) (base := base) FS_ T TC) BS
  have c__law_pen : Cal l.prog w K mg base CX0 1 "_law_pen" (spPen K) := ⟨_, PySem.W.mg_of X G a__law_pen, k__law_pen, raw (ok_pen F__law_pen T) B__law_pen⟩
  have c__law_draw : Cal l.prog w K mg base CX0 1 "_law_draw" spDraw := ⟨_, PySem.W.mg_of X G a__law_draw, k__law_draw, raw (ok_draw F__law_draw T) B__law_draw⟩
  have c__law_pick : Cal l.prog w K mg base CX0 2 "_law_pick" (spPick K) := ⟨_, PySem.W.mg_of X G a__law_pick, k__law_pick, raw (ok_pick F__law_pick T c__law_draw) B__law_pick⟩
  have c__law_name : Cal l.prog w K mg base CX0 3 "_law_name" spLName := ⟨_, PySem.W.mg_of X G a__law_name, k__law_name, raw (ok_lname F__law_name T c__law_draw c__law_pick) B__law_name⟩
  have c__law_odd : Cal l.prog w K mg base CX0 3 "_law_odd" spOdd := ⟨_, PySem.W.mg_of X G a__law_odd, k__law_odd, raw (ok_odd F__law_odd T c__law_pick) B__law_odd⟩
  have c__law_is_name : Cal l.prog w K mg base CX0 1 "_law_is_name" spLIs := ⟨_, PySem.W.mg_of X G a__law_is_name, k__law_is_name, raw (ok_lis F__law_is_name T) B__law_is_name⟩
  have c__law_bent : Cal l.prog w K mg base CX0 3 "_law_bent" spBent := ⟨_, PySem.W.mg_of X G a__law_bent, k__law_bent, raw (ok_bent F__law_bent T c__law_draw c__law_pick) B__law_bent⟩
  have c__law_kin : Cal l.prog w K mg base CX0 1 "_law_kin" (spKin (clsOf CL CA CS CF)) := ⟨_, PySem.W.mg_of X G a__law_kin, k__law_kin, raw (ok_kin F__law_kin T TC) B__law_kin⟩
  have mh := PySem.W.mg_of X G a__law_heard
  have okRR := ok_rr (P := l.prog) (w := w) (base := base) F__law_read_right T TC F__law_heard mh B__law_heard eN eD nND nDN rfl TB1 (TT := [(P1, ("_law_read_right.<locals>.<lambda>" : Str)), (P2, "law.<locals>.<lambda>")]) (by simp) hu1 hsys rE iE rS iS c__law_is_name c__law_made c_Move_read c_Move_read_kw
  have c__law_read_right : CalG l.prog w K mg base CX0 10 "_law_read_right" (spRR [(P1, ("_law_read_right.<locals>.<lambda>" : Str)), (P2, "law.<locals>.<lambda>")]) := ⟨_, _, _, mr, k__law_read_right, B__law_read_right, okRR⟩
  exact ok_law F_law T TC F__law_heard mh B__law_heard eN eD nND nDN rfl TB2 (by simp) hu2 hsys rE iE rS iS nF nFt hne c__law_pen c__law_name c__law_odd c__law_bent c__law_kin c__law_made c__law_read_right
theorem walk {l : PySem.W.OpenLaw} {q : Program} {loose : List Str} {XP : (Str → Option Value) → Heap → Prop} {YP : World → Heap → Prop} {d : DefRec} {K : Params → PySem.W.Frag} (hn : l.most = some 63) (hdf : d.params.defaults = []) (him : importsNone q = true)
    (hY : ∀ (w : World) (h : Heap), YP w h → (K w.params).In h)
    (F : ∀ (w : World) (mg : Str → Option Value) (fa : Addr) (h : Heap), (K w.params).In h → h.Ns mainGlobals mg → mg d.name = some (.ref fa) → (∀ (x : Str) (fx : Addr), ((recsOf q).any fun e => e.name == x) = true → mg x = some (.ref fx) → LamX.OwnTab (K w.params) fx h) → LawG l w (K w.params) CX0 12 63 "_law_script" mg fa h) :
    PySem.W.WalkO q loose XP YP l.row.toRowW d [] (fun f vs => PySem.call f vs) :=
  walk_G (n := 63) (k := 12) (x := "_law_script") (CX := fun _ => CX0) hn (by decide) hdf ⟨rfl, by decide, by decide⟩ him hY (fun w mg fa h _ => F w mg fa h) fun _ _ _ _ _ z => z
end K18
open PySem PySem.W PyProof.Rows
set_option maxRecDepth 100000 in
set_option maxHeartbeats 0 in
theorem PySem.Challenge.cw_loopstow_k18_moves_holds : PySem.Challenge.rw_loopstow_k18_moves.Holds := by
  w_on; o_law; k_head; (case hw => w_witness2)
  k_fill
  refine K18.walk (l := PySem.Challenge.rw_loopstow_k18_moves) rfl rfl (by decide +kernel) (fun w h Y => PySem.W.km_in_of Y) ?F
  case F =>
    intro w mg fa h KX G hmg ow
    refine' K18.all_mk KX G hmg ow ?b0 ?b1 ?b2 ?b3 ?b4 ?b5 ?b6 ?b7 ?b8 ?b9 ?b10 ?b11 ?b12 ?gL ?eL ?gN ?gCM ?gCB ?gCE ?aMI ?lMI ?cMI ?kMI ?tMI ?fiMI ?aE ?lE ?cE ?kE ?iE ?aS ?lS ?cS ?kS ?iS ?tyM ?rdM ?gaM ?atR ?rcR ?fiR ?lR ?cR ?kR ?hn ?htk ?any_ ?top_ ?kOs ?kOt ?eE1 ?eE2 ?eE3 ?gL_ ?gA_ ?gS_ ?gF_ ?pgL ?hdL ?poL ?saL ?nWL ?nNL ?haL ?hmL ?kitL0 ?kitL1 ?kitL2 ?kitL3 ?kitL4 ?kitL5 ?stL ?eqL ?neL ?nfLL ?nfLA ?nfLS ?nfLF ?nfsL ?nftL ?mkL ?inL ?fnL ?kpL ?lIL ?cIL ?kIL ?ceL ?coL ?v2L ?flL ?cd_L ?sbL ?fd_L ?pgA ?hdA ?poA ?saA ?nWA ?nNA ?haA ?hmA ?kitA0 ?kitA1 ?kitA2 ?kitA3 ?kitA4 ?kitA5 ?stA ?eqA ?neA ?nfAL ?nfAA ?nfAS ?nfAF ?nfsA ?nftA ?mkA ?inA ?fnA ?kpA ?lIA ?cIA ?kIA ?ceA ?coA ?v2A ?flA ?cd_A ?sbA ?fd_A ?pgS ?hdS ?poS ?saS ?nWS ?nNS ?haS ?hmS ?kitS0 ?kitS1 ?kitS2 ?kitS3 ?kitS4 ?kitS5 ?stS ?eqS ?neS ?nfSL ?nfSA ?nfSS ?nfSF ?nfsS ?nftS ?mkS ?inS ?fnS ?kpS ?lIS ?cIS ?kIS ?ceS ?coS ?v2S ?flS ?cd_S ?sbS ?fd_S ?pgF ?hdF ?poF ?saF ?nWF ?nNF ?haF ?hmF ?kitF0 ?kitF1 ?kitF2 ?kitF3 ?kitF4 ?kitF5 ?stF ?eqF ?neF ?nfFL ?nfFA ?nfFS ?nfFF ?nfsF ?nftF ?mkF ?inF ?fnF ?kpF ?lIF ?cIF ?kIF ?ceF ?coF ?v2F ?flF ?cd_F ?sbF ?fd_F ?gN_ ?gD_ ?xoN ?xrN ?saN ?beN ?tyN ?kpN ?inN ?tf_N ?lIN ?cIN ?kIN ?ceN ?coN ?v2N ?flN ?cd_N ?sbN ?svN ?fd_N ?noN ?suN ?xgN ?xkN ?hdN ?haN ?hmN ?kvN ?koN ?xoD ?xrD ?saD ?beD ?tyD ?kpD ?inD ?tf_D ?lID ?cID ?kID ?ceD ?coD ?v2D ?flD ?cd_D ?sbD ?svD ?fd_D ?noD ?suD ?xgD ?xkD ?hdD ?haD ?hmD ?kvD ?koD ?nND ?nDN ?a_is_name ?l_is_name ?c_is_name ?k_is_name ?a_move_of ?l_move_of ?c_move_of ?k_move_of ?a__law_pen ?l__law_pen ?c__law_pen ?k__law_pen ?a__law_draw ?l__law_draw ?c__law_draw ?k__law_draw ?a__law_pick ?l__law_pick ?c__law_pick ?k__law_pick ?a__law_heard ?l__law_heard ?c__law_heard ?k__law_heard ?a__law_made ?l__law_made ?c__law_made ?k__law_made ?a__law_name ?l__law_name ?c__law_name ?k__law_name ?a__law_odd ?l__law_odd ?c__law_odd ?k__law_odd ?a__law_is_name ?l__law_is_name ?c__law_is_name ?k__law_is_name ?a__law_bent ?l__law_bent ?c__law_bent ?k__law_bent ?a__law_read_right ?l__law_read_right ?c__law_read_right ?k__law_read_right ?qo1 ?qp1 ?qr1 ?qs_1 ?qu1 ?qv_1 ?qw1 ?qx1 ?qn1 ?a__law_kin ?l__law_kin ?c__law_kin ?k__law_kin ?a_law ?l_law ?c_law ?k_law ?qo2 ?qp2 ?qr2 ?qs_2 ?qu2 ?qv_2 ?qw2 ?qx2 ?qn2 ?qne ?rc1 ?rc2
    (case b0 => k_is)
    (case b1 => k_is)
    (case b2 => k_is)
    (case b3 => k_is)
    (case b4 => k_is)
    (case b5 => k_is)
    (case b6 => k_is)
    (case b7 => k_is)
    (case b8 => k_is)
    (case b9 => k_is)
    (case b10 => k_is)
    (case b11 => k_is)
    (case b12 => k_is)
    (case gL => k_is)
    (case eL => decide +kernel)
    (case gN => k_is)
    (case gCM => k_is)
    (case gCB => k_is)
    (case gCE => k_is)
    (case aMI => k_is)
    (case lMI => k_is)
    (case cMI => k_is)
    (case kMI => k_is)
    (case tMI => k_is)
    (case fiMI => k_is)
    (case aE => k_is)
    (case lE => k_is)
    (case cE => k_is)
    (case kE => k_is)
    (case iE => k_is)
    (case aS => k_is)
    (case lS => k_is)
    (case cS => k_is)
    (case kS => k_is)
    (case iS => k_is)
    (case tyM => k_is)
    (case rdM => k_is)
    (case gaM => k_is)
    (case atR => k_is)
    (case rcR => k_is)
    (case fiR => k_is)
    (case lR => k_is)
    (case cR => k_is)
    (case kR => k_is)
    (case hn => k_is)
    (case htk => k_is)
    (case any_ => k_is)
    (case top_ => decide +kernel)
    (case kOs => kit_is)
    (case kOt => kit_is)
    (case eE1 => k_is)
    (case eE2 => k_is)
    (case eE3 => k_is)
    (case gL_ => k_is)
    (case gA_ => k_is)
    (case gS_ => k_is)
    (case gF_ => k_is)
    (case pgL => k_is)
    (case hdL => k_is)
    (case poL => k_is)
    (case saL => k_is)
    (case nWL => k_is)
    (case nNL => k_is)
    (case haL => k_is)
    (case hmL => k_is)
    (case kitL0 => kit_is)
    (case kitL1 => kit_is)
    (case kitL2 => kit_is)
    (case kitL3 => kit_is)
    (case kitL4 => kit_is)
    (case kitL5 => kit_is)
    (case stL => k_is)
    (case eqL => k_is)
    (case neL => k_is)
    (case nfLL => k_is)
    (case nfLA => k_is)
    (case nfLS => k_is)
    (case nfLF => k_is)
    (case nfsL => k_is)
    (case nftL => k_is)
    (case mkL => k_is)
    (case inL => k_is)
    (case fnL => k_is)
    (case kpL => k_is)
    (case lIL => k_is)
    (case cIL => k_is)
    (case kIL => k_is)
    (case ceL => k_is)
    (case coL => k_is)
    (case v2L => rfl)
    (case flL => decide +kernel)
    (case cd_L => k_is)
    (case sbL => k_is)
    (case fd_L => ks_is)
    (case pgA => k_is)
    (case hdA => k_is)
    (case poA => k_is)
    (case saA => k_is)
    (case nWA => k_is)
    (case nNA => k_is)
    (case haA => k_is)
    (case hmA => k_is)
    (case kitA0 => kit_is)
    (case kitA1 => kit_is)
    (case kitA2 => kit_is)
    (case kitA3 => kit_is)
    (case kitA4 => kit_is)
    (case kitA5 => kit_is)
    (case stA => k_is)
    (case eqA => k_is)
    (case neA => k_is)
    (case nfAL => k_is)
    (case nfAA => k_is)
    (case nfAS => k_is)
    (case nfAF => k_is)
    (case nfsA => k_is)
    (case nftA => k_is)
    (case mkA => k_is)
    (case inA => k_is)
    (case fnA => k_is)
    (case kpA => k_is)
    (case lIA => k_is)
    (case cIA => k_is)
    (case kIA => k_is)
    (case ceA => k_is)
    (case coA => k_is)
    (case v2A => rfl)
    (case flA => decide +kernel)
    (case cd_A => k_is)
    (case sbA => k_is)
    (case fd_A => ks_is)
    (case pgS => k_is)
    (case hdS => k_is)
    (case poS => k_is)
    (case saS => k_is)
    (case nWS => k_is)
    (case nNS => k_is)
    (case haS => k_is)
    (case hmS => k_is)
    (case kitS0 => kit_is)
    (case kitS1 => kit_is)
    (case kitS2 => kit_is)
    (case kitS3 => kit_is)
    (case kitS4 => kit_is)
    (case kitS5 => kit_is)
    (case stS => k_is)
    (case eqS => k_is)
    (case neS => k_is)
    (case nfSL => k_is)
    (case nfSA => k_is)
    (case nfSS => k_is)
    (case nfSF => k_is)
    (case nfsS => k_is)
    (case nftS => k_is)
    (case mkS => k_is)
    (case inS => k_is)
    (case fnS => k_is)
    (case kpS => k_is)
    (case lIS => k_is)
    (case cIS => k_is)
    (case kIS => k_is)
    (case ceS => k_is)
    (case coS => k_is)
    (case v2S => rfl)
    (case flS => decide +kernel)
    (case cd_S => k_is)
    (case sbS => k_is)
    (case fd_S => ks_is)
    (case pgF => k_is)
    (case hdF => k_is)
    (case poF => k_is)
    (case saF => k_is)
    (case nWF => k_is)
    (case nNF => k_is)
    (case haF => k_is)
    (case hmF => k_is)
    (case kitF0 => kit_is)
    (case kitF1 => kit_is)
    (case kitF2 => kit_is)
    (case kitF3 => kit_is)
    (case kitF4 => kit_is)
    (case kitF5 => kit_is)
    (case stF => k_is)
    (case eqF => k_is)
    (case neF => k_is)
    (case nfFL => k_is)
    (case nfFA => k_is)
    (case nfFS => k_is)
    (case nfFF => k_is)
    (case nfsF => k_is)
    (case nftF => k_is)
    (case mkF => k_is)
    (case inF => k_is)
    (case fnF => k_is)
    (case kpF => k_is)
    (case lIF => k_is)
    (case cIF => k_is)
    (case kIF => k_is)
    (case ceF => k_is)
    (case coF => k_is)
    (case v2F => rfl)
    (case flF => decide +kernel)
    (case cd_F => k_is)
    (case sbF => k_is)
    (case fd_F => ks_is)
    (case gN_ => k_is)
    (case gD_ => k_is)
    (case xoN => k_is)
    (case xrN => rfl)
    (case saN => k_is)
    (case beN => k_is)
    (case tyN => k_is)
    (case kpN => k_is)
    (case inN => k_is)
    (case tf_N => k_is)
    (case lIN => k_is)
    (case cIN => k_is)
    (case kIN => k_is)
    (case ceN => k_is)
    (case coN => k_is)
    (case v2N => rfl)
    (case flN => decide +kernel)
    (case cd_N => k_is)
    (case sbN => k_is)
    (case svN => k_is)
    (case fd_N => ks_is)
    (case noN => k_is)
    (case suN => k_is)
    (case xgN => k_is)
    (case xkN => k_is)
    (case hdN => k_is)
    (case haN => k_is)
    (case hmN => k_is)
    (case kvN => kit_is)
    (case koN => kit_is)
    (case xoD => k_is)
    (case xrD => rfl)
    (case saD => k_is)
    (case beD => k_is)
    (case tyD => k_is)
    (case kpD => k_is)
    (case inD => k_is)
    (case tf_D => k_is)
    (case lID => k_is)
    (case cID => k_is)
    (case kID => k_is)
    (case ceD => k_is)
    (case coD => k_is)
    (case v2D => rfl)
    (case flD => decide +kernel)
    (case cd_D => k_is)
    (case sbD => k_is)
    (case svD => k_is)
    (case fd_D => ks_is)
    (case noD => k_is)
    (case suD => k_is)
    (case xgD => k_is)
    (case xkD => k_is)
    (case hdD => k_is)
    (case haD => k_is)
    (case hmD => k_is)
    (case kvD => kit_is)
    (case koD => kit_is)
    (case nND => kit_is)
    (case nDN => kit_is)
    (case a_is_name => k_is)
    (case l_is_name => k_is)
    (case c_is_name => k_is)
    (case k_is_name => k_is)
    (case a_move_of => k_is)
    (case l_move_of => k_is)
    (case c_move_of => k_is)
    (case k_move_of => k_is)
    (case a__law_pen => k_is)
    (case l__law_pen => k_is)
    (case c__law_pen => k_is)
    (case k__law_pen => k_is)
    (case a__law_draw => k_is)
    (case l__law_draw => k_is)
    (case c__law_draw => k_is)
    (case k__law_draw => k_is)
    (case a__law_pick => k_is)
    (case l__law_pick => k_is)
    (case c__law_pick => k_is)
    (case k__law_pick => k_is)
    (case a__law_heard => k_is)
    (case l__law_heard => k_is)
    (case c__law_heard => k_is)
    (case k__law_heard => k_is)
    (case a__law_made => k_is)
    (case l__law_made => k_is)
    (case c__law_made => k_is)
    (case k__law_made => k_is)
    (case a__law_name => k_is)
    (case l__law_name => k_is)
    (case c__law_name => k_is)
    (case k__law_name => k_is)
    (case a__law_odd => k_is)
    (case l__law_odd => k_is)
    (case c__law_odd => k_is)
    (case k__law_odd => k_is)
    (case a__law_is_name => k_is)
    (case l__law_is_name => k_is)
    (case c__law_is_name => k_is)
    (case k__law_is_name => k_is)
    (case a__law_bent => k_is)
    (case l__law_bent => k_is)
    (case c__law_bent => k_is)
    (case k__law_bent => k_is)
    (case a__law_read_right => k_is)
    (case l__law_read_right => k_is)
    (case c__law_read_right => k_is)
    (case k__law_read_right => k_is)
    (case qo1 => k_is)
    (case qp1 => rfl)
    (case qr1 => rfl)
    (case qs_1 => rfl)
    (case qu1 => rfl)
    (case qv_1 => rfl)
    (case qw1 => rfl)
    (case qx1 => decide)
    (case qn1 => first | rfl | kernel_rfl)
    (case a__law_kin => k_is)
    (case l__law_kin => k_is)
    (case c__law_kin => k_is)
    (case k__law_kin => k_is)
    (case a_law => k_is)
    (case l_law => k_is)
    (case c_law => k_is)
    (case k_law => k_is)
    (case qo2 => k_is)
    (case qp2 => rfl)
    (case qr2 => rfl)
    (case qs_2 => rfl)
    (case qu2 => rfl)
    (case qv_2 => rfl)
    (case qw2 => rfl)
    (case qx2 => decide)
    (case qn2 => first | rfl | kernel_rfl)
    (case qne => decide)
    (case rc1 => decide +kernel)
    (case rc2 => decide +kernel)
end
