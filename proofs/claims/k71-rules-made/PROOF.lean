import PyProof.Rows.All
import Wide.All
import OpenK.AllK
import Wide.FinOn
import KE.KSuper
import KE.KCallOwn
import HandS.ForMost
import HandS.ClsMeth
import HandS.OwnEq
import HandS.FStr
import HandS.IsInst
import HandS.Star
import HandS.SlotsOwn
import HandS.Defaults
import HandS.RaiseMore
import PyProof.NeKinds
import HandS.Walk
import KE.KFromBytes
import HandS.Exc
import HandS.ExcInit
import HandS.ExcSuper
import HandS.ExcIs
import KE.KExcIs
import HandS.ExcField
import HandS.ExcValue
import HandS.Lambda
import HandS.EndTab
import HandS.EndOwn
import HandS.Words
import HandS.WordsExc
import HandS.Dict
import HandS.Text
import PyProof.InstNe
import PyProof.ReprLen
import KE.KRevSl
import HandS.SetFor
import HandS.Style
import HandS.Property
import HandS.List
import PyProof.P3Eq
import PyProof.FitsInt
import HandS.MakeKw
import KE.GoesMore
import KE.GoesEnum
import PyProof.EnumMake
import HandS.Iter
import HandS.Deep
import HandS.Codes
import PySem.Challenge.RW_loopstow_k71_rules_made
import HandS.TryOnly
import KE.RegKSuper
import KE.RegKIsAll
import KE.KStateDown
import HandS.Head0
import HandS.Head1
import HandS.Head2
section
set_option Elab.async false
set_option linter.all false
set_option maxRecDepth 100000
set_option maxHeartbeats 4000000
/-! Own rules over the hand layer. -/
namespace Ls
open PySem PySem.Spec PyProof.Rows L2

/-! ### what a for walks: one of two kinds -/
theorem PI.or {X : Cx} {tg iter : Expr} {w1 w2 : TI} (h1 : PI X tg iter w1) (h2 : PI X tg iter w2) : PI X tg iter (fun σ H R => w1 σ H R ∨ w2 σ H R) :=
  ⟨fun pins s σ H R I h => h.elim (fun h => h1.run pins s σ H R I h) (fun h => h2.run pins s σ H R I h)⟩
/-- a list or a tuple -/
theorem pi_seq {X : Cx} {tg l : Expr} {tl : TE} (hl : PE X l tl) : PI X tg l (fun σ H R => iList X.K tl σ H R ∨ iTup X.K tl σ H R) := PI.or (pi_list hl) (pi_tup hl)

/-! ### f(k = v, ..), no positional argument -/
section
variable {X : Cx} {CX : CXT} {k : Nat} {f : Addr} {fd : FuncData} {ps ks : List Str} {sp : Sp} {E : XK} {x : Str} {p pos : Pos} {kws : List Keyword} {tk : TA} {g : List Value → List Value → List Value} {gV : List V → List V → List V}
theorem pe_callK0 (F : FnOk X.prog X.w X.K X.mg X.base CX k f fd ps sp) (hr : Room k X.A) (hg : Gl X x) (hm : X.mg x = some (.ref f)) (hk : PySem.W.keepIn X.K (.ref f) = true) (hb : KBn X.K fd ps 0 ks g gV) (hx : Passes CX X E)
    (hkw : PK X kws tk) (hall : (backToKw pos (keywordEach kws X.env)).all (·.1.isSome) = true := by rfl) (hks : (backToKw pos (keywordEach kws X.env)).filterMap (·.1) = ks := by rfl)
    (hdb : (x == ("__debug__" : Str)) = false := by decide)
    (hpl : ((backTo pos (starEach [] X.env)).any (·.1) || (backToKw pos (keywordEach kws X.env)).any (·.1.isNone)) = false := by rfl) :
    PE X (.Call (.Name x p) [] kws pos) (tCallN 0 ks.length sp gV E tNil tk) := by
  refine ⟨fun pins s σ H Q I h => ?_⟩
  refine wpAny_Call_Name_kw (ld_glob I hg hm ?_ hdb)
  refine PySem.W.callWith_KW0 (h₀ := X.base) I.ok.mod.kin hk hall ?_ hpl
  refine thn (hkw.run pos pins s σ H _ I h) fun ws s2 ⟨zs, H2, I2, rz, l1, l2, q2⟩ => ⟨I2.kIn, ?_⟩
  rw [hks]
  exact run_fnN (us := []) (vs := []) F hr hb hx I2 .nil rz l1 l2 q2
/-- one parameter, given by its name -/
theorem kbn_one {K : PySem.W.Frag} {x qual : Str} {st : Stmt} {f : Addr} {fd : FuncData} {a : Str} (F : Fun K x qual st f fd)
    (h : ∀ (kV doc pm : Value) (an : Option Addr) (cdv ct u : Value), bindArgs (PySem.W.fnOf x qual (defArgs st) (defBody st) (defScope st) .none kV doc pm an cdv ct) ⟨[], [(a, u)]⟩ = pure [(a, u)]) :
    KBn K fd [a] 0 [a] (fun _ ws => ws) (fun _ zs => zs) := by
  obtain ⟨oc, od, kV, doc, pm, an, cdv, ct, osl, rfl, lk, hcd⟩ := F.ex
  refine ⟨fun s us ws _ l1 l2 => ?_, fun _ r => r⟩
  match us, ws, l1, l2 with
  | [], [u], _, _ => exact .of_eq (h kV doc pm an cdv ct u)
end

/-! ### str(x), x an instance whose class has the text's own __str__ -/
def rStrOwn (K : PySem.W.Frag) (g : Addr) (sp : Sp) (E : XK) : List V → Hp → VK → Prop := fun xs H Q => ∃ a C dx fs, xs = [V.ref a] ∧ H a = some (.ins C dx fs) ∧ PySem.W.findIn K (.ref C) "__str__" = some (some (.ref g)) ∧ sp [.ref a] H (fun z H' => ∃ y, z = .str y ∧ Q z H') E
section
variable {X : Cx} {CX : CXT} {g : Addr} {n : Nat} {sp : Sp} {E : XK}
theorem call_strOwn (hf : PySem.W.isFn X.K (.ref g) = true) (F : FnR X.prog X.w X.K X.mg X.base CX n g sp) (hr : Room (n + 2) X.A) (hx : Passes CX X E) : CallR X (.type "str") (rStrOwn X.K g sp E) := by
  intro pins s σ H xs us Q I r h
  obtain ⟨a, C, dx, fs, rfl, ha, hs, q⟩ := h
  obtain ⟨u, rfl, ru⟩ := r.one
  cases (show u = Value.ref a from ru)
  obtain ⟨mA, O, _⟩ := ins_get I.hok ha
  obtain ⟨od, J, _⟩ := O.look
  have hr2 : Room n X.A.in1.in1 := (show Room (n + 1) X.A.in1 from Room.in1 hr).in1
  refine PySem.W.kso_call hr2.units0 I.kIn J hs hf (wpAny_mono (wpAny_call (SlX.run_at (us := [.ref a]) (ws := [.ref a]) F hr2 I.env0.in1.in1 hx I (.cons rfl .nil) q)) (fun w s' z => ?_) fun _ _ x => x)
  obtain ⟨z', H', I', rz, y, ey, qz⟩ := z
  subst ey
  obtain ⟨t, e⟩ := (show ∃ t, w = Value.str y t from rz)
  cases e
  exact ⟨.str y, H', I', ⟨t, rfl⟩, qz⟩
/-- .. the written part by its own name (for a block) -/
theorem call_strOwnK {P : Program} {w : World} {K : PySem.W.Frag} {mg : Str → Option Value} {base : Heap} (hf : PySem.W.isFn K (.ref g) = true) (F : FnR P w K mg base CX n g sp) {A : Around} (hr : Room (n + 2) A) (hP : X.prog = P) (hw : X.w = w) (hK : X.K = K) (hmg : X.mg = mg) (hb : X.base = base) (hA : X.A = A) (hx : Passes CX X E) :
    CallR X (.type "str") (rStrOwn K g sp E) := by
  subst hP hw hK hmg hb hA
  exact call_strOwn hf F hr hx
end
end Ls
end
section
set_option Elab.async false
set_option linter.all false
set_option maxRecDepth 100000
set_option maxHeartbeats 4000000
namespace Ls
open PySem PySem.Spec PyProof.Rows L2

/-! ### a def that closes over __class__, its first statement super().__init__(..) -/
structure ScS (N ps : List Str) (sc : Scope) : Prop where
  kind : sc.kind = .function
  co : sc.isCoroutine = false
  gen : sc.isGenerator = false
  nd : N.Nodup
  pre : N.take ps.length = ps
  par : ∀ x ∈ ps, sc.names.lookup x = some .local
  nocell : ∀ y ∈ sc.names, y.2 ≠ .cell
  free : ∀ y ∈ sc.names, y.2 = .free → y.1 = "__class__"

def cxS (CX : CXT) (P : Program) (w : World) (K : PySem.W.Frag) (mg : Str → Option Value) (base : Heap) (N : List Str) (qual : Str) (scope : Scope) (f : Addr) (cd : Value) (cc : Addr) (A : Around) (outer : List Env) (s : Shared) (H : Hp) (E : XK) : Cx where
  prog := P
  w := w
  K := K
  mg := mg
  base := base
  A := A.deeper (PySem.W.ksEnv qual scope s.heap.objs.size f cd cc)
  N := N
  s_0 := s
  H_0 := H
  env := PySem.W.ksEnv qual scope s.heap.objs.size f cd cc
  outer := outer
  stack := PySem.W.ksEnv qual scope s.heap.objs.size f cd cc :: outer
  ex := []
  calm := true
  fn := fun x => !(x == ("__class__" : Str))
  pn := []
  xe := fun e s' => wpAny (model P w) (A.deeper (PySem.W.ksEnv qual scope s.heap.objs.size f cd cc)) (leaving (PySem.W.ksEnv qual scope s.heap.objs.size f cd cc) e) (fun _ s'' => CX outer H s E e s'') (fun e' s'' => CX outer H s E e' s'') s'

theorem rev_lookup {x : Str} {v : Value} : ∀ {ps : List Str} {us : List Value} {i : Nat}, ps.Nodup → ps[i]? = some x → us[i]? = some v → (ps.zip us).reverse.lookup x = some v
  | [], _, _, _, h, _ => by simp at h
  | _ :: _, [], _, _, _, h => by simp at h
  | p :: ps, u :: us, 0, nd, h1, h2 => by
    simp at h1 h2
    subst h1; subst h2
    rw [List.zip_cons_cons, List.reverse_cons, List.lookup_append]
    have : (ps.zip us).reverse.lookup p = none := by
      rw [List.lookup_eq_none_iff]
      rintro ⟨a, b⟩ hm
      have hm' := List.mem_reverse.mp hm
      have ha := (List.of_mem_zip hm').1
      have : p ≠ a := fun e => (List.nodup_cons.mp nd).1 (e ▸ ha)
      simpa using this
    rw [this]
    simp [List.lookup]
  | p :: ps, u :: us, i + 1, nd, h1, h2 => by
    rw [List.zip_cons_cons, List.reverse_cons, List.lookup_append, rev_lookup (i := i) (List.nodup_cons.mp nd).2 (by simpa using h1) (by simpa using h2)]
    rfl

section
variable {CX : CXT} {P : Program} {w : World} {K : PySem.W.Frag} {mg : Str → Option Value} {base : Heap} {N ps : List Str} {qual : Str} {scope : Scope} {f cc : Addr} {cd : Value} {A : Around} {outer : List Env} {s : Shared} {H : Hp} {E : XK} {us : List Value} {vs : List V}

theorem inv_startS {h1 : Heap} {tk : Nat} {ocell : Obj} {vc : Option Value} (S : ScS N ps scope) (hd : A.handled = none) (e0 : Env0 P w K mg base A outer s H) (hl : vs.length = ps.length) (r : Vals vs us)
    (hcell : K.lookup cc = some ocell) (hcd : ocell.data = .cell vc)
    (hns : h1.Ns s.heap.objs.size (fun x => (ps.zip us).reverse.lookup x)) (hk : ∀ b o, s.heap.get? b = some o → h1.get? b = some o) :
    Inv (cxS CX P w K mg base N qual scope f cd cc A outer s H E) [] (start N vs) H { s with heap := h1, toks := tk } := by
  have hpl : ps.length ≤ N.length := by have := congrArg List.length S.pre; rw [List.length_take] at this; omega
  have hccb : base.get? cc = some ocell := e0.mod.kin _ _ hcell
  have lkc : ∀ x c, List.lookup x [(("__class__" : Str), cc)] = some c → x = "__class__" ∧ c = cc := fun x c e => by
    by_cases hx : x = "__class__"
    · subst hx
      simp [List.lookup] at e
      exact ⟨rfl, e.symm⟩
    · have : (x == ("__class__" : Str)) = false := by simpa using hx
      simp [List.lookup, this] at e
  have noA : ∀ b : Addr, b ∉ (cxS CX P w K mg base N qual scope f cd cc A outer s H E).ex := fun b z => absurd (show b ∈ ([] : List Addr) from z) (by simp)
  refine ⟨⟨e0.mod, S.kind, rfl, rfl, Nat.le_refl _, fun y z c q1 q2 => ?_, fun y hy => ?_, fun y c hfn h => ?_, fun _ => hd, Around.frames_deeper e0.frames, .inr ⟨rfl, rfl⟩, fun b z => absurd z (noA b), e0.bs, e0.bsz, fun b _ _ => noA b, fun b z => absurd z (noA b), e0.funs, e0.frf⟩,
    rfl, e0.bare, Un.kept hk, ⟨_, hns, fun i y v q1 q2 q3 => ?_⟩, fun y c h => ?_, e0.hok.fresh (Nat.le_refl _), fun y c h => ?_, fun p hp => absurd (show p ∈ ([] : List (Addr × Obj)) from hp) (by simp), e0.hok.kept hk, ?_⟩
  · rw [(lkc y c q1).1, (lkc z c q2).1]
  · have hy : scope.names.lookup y = some .cell ∨ scope.names.lookup y = some .free := hy
    rcases hy with hy | hy
    · exact absurd rfl (S.nocell _ (PySem.mem_of_lookup hy))
    · have e := S.free _ (PySem.mem_of_lookup hy) rfl
      have e' : y = "__class__" := e
      subst e'
      exact ⟨cc, by show List.lookup _ [_] = _; simp [List.lookup]⟩
  · have e := (lkc y c h).1
    subst e
    exact absurd (show (!(("__class__" : Str) == ("__class__" : Str))) = true from hfn) (by simp)
  · have hi : i < vs.length := by
      unfold L2.start at q2
      by_cases hi : i < vs.length
      · exact hi
      · rw [List.getElem?_append_right (by simpa using hi)] at q2
        rw [List.getElem?_replicate] at q2
        split at q2 <;> cases q2
    have ha : vs[i]? = some v := by
      unfold L2.start at q2
      rw [List.getElem?_append_left (by simpa using hi), List.getElem?_map] at q2
      cases e : vs[i]? with
      | none => rw [e] at q2; cases q2
      | some a => rw [e] at q2; cases q2; rfl
    obtain ⟨u, hu, rv⟩ := r.get ha
    have hp : ps[i]? = some y := by
      rw [← S.pre, List.getElem?_take_of_lt (by omega)]; exact q1
    have ndP : ps.Nodup := by rw [← S.pre]; exact S.nd.sublist (List.take_sublist _ _)
    exact ⟨u, rv, .inl ⟨S.par y (List.mem_of_getElem? hp), rev_lookup ndP hp hu⟩⟩
  · obtain ⟨_, e⟩ := lkc y c h
    subst e
    exact ⟨vc, ocell, hk _ _ (e0.bs _ _ hccb).1, hcd⟩
  · obtain ⟨_, e⟩ := lkc y c h
    subst e
    exact (e0.bs _ _ hccb).2
  · unfold L2.start
    show _ = N.length
    rw [List.length_append, List.length_map, List.length_replicate]
    omega
end

/-- what the written part says for super().__init__ in a def of the class at D, of an instance of the class at C -/
structure SupT (P : Program) (K : PySem.W.Frag) (mg : Str → Option Value) (C D cc cda : Addr) (m : Str) (f2 : Addr) : Prop where
  cell : ∃ cl cld csl, K.lookup cc = some ⟨cl, cld, .cell (some (.ref D)), csl⟩
  code : ∃ ccl cdd vs ccs file tf, K.lookup cda = some ⟨ccl, cdd, .fields vs, ccs⟩ ∧ vs[2]? = some (.str file tf) ∧ ((P.main.file : Str) == file) = true
  clD : ∃ cdD, PySem.W.clsIn K D = some cdD
  sub : PySem.W.mroIn K C (.ref D) = some true
  sup : mg "super" = none
  top : (P.main.scope.names.lookup ("super" : Str)).isSome = false
  any : PySem.W.nsIn K cStatics "thirdparty.any" = some none
  fnd : PySem.W.ks_superIn K C D m = some (some (.ref f2))
  ty : PySem.W.typeIn K (.ref f2) = some (.type "function")
  fi : PySem.W.fnIn K f2 = true

section
variable {CX : CXT} {P : Program} {w : World} {K : PySem.W.Frag} {mg : Str → Option Value} {base : Heap} {k : Nat} {f cc cda : Addr} {name qual : Str} {params : Arguments} {scope : Scope} {dV kV doc pm ct oc : Value} {an od : Option Addr}
    {osl : Array (Option Value)} {N ps : List Str} {sp : Sp} {e : PySem.Expr} {es : List PySem.Expr} {rest : List Stmt} {m : Str} {p0 p1 apos pos epos : Pos} {pl : Sem Bool}
theorem fn_super (lk : K.lookup f = some ⟨oc, od, .func (PySem.W.ksFn name qual params (.Expr (.Call (.Attribute (.Call (.Name "super" p0) [] [] p1) m apos) (e :: es) [] pos) epos :: rest) scope dV kV doc pm an (.ref cda) ct cc), osl⟩)
    (hcd : PySem.W.codeIn K (.ref cda) qual = true) (S : ScS N ps scope)
    {ar : Arg} (hp0 : (params.posonlyargs ++ params.args).head? = some ar) (hps : ps.head? = some ar.arg) (hN0 : N.head? = some ar.arg) (har : scope.names.lookup ar.arg = some .local)
    (hks : scope.names.lookup ("super" : Str) = some .globalImplicit) (hkc : scope.names.lookup ("__class__" : Str) = some .free) (hmc : (m == ("__class__" : Str)) = false)
    (len : ∀ vs H Q E, sp vs H Q E → vs.length = ps.length)
    (hbody : ∀ (A : Around) (outer : List Env) (s : Shared) (H : Hp) (vs : List V) (Q : VK) (E : XK), Room k (A.deeper (PySem.W.ksEnv qual scope s.heap.objs.size f (.ref cda) cc)) → sp vs H Q E →
      ∃ (x C D dx f2 : Addr) (fs : List (Str × V)) (vs' : List V) (ta : TA) (u : TS) (spM : Sp) (CX' : CXT) (E' : XK), vs = .ref x :: vs' ∧ H x = some (.ins C dx fs) ∧ SupT P K mg C D cc cda m f2 ∧
        PA (cxS CX P w K mg base N qual scope f (.ref cda) cc A outer s H E) (e :: es) ta ∧ FnR P w K mg base CX' k f2 spM ∧ Passes CX' (cxS CX P w K mg base N qual scope f (.ref cda) cc A outer s H E) E' ∧
        PSs (cxS CX P w K mg base N qual scope f (.ref cda) cc A outer s H E) rest u ∧
        ta (start N vs) H (fun ws H1 => spM (.ref x :: ws) H1 (fun _ H2 => u { nx := fun _ H' => Q .non H', rt := Q } (start N vs) H2) E'))
    (hi : ∀ L, interactive (PySem.W.ksEnv qual scope L f (.ref cda) cc) = false) (hsw : ∀ L, swapsWith (.Call (.Attribute (.Call (.Name "super" p0) [] [] p1) m apos) (e :: es) [] pos) none epos.line (PySem.W.ksEnv qual scope L f (.ref cda) cc) = pure false)
    (he : ∀ L, eval (.Call (.Attribute (.Call (.Name "super" p0) [] [] p1) m apos) (e :: es) [] pos) (PySem.W.ksEnv qual scope L f (.ref cda) cc) = (do
      let ov ← attributeBase (.Call (.Name "super" p0) [] [] p1) m (PySem.W.ksEnv qual scope L f (.ref cda) cc) (eval (.Call (.Name "super" p0) [] [] p1) (PySem.W.ksEnv qual scope L f (.ref cda) cc))
      standAt apos.atName
      let (fn, first) ← holding [ov] (getMethod ov m pl)
      callWith pos fn first (backTo pos (starEach (e :: es) (PySem.W.ksEnv qual scope L f (.ref cda) cc))) []))
    (hst : ∀ L, starEach (e :: es) (PySem.W.ksEnv qual scope L f (.ref cda) cc) = (false, eval e (PySem.W.ksEnv qual scope L f (.ref cda) cc)) :: starEach es (PySem.W.ksEnv qual scope L f (.ref cda) cc))
    (hpl : ∀ L, (backTo pos (starEach es (PySem.W.ksEnv qual scope L f (.ref cda) cc))).any (·.1) = false) :
    FnOk P w K mg base CX (k + 1) f (PySem.W.ksFn name qual params (.Expr (.Call (.Attribute (.Call (.Name "super" p0) [] [] p1) m apos) (e :: es) [] pos) epos :: rest) scope dV kV doc pm an (.ref cda) ct cc) ps sp := by
  refine ⟨len, fun A outer s H args us vs Q E hr e0 hb r hsp => ?_⟩
  have hl := len _ _ _ _ hsp
  have KX : K.In s.heap := e0.mod.kin.keeps fun b o e => (e0.bs b o e).1
  have lim : s.heap.NoLimit := e0.mod.nolimit.keeps fun b o e => (e0.bs b o e).1
  obtain ⟨x, C, D, dx, f2, fs, vs', ta, u, spM, CX', E', rfl, hx, T, hta, FM, hpx, hrest, hq⟩ := hbody A outer s H vs Q E (hr.deeper _) hsp
  obtain ⟨cl, cld, csl, hcell⟩ := T.cell
  obtain ⟨ccl, cdd, cvs, ccs, file, tf, hcode, hvs, hfile⟩ := T.code
  obtain ⟨cdD, hD⟩ := T.clD
  refine PySem.ks_codeAny_call_defAt (binds := ps.zip us) hr.depth (KX _ _ lk) rfl lim (PySem.W.codeRec_of KX hcd) rfl hb S.nocell (fun y hy => S.par y.1 (List.of_mem_zip hy).1) (fun h1 hns hk => ?_) S.co S.gen S.kind
  have I : Inv (cxS CX P w K mg base N qual scope f (.ref cda) cc A outer s H E) [] (start N (.ref x :: vs')) H { s with heap := h1, toks := s.toks + (ps.zip us).length } :=
    inv_startS (vs := .ref x :: vs') S hr.hd e0 hl r hcell rfl hns hk
  have hX : K.In h1 := I.kIn
  obtain ⟨mA, O, _⟩ := ins_get I.hok hx
  obtain ⟨odx, J, _⟩ := O.look
  obtain ⟨oD, hD1, hD2⟩ : ∃ oD, h1.get? D = some oD ∧ oD.data = .cls cdD := by
    unfold PySem.W.clsIn at hD
    split at hD
    · rename_i c d cd' sl ho
      cases hD
      exact ⟨_, hX _ _ ho, rfl⟩
    · cases hD
  have hbase : ∀ b o, s.heap.get? b = some o → h1.get? b = some o := hk
  refine PySem.ks_wpAt_execs_cons (PySem.ks_wpAt_Expr_any (PySem.ks_wpAt_MethodCall (pl := pl) ?_ (he _)) (hi _) (hsw _))
  refine PySem.ks_wpAt_super_base (env := PySem.W.ksEnv qual scope s.heap.objs.size f (.ref cda) cc) hks hkc hmc rfl (hX _ _ lk) rfl hp0 rfl (hX _ _ hcode) rfl hvs hfile T.top ?_
  obtain ⟨mb, hb1, hb2⟩ := I.mod.blt
  refine PySem.W.ks_loadName_global S.kind hks (Calls.loadGlobal_builtin (env := PySem.W.ksEnv qual scope s.heap.objs.size f (.ref cda) cc) (I.mod.glob.keeps I.bk) T.sup (hb1.keeps I.bk) ((hb2 _ (by decide +kernel)).trans (show bootBuiltins "super" = some (.type "super") by first | rfl | kernel_rfl)) ⟨rfl, ?_⟩)
  refine wpAny_loadName_free S.kind hkc (by show List.lookup _ [_] = _; simp [List.lookup]) ⟨_, hX _ _ hcell, rfl⟩ ?_
  have hself : (ps.zip us).reverse.lookup ar.arg = some (.ref x) := by
    match ps, us, hps, r with
    | p :: ps', u' :: us', hp', .cons ru _ =>
      have hp'' : p = ar.arg := by simpa using hp'
      subst hp''
      cases (show u' = Value.ref x from ru)
      have ndP : (ar.arg :: ps').Nodup := by
        have := S.pre
        rw [← this]
        exact S.nd.sublist (List.take_sublist _ _)
      exact rev_lookup (i := 0) ndP rfl rfl
  refine wpAny_loadName_local S.kind har hns hself ?_
  refine PySem.ks_wpAny_isType_cls hD1 hD2 ⟨rfl, ?_⟩
  refine PySem.ks_wpAny_call_super hD1 hD2 J.at_ J.cls (fun c e => ?_) (PySem.W.looks_mroIn hX T.sub) (fun h' hso k' => ?_)
  · have := J.no
    unfold PySem.W.notCls at this
    rw [e] at this
    exact Bool.noConfusion this
  -- the super object is pinned
  have I1 : Inv (cxS CX P w K mg base N qual scope f (.ref cda) cc A outer s H E) [(h1.objs.size, PySem.W.ks_superObj D x C)] (start N (.ref x :: vs')) H { s with heap := h', toks := s.toks + (ps.zip us).length } :=
    ClX.pin_new (s := { s with heap := h1, toks := s.toks + (ps.zip us).length }) (t' := s.toks + (ps.zip us).length) I k' (Nat.le_refl _) hso (fun v z => nomatch z)
  have hX' : K.In h' := I1.kIn
  have fnd := T.fnd
  cases hc : PySem.W.clsIn K C with
  | none => unfold PySem.W.ks_superIn at fnd; rw [hc] at fnd; cases fnd
  | some cdC =>
    unfold PySem.W.ks_superIn at fnd
    rw [hc] at fnd
    obtain ⟨of, hof, hofc⟩ : ∃ of, h'.get? f2 = some of ∧ of.cls = .type "function" := by
      have ht' : (K.lookup f2).map (·.cls) = some (.type "function") := T.ty
      cases z : K.lookup f2 with
      | none => rw [z] at ht'; cases ht'
      | some of => rw [z] at ht'; exact ⟨of, hX' _ _ z, Option.some.inj ht'⟩
    refine PySem.ks_wpAny_getMethod_super (h := h') hso (PySem.W.looks_opaque hX' T.any) (l₀ := cdC.mro) ?_ rfl hX' fnd hof hofc (PySem.W.ks_ne hX J hc) hmc ?_
    · exact fun A Q E s k q => wpAny_bind ((PySem.W.looks_clsIn hX' hc) A _ E s k (wpAny_pure q))
    · have I2 := ClX.pin_new (s := { s with heap := h', toks := s.toks + (ps.zip us).length }) (o := PySem.W.methodObj (.ref f2) (.ref x)) (t' := s.toks + (ps.zip us).length + 1) I1 (fun _ _ z => Heap.get?_push_of_some _ z) (Nat.le_refl _) (Heap.get?_push_size h' rfl) (fun v z => nomatch z)
      refine ClX.callwith_cm (X := cxS CX P w K mg base N qual scope f (.ref cda) cc A outer s H E) I2 (ClX.base_none I1 (Nat.le_refl _)) T.fi (thn (hta.run pos _ _ _ H _ I2 hq) fun us2 s3 ⟨ws, H2, I3, rv, q2⟩ => ⟨⟨ClX.pin_at I3, I3.kIn⟩, ?_⟩) (hst _) (hpl _)
      refine thn (ClX.run_cm FM (hr.deeper _) hpx I3 rv q2) fun v s4 h4 => ?_
      obtain ⟨v4, H4, I4, _, q4⟩ := ClX.unpinE h4
      refine wpAt_of_wpAny (wpAny_mono (hrest.run [] s4 _ H4 _ I4 q4) (fun fl s' hs => ?_) fun e s' hs => hs)
      have fin : ∀ {σ' : L2.St} {H' : Hp} {v : V} {u : Value}, Inv (cxS CX P w K mg base N qual scope f (.ref cda) cc A outer s H E) [] σ' H' s' → RelV v u → Q v H' → CE outer P w H s Q u s' :=
        fun {σ' H' v u} J rv q => ⟨v, H', J.os, J.bare, J.base, J.hok, rv, q⟩
      cases fl with
      | ret u =>
        obtain ⟨v, σ', H', J, rv, q⟩ := hs
        exact fin J rv q
      | next =>
        obtain ⟨σ', H', J, q⟩ := hs
        exact fin (v := V.non) (u := Value.none) J rfl q
      | brk =>
        obtain ⟨_, _, _, q⟩ := hs
        exact False.elim q
      | cont =>
        obtain ⟨_, _, _, q⟩ := hs
        exact False.elim q
end
end Ls
end
section
set_option Elab.async false
set_option linter.all false
set_option maxRecDepth 100000
set_option maxHeartbeats 4000000
namespace LsN
open PySem PySem.SeqAt
open AutoSeq1 (wpAny_loadPart')
open MeetsSeq MeetsSeq2 MeetsSeq3 SeqRoads2
section
variable {prog : Program} {w : World} {A : Around} {R : Result → Shared → Prop}
theorem ne_loopG (l b : Addr) (N : Nat) (I : Nat → Shared → Prop) (hl : GQ.ListI prog w A (fun e s' => R (.error e) s') l b N I)
    (fin : ∀ s, I N s → R (.ok (.ret (.bool false))) s) (k : Nat) :
    ∀ i : Nat, N - i = k → i ≤ N → ∀ s, I i s →
      wpAny (model prog w) A.in1 (Builtin.«list.__eq__.loop» ⟨[.ref l, .ref b, rawInt i, rawInt 3], []⟩) (GQ.FinOf prog w A R) (fun e s' => R (.error e) s') s := by
  induction k with
  | zero =>
    intro i hk hi s h
    obtain ⟨items, items2, n, n2, hl1, hb1, hs1, hs2, _⟩ := hl _ _ h
    have hi' : i = N := by omega
    have hR : R (.ok (.ret (.bool false))) s := fin s (hi' ▸ h)
    obtain ⟨hp, g, d, tk, os⟩ := s
    wp_walk using wpAny_loadPart' hl1, wpAny_loadPart' hb1
    have hi1 : items[((i : Nat) : Int).toNat]? = none := by simp; omega
    have hi2 : items2[((i : Nat) : Int).toNat]? = none := by simp; omega
    rw [hi1, hi2]
    wp_walk using wpAny_loadPart' hl1, wpAny_loadPart' hb1
    show R (.ok (.ret (.bool (items.size != items2.size)))) _
    rw [hs1, hs2]
    simpa using hR
  | succ k ih =>
    intro i hk hi s h
    obtain ⟨items, items2, n, n2, hl1, hb1, hs1, hs2, turn⟩ := hl _ _ h
    have hlt : i < items.size := by omega
    have hlt2 : i < items2.size := by omega
    have ht := turn hlt hlt2
    obtain ⟨hp, g, d, tk, os⟩ := s
    wp_walk using wpAny_loadPart' hl1, wpAny_loadPart' hb1
    have hi1 : items[((i : Nat) : Int).toNat]? = some items[i] := by simp [hlt]
    have hi2 : items2[((i : Nat) : Int).toNat]? = some items2[i] := by simp [hlt2]
    have hc : ((i : Int) + 1) = ((i + 1 : Nat) : Int) := by omega
    rw [hi1, hi2]
    refine wpAny_bind (wpAny_mono ht (fun r s2 h2 => ?_) fun _ _ x => x)
    obtain ⟨hr, h2⟩ := h2
    subst hr
    have hrec := ih (i + 1) (by omega) (by omega) s2 h2
    obtain ⟨hp2, g2, d2, tk2, os2⟩ := s2
    wp_walk
    rw [hc]
    exact ⟨plainId_quiet plain_eq_loop _, codeAny_builtin entry_eq_loop (by
      rw [Around.under_plainId plain_eq_loop _]
      exact hrec)⟩
theorem list_neG (l b : Addr) (N : Nat) (I : Nat → Shared → Prop) (hl : GQ.ListI prog w A (fun e s' => R (.error e) s') l b N I)
    (fin : ∀ s, I N s → R (.ok (.ret (.bool false))) s) {s : Shared} (h : I 0 s) :
    wpAny (model prog w) A.in1 (Builtin.«list.__ne__» ⟨[.ref l, .ref b], []⟩) (GQ.FinOf prog w A R) (fun e s' => R (.error e) s') s := by
  obtain ⟨items, items2, n, n2, hl1, hb1, hs1, hs2, _⟩ := hl _ _ h
  have hrec := ne_loopG (A := A) (R := R) l b N I hl fin _ 0 rfl (Nat.zero_le _) s h
  obtain ⟨hp, g, d, tk, os⟩ := s
  have f3 := AutoSeq1.sub_list_list
  have hne : ¬ (items.size != items2.size) = true := by simp [hs1, hs2]
  wp_walk using wpAny_loadPart' hl1, wpAny_loadPart' hb1
  exact ⟨plainId_quiet plain_eq_loop _, codeAny_builtin entry_eq_loop (by
    rw [Around.under_plainId plain_eq_loop _]
    exact hrec)⟩
end
section
variable {prog : Program} {w : World} {A : Around} {E : Value → Shared → Prop} {s : Shared}
theorem rc_listNe {l b : Addr} {N : Nat} {Q : Value → Shared → Prop} (hu : A.units < cLine) (I : Nat → Shared → Prop) (hl : GQ.ListI prog w A E l b N I)
    (fin : ∀ s, I N s → Q (.bool false) s) (h : I 0 s) : wpAny (model prog w) A (richCompare .NotEq (.ref l) (.ref b)) Q E s := by
  obtain ⟨items, items2, n, n2, hl1, hb1, _, _, _⟩ := hl _ _ h
  refine wpAny_richCompare_same_room (op := .NotEq) ⟨_, hl1, rfl⟩ ⟨_, hb1, rfl⟩ F.slot_list_ne (GQ.call_here F.slot_list_ne ⟨_, hl1, rfl⟩ F.entry_list_ne (F.args_list_ne_2 _ _) ?_) hu
  exact list_neG (R := wants (fun v s' => v ≠ .notImplemented ∧ Q v s') E) l b N I hl (fun s' q => ⟨(fun x => nomatch x), fin s' q⟩) h
end
end LsN
namespace Ls
open PySem PySem.Spec PyProof.Rows L2
section
variable {X : Cx} {n : Nat} {D : Eqv}
/-- x != y of two lists whose items are equal (by ==, which only makes objects): False -/
def rNeG (D : Eqv) : R2 := fun x y H Q => DList D x y H ∧ ∀ H', Ext H H' → Q (.bl false) H'
theorem op_neG (hD : Mon D) (h : EqG X n D) (hr : Room (n + 1) X.A) : OpR X (compareOp .NotEq) (rNeG D) := by
  intro pins s σ H x y v u Q I rx ry hq
  obtain ⟨⟨a, b, xs, ys, rfl, rfl, ha, hb, p⟩, q⟩ := hq
  cases (show v = Value.ref a from rx)
  cases (show u = Value.ref b from ry)
  show wpAny (model X.prog X.w) X.A (richCompare .NotEq (.ref a) (.ref b)) (EP X pins σ Q) X.xe s
  have sb : L2.Sub X (n + 1) X.A := ⟨hr, rfl⟩
  refine LsN.rc_listNe (N := xs.length) hr.units0 (fun _ s' => LoopI X pins σ H s') (fun i s' q => ?_) (fun s' q' => ?_) ⟨H, I, Ext.rfl'⟩
  · obtain ⟨H1, I1, e1⟩ := id q
    obtain ⟨z, its, k, r, e⟩ := I1.hok a _ (e1 _ _ ha)
    obtain ⟨z2, its2, k2, r2, e2⟩ := I1.hok b _ (e1 _ _ hb)
    refine ⟨its.toArray, its2.toArray, k, k2, e, e2, by rw [List.size_toArray, ← r.length], by rw [List.size_toArray, ← r2.length, ← p.1], fun h1 h2 => ?_⟩
    exact turnG hD h sb p r r2 i h1 h2 s' q
  · obtain ⟨H', I', e'⟩ := q'
    exact ⟨.bl false, H', I', rfl, q H' e'⟩
end
end Ls
end
section
set_option Elab.async false
set_option linter.all false
set_option maxRecDepth 100000
set_option maxHeartbeats 4000000
namespace Ls
open PySem PySem.Spec PyProof.Rows L2

/-! ### callees in one word -/
section
variable (P : Program) (w : World) (K : PySem.W.Frag) (mg : Str → Option Value) (base : Heap) (CX : CXT) (k : Nat)
/-- the def under the module's name x keeps sp -/
structure Cal (x : Str) (sp : Sp) : Prop where
  ex : ∃ f, mg x = some (.ref f) ∧ PySem.W.keepIn K (.ref f) = true ∧ FnR P w K mg base CX k f sp
/-- .. called with one keyword -/
structure CalK (x a : Str) (sp : Sp) : Prop where
  ex : ∃ f fd, mg x = some (.ref f) ∧ PySem.W.keepIn K (.ref f) = true ∧ KBn K fd [a] 0 [a] (fun _ ws => ws) (fun _ zs => zs) ∧ FnOk P w K mg base CX k f fd [a] sp
/-- the class at C under the module's name x; its __init__ keeps sp -/
structure Mkc (C : Addr) (x : Str) (sp : Sp) : Prop where
  ex : ∃ f, mg x = some (.ref C) ∧ Mk K C f ∧ FnR P w K mg base CX k f sp
/-- the classmethod m of the class at C keeps sp -/
structure Clm (C : Addr) (m : Str) (sp : Sp) : Prop where
  ex : ∃ mc p g, ClX.CRead K C mc ∧ ClX.CMet K C mc m p g ∧ FnR P w K mg base CX k g sp
end
def tCl (sp : Sp) (E : XK) (t : TA) : TE := fun σ H Q => t σ H fun vs H1 => sp vs H1 Q E
section
variable {X : Cx} {CX : CXT} {k : Nat} {C : Addr} {sp : Sp} {E : XK} {x m a : Str} {p pos apos : Pos} {e o : PySem.Expr} {es : List PySem.Expr} {kws : List Keyword} {ta : TE} {t tk : TA} {pl : Sem Bool}
theorem pe_cal (c : Cal X.prog X.w X.K X.mg X.base CX k x sp) (hr : Room k X.A) (hg : Gl X x) (hx : Passes CX X E) (ha : PA X (e :: es) t) (hd : (x == ("__debug__" : Str)) = false := by decide)
    (he : starEach (e :: es) X.env = (false, eval e X.env) :: starEach es X.env := by rfl) (hpl : (backTo pos (starEach es X.env)).any (·.1) = false := by rfl) :
    PE X (.Call (.Name x p) (e :: es) [] pos) (tCl sp E t) := by
  obtain ⟨f, hm, hk, F⟩ := c.ex
  refine ⟨fun pins s σ H Q I h => ?_⟩
  refine wpAny_Call_Name_kw (ld_glob I hg hm ?_ hd)
  refine PySem.W.callWith_K (h₀ := X.base) I.ok.mod.kin hk (thn (ha.run pos pins s σ H _ I h) fun us s1 ⟨vs, H1, I1, r, q⟩ => ⟨I1.kIn, ?_⟩) he hpl
  exact wpAny_call (run_fnR F hr hx I1 r q)
theorem pe_calk (c : CalK X.prog X.w X.K X.mg X.base CX k x a sp) (hr : Room k X.A) (hg : Gl X x) (hx : Passes CX X E)
    (hkw : PK X kws tk) (hall : (backToKw pos (keywordEach kws X.env)).all (·.1.isSome) = true := by rfl) (hks : (backToKw pos (keywordEach kws X.env)).filterMap (·.1) = [a] := by rfl)
    (hdb : (x == ("__debug__" : Str)) = false := by decide)
    (hpl : ((backTo pos (starEach [] X.env)).any (·.1) || (backToKw pos (keywordEach kws X.env)).any (·.1.isNone)) = false := by rfl) :
    PE X (.Call (.Name x p) [] kws pos) (tCallN 0 1 sp (fun _ zs => zs) E tNil tk) := by
  obtain ⟨f, fd, hm, hk, hb, F⟩ := c.ex
  exact pe_callK0 F hr hg hm hk hb hx hkw hall hks hdb hpl
theorem pe_mkc (c : Mkc X.prog X.w X.K X.mg X.base CX k C x sp) (hr : Room (k + 1) X.A) (hg : Gl X x) (hx : Passes CX X E) (ha : PA X (e :: es) t) (hdb : (x == ("__debug__" : Str)) = false := by decide)
    (he : starEach (e :: es) X.env = (false, eval e X.env) :: starEach es X.env := by rfl) (hpl : (backTo pos (starEach es X.env)).any (·.1) = false := by rfl) :
    PE X (.Call (.Name x p) (e :: es) [] pos) (StX.tMakeR C sp E t) := by
  obtain ⟨f, hm, M, F⟩ := c.ex
  exact StX.pe_makeR M F hr hg hm hx ha hdb he hpl
theorem pe_clm (c : Clm X.prog X.w X.K X.mg X.base CX k C m sp) (hr : Room k X.A) (ho : PE X o ta) (hx : Passes CX X E) (ha : PA X (e :: es) t)
    (hst : starEach (e :: es) X.env = (false, eval e X.env) :: starEach es X.env := by rfl) (hpl : (backTo pos (starEach es X.env)).any (·.1) = false := by rfl)
    (ht : eval (.Call (.Attribute o m apos) (e :: es) [] pos) X.env = (do
      let ov ← eval o X.env
      standAt apos.atName
      let (f, first) ← holding [ov] (getMethod ov m pl)
      callWith pos f first (backTo pos (starEach (e :: es) X.env)) (backToKw pos (keywordEach [] X.env))) := by rfl) :
    PE X (.Call (.Attribute o m apos) (e :: es) [] pos) (ClX.tCMeth C sp E ta t) := by
  obtain ⟨mc, p, g, r, c, F⟩ := c.ex
  exact ClX.pe_cmeth (pl := pl) ho r c F hr hx ha hst hpl ht
end

theorem iteNo {c : Bool} {A B : Prop} (hc : c = false) (h : B) : if c = true then A else B := by rw [hc, if_neg Bool.false_ne_true]; exact h
theorem strNo {a b : Str} (h : ¬ a = b) : decide (V.str a = V.str b) = false := decide_eq_false fun e => h (V.str.inj e)
theorem iteYes {c : Bool} {A B : Prop} (hc : c = true) (h : A) : if c = true then A else B := by rw [hc, if_pos rfl]; exact h
/-! ### constants of the module -/
section
variable {X : Cx} {x z : Str} {i : Int} {tk : Tok} {a : Addr} {pos : Pos}
theorem pe_gstr (hg : Gl X x) (hm : X.mg x = some (.str z tk)) (hd : (x == ("__debug__" : Str)) = false := by decide) : PE X (.Name x pos) (tC (.str z)) := pe_glob hg hm ⟨_, rfl⟩ hd
theorem pe_gint (hg : Gl X x) (hm : X.mg x = some (.int i tk)) (hd : (x == ("__debug__" : Str)) = false := by decide) : PE X (.Name x pos) (tC (.int i)) := pe_glob hg hm ⟨_, rfl⟩ hd
theorem pe_gref (hg : Gl X x) (hm : X.mg x = some (.ref a)) (hd : (x == ("__debug__" : Str)) = false := by decide) : PE X (.Name x pos) (tC (.ref a)) := pe_glob hg hm rfl hd
theorem pe_gty {T : String} (hg : Gl X x) (hm : X.mg x = none) (hv : bootBuiltins x = some (.type T)) (hn : x ≠ "__name__" := by decide) (hd : (x == ("__debug__" : Str)) = false := by decide) : PE X (.Name x pos) (tC (.ty T)) := pe_bltn hg hm hv rfl hn hd
end

/-! ### what a dict's table says behind a store -/
theorem len_put {κ : Type} [DecidableEq κ] {kvs : List (κ × V)} {k : κ} {x v : V} (h : valV kvs k = some x) : (putK kvs k v).length = kvs.length := by
  unfold putK
  rw [valV_any, h]
  simp
theorem val_same {κ : Type} [DecidableEq κ] {kvs : List (κ × V)} {k : κ} {v : V} : valV (putK kvs k v) k = some v := by rw [valV_put, if_pos rfl]
theorem val_other {κ : Type} [DecidableEq κ] {kvs : List (κ × V)} {k j : κ} {v : V} {r : Option V} (hne : ¬ j = k) (h : valV kvs j = r) : valV (putK kvs k v) j = r := by rw [valV_put, if_neg hne]; exact h

/-! ### heaps that keep all but two objects -/
def Keep (p c : Addr) (H H' : Hp) : Prop := ∀ b o, H b = some o → b ≠ p → b ≠ c → H' b = some o
theorem Keep.refl {p c : Addr} {H : Hp} : Keep p c H H := fun _ _ e _ _ => e
theorem Keep.trans {p c : Addr} {H H1 H2 : Hp} (a : Keep p c H H1) (b : Keep p c H1 H2) : Keep p c H H2 := fun d o e h1 h2 => b d o (a d o e h1 h2) h1 h2
theorem Keep.upd1 {p c : Addr} {H : Hp} {o : HO} : Keep p c H (upd H p o) := fun b u e h1 _ => by rw [upd_ne h1]; exact e
theorem Keep.upd2 {p c : Addr} {H : Hp} {o : HO} : Keep p c H (upd H c o) := fun b u e _ h2 => by rw [upd_ne h2]; exact e
theorem Keep.ext {p c : Addr} {H H' : Hp} (e : Ext H H') : Keep p c H H' := fun b o h _ _ => e b o h
theorem Keep.new {p c a : Addr} {H : Hp} {o : HO} (h : H a = none) : Keep p c H (upd H a o) := Keep.ext (Ext.upd h)

/-! ### rules within a comprehension's block: the written part by its own name -/
section
variable {X : Cx} {K : PySem.W.Frag}
theorem pi_listK {tg l : PySem.Expr} {tl : TE} (hK : X.K = K) (hl : PE X l tl) : PI X tg l (iList K tl) := by subst hK; exact pi_list hl
theorem pi_tupK {tg l : PySem.Expr} {tl : TE} (hK : X.K = K) (hl : PE X l tl) : PI X tg l (iTup K tl) := by subst hK; exact pi_tup hl
def rTupOf (K : PySem.W.Frag) : List V → Hp → VK → Prop := fun xs H Q => ∃ p ys, xs = [.ref p] ∧ ((SqL K H p ys ∧ ∀ l, H l = none → Q (.ref l) (upd H l (.tup ys))) ∨ (SqT K H p ys ∧ Q (.ref p) H))
theorem call_tupK (hK : X.K = K) : CallR X (.type "tuple") (rTupOf K) := by subst hK; exact call_tuple_of
def rLenSeq (K : PySem.W.Frag) : List V → Hp → VK → Prop := fun xs H Q => ∃ p ys, xs = [.ref p] ∧ (SqL K H p ys ∨ SqT K H p ys) ∧ Q (.int ys.length) H
theorem call_lenK (hK : X.K = K) : CallR X (.builtin "len") (rLenSeq K) := by subst hK; exact call_len_seq
theorem call_isiB (hK : X.K = K) : CallR X (.builtin "isinstance") (rIsi K) := by subst hK; exact call_isi
def rJoinK (K : PySem.W.Frag) : V → List V → Hp → VK → Prop := fun x xs H Q => ∃ a p, ∃ ys : List Str, x = .str a ∧ xs = [.ref p] ∧ (SqL K H p (ys.map V.str) ∨ SqT K H p (ys.map V.str)) ∧ (ys.map (·.length)).sum + ys.length * a.length ≤ 16777216 ∧ Q (.str (Txt.join a ys)) H
theorem pe_joinK {o e : PySem.Expr} {to te : TE} {apos pos : Pos} (hK : X.K = K) (ho : PE X o to) (he : PE X e te) (hs : starEach [e] X.env = [(false, eval e X.env)] := by rfl) (hbase : attributeBase o "join" X.env (eval o X.env) = eval o X.env := by rfl) (hline : (apos.endLine == pos.line) = true := by rfl) :
    PE X (.Call (.Attribute o "join" apos) [e] [] pos) (tM1 (rJoinK K) to te) := by subst hK; exact pe_join ho he hs hbase hline
end

/-! ### a list beside [] -/
def rNeNil : R2 := fun x y H Q => ∃ a b xs, x = .ref a ∧ y = .ref b ∧ H a = some (.lst xs) ∧ H b = some (.lst []) ∧ Q (.bl (!xs.isEmpty)) H
def rEqNil : R2 := fun x y H Q => ∃ a b xs, x = .ref a ∧ y = .ref b ∧ H a = some (.lst xs) ∧ H b = some (.lst []) ∧ Q (.bl xs.isEmpty) H
section
variable {X : Cx}
theorem op_neNil {k : Nat} (hr : Room k X.A) : OpR X (compareOp .NotEq) rNeNil := by
  intro pins s σ H x y v u Q I rx ry hq
  obtain ⟨a, b, xs, rfl, rfl, ha, hb, q⟩ := hq
  cases (show v = Value.ref a from rx)
  cases (show u = Value.ref b from ry)
  show wpAny (model X.prog X.w) X.A (richCompare .NotEq (.ref a) (.ref b)) (EP X pins σ Q) X.xe s
  obtain ⟨its, r, p1, _⟩ := I.list (SqL.of (K := X.K) ha)
  obtain ⟨its2, r2, p2, _⟩ := I.list (SqL.of (K := X.K) hb)
  cases r2
  cases r with
  | nil => exact SeqAt.RcNeAt.lists (e := fun _ => true) p1.isList p2.isList rfl hr.units0 (fun j h1 _ => absurd h1 (by simp)) X.prog X.w X.xe _ ⟨.bl false, H, I, rfl, q⟩
  | cons r0 r1 => exact SeqAt.RcNeAt.lists_lengths p1.isList p2.isList (by simp) hr.units0 X.prog X.w X.xe _ ⟨.bl true, H, I, rfl, q⟩
theorem op_eqNil {k : Nat} (hr : Room k X.A) : OpR X (compareOp .Eq) rEqNil := by
  intro pins s σ H x y v u Q I rx ry hq
  obtain ⟨a, b, xs, rfl, rfl, ha, hb, q⟩ := hq
  cases (show v = Value.ref a from rx)
  cases (show u = Value.ref b from ry)
  show wpAny (model X.prog X.w) X.A (richCompare .Eq (.ref a) (.ref b)) (EP X pins σ Q) X.xe s
  obtain ⟨its, r, p1, _⟩ := I.list (SqL.of (K := X.K) ha)
  obtain ⟨its2, r2, p2, _⟩ := I.list (SqL.of (K := X.K) hb)
  cases r2
  cases r with
  | nil => exact SeqAt.RcAt.lists (e := fun _ => true) p1.isList p2.isList rfl hr.units0 (fun j h1 _ => absurd h1 (by simp)) X.prog X.w X.xe _ ⟨.bl true, H, I, rfl, q⟩
  | cons r0 r1 => exact SeqAt.RcAt.lists_lengths p1.isList p2.isList (by simp) hr.units0 X.prog X.w X.xe _ ⟨.bl false, H, I, rfl, q⟩
end
end Ls
end
section
set_option Elab.async false
set_option linter.all false
set_option maxRecDepth 100000
set_option maxHeartbeats 4000000
namespace Ls
open PySem PySem.Spec PyProof.Rows L2

/-! ### parts of a heap -/
/-- what is new in H' beside H -/
def nw (H H' : Hp) : Hp := fun b => match H b with | none => H' b | some _ => none
theorem nw_at {H H' : Hp} {b : Addr} (h : H b = none) : nw H H' b = H' b := by unfold nw; rw [h]
theorem nw_some {H H' : Hp} {b : Addr} {o : HO} (h : nw H H' b = some o) : H b = none ∧ H' b = some o := by
  unfold nw at h
  cases e : H b with
  | none => rw [e] at h; exact ⟨rfl, h⟩
  | some u => rw [e] at h; cases h
theorem nw_ext {H H' : Hp} : Ext (nw H H') H' := fun a o e => (nw_some e).2
/-- new beside H1, where H1 has grown from H: new beside H -/
theorem nw_back {H H1 H2 : Hp} (e : Ext H H1) : Ext (nw H1 H2) (nw H H2) := fun a o h => by
  obtain ⟨h1, h2⟩ := nw_some h
  have : H a = none := by
    cases q : H a with
    | none => rfl
    | some u => rw [e a u q] at h1; cases h1
  rw [nw_at this]; exact h2
theorem nw_more {H H1 H2 : Hp} (e : Ext H1 H2) : Ext (nw H H1) (nw H H2) := fun a o h => by
  obtain ⟨h1, h2⟩ := nw_some h
  rw [nw_at h1]; exact e a o h2
/-- H without the objects at S -/
def hid (S : List Addr) (H : Hp) : Hp := fun b => if b ∈ S then none else H b
theorem hid_at {S : List Addr} {H : Hp} {b : Addr} (h : b ∉ S) : hid S H b = H b := by unfold hid; rw [if_neg h]
theorem hid_some {S : List Addr} {H : Hp} {b : Addr} {o : HO} (h : hid S H b = some o) : b ∉ S ∧ H b = some o := by
  unfold hid at h
  by_cases e : b ∈ S
  · rw [if_pos e] at h; cases h
  · rw [if_neg e] at h; exact ⟨e, h⟩
theorem hid_ext {S : List Addr} {H : Hp} : Ext (hid S H) H := fun a o e => (hid_some e).2
theorem hid_nil {H : Hp} : hid [] H = H := by funext b; unfold hid; simp
theorem hid_mono {S : List Addr} {H H' : Hp} (e : Ext H H') : Ext (hid S H) (hid S H') := fun a o h => by
  obtain ⟨h1, h2⟩ := hid_some h
  rw [hid_at h1]; exact e a o h2
/-- a fresh place more is hidden -/
theorem hid_cons {S : List Addr} {H : Hp} {D : Addr} (h : H D = none) : Ext (hid S H) (hid (D :: S) H) := fun a o e => by
  obtain ⟨h1, h2⟩ := hid_some e
  have : a ≠ D := ne_of_none h2 h
  rw [hid_at (by simp [this, h1])]; exact h2
theorem hid_less {S S' : List Addr} {H : Hp} (h : ∀ b ∈ S', b ∈ S) : Ext (hid S H) (hid S' H) := fun a o e => by
  obtain ⟨h1, h2⟩ := hid_some e
  rw [hid_at fun z => h1 (h a z)]; exact h2
theorem hid_upd {S : List Addr} {H : Hp} {D : Addr} {o : HO} (h : D ∈ S) : hid S (upd H D o) = hid S H := by
  funext b
  unfold hid
  by_cases e : b ∈ S
  · rw [if_pos e, if_pos e]
  · rw [if_neg e, if_neg e, upd_ne (show b ≠ D from fun z => e (by rw [z]; exact h))]
theorem hid_upd_new {S : List Addr} {H : Hp} {a : Addr} {o : HO} (h : H a = none) : Ext (hid S H) (hid S (upd H a o)) := hid_mono (Ext.upd h)
/-- what is new beside H lies outside of what stood -/
theorem nw_hid {S : List Addr} {H H' : Hp} (h : ∀ b ∈ S, H b ≠ none) : Ext (nw H H') (hid S H') := fun a o e => by
  obtain ⟨h1, h2⟩ := nw_some e
  rw [hid_at fun z => h a z h1]; exact h2
theorem hid_keep {p c : Addr} {H H' : Hp} (k : Keep p c H H') : Ext (hid [p, c] H) (hid [p, c] H') := fun a o e => by
  obtain ⟨h1, h2⟩ := hid_some e
  rw [hid_at h1]
  exact k a o h2 (fun z => h1 (by simp [z])) fun z => h1 (by simp [z])

theorem hid_keepS {p c : Addr} {S : List Addr} {H H' : Hp} (k : Keep p c H H') (hp : p ∈ S) (hc : c ∈ S) : Ext (hid S H) (hid S H') := fun a o e => by
  obtain ⟨h1, h2⟩ := hid_some e
  rw [hid_at h1]
  exact k a o h2 (fun z => h1 (by rw [z]; exact hp)) fun z => h1 (by rw [z]; exact hc)
theorem Ext.at' {S : List Addr} {H H' : Hp} (e : Ext (hid S H) (hid S H')) {a : Addr} {o : HO} (h : a ∉ S) (q : H a = some o) : H' a = some o := (hid_some (e a o (by rw [hid_at h]; exact q))).2

/-! ### a comprehension that makes one item a turn: R tells what the items are, in the heap without S -/
section
variable {J : It} {n : Nat} {G : Hp → Prop} {Y : Nat → Hp → V → Hp → Prop} {g : TG} {te : TE} {vs : List Nat} {σ : L2.St} {H1 : Hp} {D : Addr} {Qd : Hp → Prop}
theorem lc_map (w : Walk J n G Y) (S : List Addr) (hS : D ∈ S) (Iv : Hp → Prop) (R : Nat → V → Hp → Prop) (hn : n ≤ 100000) (hm : ∀ j y H H', Ext H H' → R j y H → R j y H')
    (hIv : ∀ H o, Iv H → Iv (upd H D o)) (h0 : Iv (upd H1 D (.lst []))) (hG : ∀ H, Ext (hid S H1) (hid S H) → Iv H → G H)
    (hs : ∀ i x H H' acc (C : VK), i < n → Ext (hid S H1) (hid S H) → Iv H → H D = some (.lst acc) → Y i H x H' → (∀ y H4, H4 D = some (.lst acc) → Ext (hid S H) (hid S H4) → Iv H4 → R i y (hid S H4) → C y H4) →
      g x (wipe σ vs) H' fun σ2 H2 => wipe σ2 vs = wipe σ vs ∧ te σ2 H2 C)
    (hd : ∀ H ys, Ext (hid S H1) (hid S H) → Iv H → H D = some (.lst ys) → ys.length = n → (∀ j y, ys[j]? = some y → R j y (hid S H)) → Qd H) :
    ∃ W : Nat → Nat → Hp → Prop, (∃ m, W 0 m (upd H1 D (.lst []))) ∧ ∀ i m H, W i m H →
      (J.stop i H ∧ Qd H) ∨ (J.go i H ∧ ∃ Nx : Hp → Prop, (∀ H', Nx H' → ∃ m', m' < m ∧ W (i + 1) m' H') ∧ ∀ x H', J.yld i H x H' → g x (wipe σ vs) H' fun σ2 H2 => wipe σ2 vs = wipe σ vs ∧ tYes σ2 H2 fun b H3 =>
        if b = true then te σ2 H3 fun y H4 => ∃ acc, H4 D = some (.lst acc) ∧ acc.length < sizeLine ∧ Nx (upd H4 D (.lst (acc ++ [y]))) else Nx H3) := by
  refine lc_it w (fun i H => ∃ ys : List V, H D = some (.lst ys) ∧ ys.length = i ∧ Ext (hid S H1) (hid S H) ∧ Iv H ∧ ∀ j y, ys[j]? = some y → R j y (hid S H))
    ⟨[], upd_same, rfl, by rw [hid_upd hS]; exact Ext.rfl', h0, fun j y e => by simp at e⟩ (fun i H _ ⟨_, _, _, e, iv, _⟩ => hG H e iv) ?_ ?_
  · rintro i x H H' hi ⟨ys, hD, hl, e, iv, r⟩ y
    refine hs i x H H' ys _ hi e iv hD y fun v H4 h4 e4 iv4 r4 => ?_
    refine ⟨ys, h4, Nat.lt_of_le_of_lt (show ys.length ≤ 100000 by omega) (by decide), ys ++ [v], upd_same, by rw [List.length_append, hl]; rfl, by rw [hid_upd hS]; exact e.trans e4, hIv _ _ iv4, fun j z hz => ?_⟩
    rw [hid_upd hS]
    by_cases hj : j < ys.length
    · rw [List.getElem?_append_left hj] at hz
      exact hm j z _ _ e4 (r j z hz)
    · rw [List.getElem?_append_right (by omega)] at hz
      have : j = i := by
        cases q : j - ys.length with
        | zero => omega
        | succ k => rw [q] at hz; simp at hz
      subst this
      rw [hl] at hz
      simp at hz
      subst hz
      exact r4
  · rintro H ⟨ys, hD, hl, e, iv, r⟩
    exact hd H ys e iv hD hl r
end
end Ls
end
section
set_option Elab.async false
set_option linter.all false
set_option maxRecDepth 100000
set_option maxHeartbeats 4000000
namespace Ls
open PySem PySem.Spec PyProof.Rows L2

/-! ### an exception that is kept as a value -/
/-- at a: an exception of the class cls, its dict at d -/
def exk (a : Addr) (cls : Value) (d : Option Addr) : HO := .ext fun h => ∃ (oe : Obj) (vs : Array Value), h.get? a = some oe ∧ Zc cls d oe ∧ oe.data = .fields vs
theorem exk_ok {P : Program} {w : World} {H : Hp} {h : Heap} {a : Addr} {cls : Value} {d : Option Addr} {oe : Obj} {vs : Array Value} (e : h.get? a = some oe) (z : Zc cls d oe) (q : oe.data = .fields vs) : ObjOk P w H h a (exk a cls d) :=
  ⟨⟨oe, vs, e, z, q⟩, ⟨oe, e⟩, fun _ _ ⟨o, v, q, r⟩ k => ⟨o, v, k o q, r⟩⟩
theorem exk_at {P : Program} {w : World} {H : Hp} {h : Heap} {a : Addr} {cls : Value} {d : Option Addr} (hok : HOk P w H h) (e : H a = some (exk a cls d)) : ∃ (oe : Obj) (vs : Array Value), h.get? a = some oe ∧ Zc cls d oe ∧ oe.data = .fields vs := by
  have x : ObjOk P w H h a (.ext fun h => ∃ (oe : Obj) (vs : Array Value), h.get? a = some oe ∧ Zc cls d oe ∧ oe.data = .fields vs) := hok a _ e
  exact x.1
section
variable {X : Cx} {pins : List (Addr × Obj)} {σ : L2.St} {H : Hp} {s : Shared}
/-- an object that stands and is not known from before is tracked from now on -/
theorem inv_track {a : Addr} {o : HO} (I : Inv X pins σ H s) (hn : H a = none) (h0 : X.s_0.heap.get? a = none) (hl : a ≠ X.env.locals) (hc : ∀ x c, X.env.cells.lookup x = some c → c ≠ a) (hp : ∀ p ∈ X.pn ++ pins, p.1 ≠ a)
    (new : ObjOk X.prog X.w (upd H a o) s.heap a o) : Inv X pins σ (upd H a o) s := by
  have n0 : ∀ b u, X.s_0.heap.get? b = some u → b ≠ a := fun b u e z => by
    rw [z, h0] at e
    cases e
  refine ⟨I.ok, I.os, I.bare, ⟨I.base.keep, I.base.slot, fun b u e n hq => ?_, I.base.there, fun b xs e => ?_, fun b u v e => ?_, fun b ps e => ?_⟩, I.loc, I.cell, ?_, fun x c e => ?_, fun p q => ?_, I.hok.laidN (fun _ _ z => z) hn new, I.len⟩
  · rw [upd_ne (n0 b u e)]
    exact I.base.free b u e n hq
  · have q := I.base.tups b xs e
    rw [upd_ne (ne_of_none q hn)]
    exact q
  · have q := I.base.frzs b u v e
    rw [upd_ne (ne_of_none q hn)]
    exact q
  · obtain ⟨m, q⟩ := I.base.tbls b ps e
    exact ⟨m, by rw [upd_ne (ne_of_none q hn)]; exact q⟩
  · rw [upd_ne (Ne.symm hl)]
    exact I.free
  · rw [upd_ne (hc x c e)]
    exact I.freeC x c e
  · obtain ⟨z1, z2, z3⟩ := I.pin p q
    exact ⟨z1, by rw [upd_ne (hp p q)]; exact z2, z3⟩
theorem inv_suite0 (I : Inv X pins σ H s) (a : Addr) : Inv (X.suite a (X.pn ++ pins)) [] σ H s :=
  ⟨I.ok.suite _ _, I.os, I.bare, I.base, I.loc, I.cell, I.free, I.freeC, fun p hp => I.pin p (by rw [List.append_nil] at hp; exact hp), I.hok, I.len⟩
theorem inv_unsuite0 {a : Addr} {pn' : List (Addr × Obj)} (I : Inv (X.suite a (X.pn ++ pins)) pn' σ H s) (ok : X.Ok) : Inv X pins σ H s :=
  ⟨ok, I.os, I.bare, I.base, I.loc, I.cell, I.free, I.freeC, fun p hp => I.pin p (List.mem_append_left _ hp), I.hok, I.len⟩
end
/-- what the clause 'except x as n' wishes, the exception tracked in the suite and behind it -/
def wAsk (K : PySem.W.Frag) (c : Value) (i : Nat) (ts : TS) (Wout : WX) (D : Ends) : WX := fun cls d σ H =>
  ∃ b, PySem.W.exmOne K cls c = some b ∧ (b = true → ∀ a, H a = none → ts { nx := fun σ' H' => D.nx (σ'.set i none) H', rt := D.rt, bk := fun σ' H' => D.bk (σ'.set i none) H', ct := fun σ' H' => D.ct (σ'.set i none) H' } (σ.set i (some (.ref a))) (upd H a (exk a cls d))) ∧
    (b = false → Wout cls d σ H)
section
variable {X : Cx} {x n : Str} {c : Value} {i : Nat} {body suite : List Stmt} {b₀ : Stmt} {np pos pos' : Pos} {tb : WX → TS} {ts : TS} {Wout : WX}
theorem ps_try_ask (hs : X.stack = X.env :: X.outer) (hf : X.env.frame = some X.env.locals) (hN : X.N.Nodup) (hi : X.N[i]? = some n) (hln : X.env.kindOf n = some .local) (hc : Names X x c) (tk : Takes X Wout) (hx : X.ex = [])
    (hb : ∀ (W : WX) (pn : List (Addr × Obj)) (xe : Value → Shared → Prop), Takes (X.tr pn xe) W → PassesOwn (model X.prog X.w) X.A X.env xe → PSs (X.tr pn xe) body (tb W))
    (hsu : ∀ (a : Addr) (pn : List (Addr × Obj)), PSs (X.suite a pn) (b₀ :: suite) ts) :
    PS X (.Try body [.ExceptHandler (some (.Name x np)) (some n) (b₀ :: suite) pos'] [] [] pos) (fun D σ H => tb (wAsk X.K c i ts Wout D) D σ H) := by
  refine ⟨fun pins s σ H D I h => ?_⟩
  have ok := I.ok
  have hfr : X.A.frames = some (X.env :: X.outer) := by rw [ok.frames, hs]
  refine wpAny_Try_except ?_
  refine wpAny_mono ((hb (wAsk X.K c i ts Wout D) (X.pn ++ pins) (fun e s₁ => wpAny (model X.prog X.w) X.A (noteFrame e X.env) (fun _ s₂ => wpAny (model X.prog X.w) X.A (setFlight e none) (fun _ s₃ =>
    wpAny (model X.prog X.w) X.A (handleBy e X.env [.ExceptHandler (some (.Name x np)) (some n) (b₀ :: suite) pos']) (SP X pins D) X.xe s₃) X.xe s₂) X.xe s₁) (fun u s' xx => ?_) PassesOwn.looking).run [] s σ H D (I.toTry _) h) (fun f s1 hsp => ?_) (fun e s1 he => he)
  · obtain ⟨a, B, sI, pins', σ', H', cls, d, rfl, J', nb, up, sky, na, os, ag, b, hb1, hyes, hno⟩ := xx
    have J : Inv X pins σ' H' sI := J'.ofTry ok
    have sky' : Sky B (X.env :: X.outer) a (Zc cls d) X.env.locals s'.heap := by rw [← hs]; exact sky
    show wpAny (model X.prog X.w) X.A (noteFrame (.ref a) X.env) _ _ _
    refine Sky.land Zc.steady hfr hf sky' fun h3 fl3 up3 => ?_
    have J3 : Inv X pins σ' H' { s' with heap := h3 } := J.landed nb fl3.1 (up.trans up3) os ag
    obtain ⟨oe3, vs3, he3, hz3, hd3⟩ := fl3.there
    have nfr : a ∉ frs (X.env :: X.outer) := fun hm => by
      obtain ⟨_, o', e', hnf⟩ := fl3.2.2.1.mem hm
      rw [he3] at e'
      cases e'
      exact hnf _ hd3
    have nL : a ≠ X.env.locals := fun z => nfr (List.mem_filterMap.mpr ⟨X.env, List.mem_cons_self, by rw [hf, z]⟩)
    have nI : sI.heap.get? a = none := by
      cases q : sI.heap.get? a with
      | none => rfl
      | some o =>
        have z := nb a o q (by rw [hs]; exact nfr)
        rw [fl3.2.1] at z
        cases z
    have hexe : ∀ b o, X.s_0.heap.get? b = some o → b ∈ X.ex → False := fun b o e hb => by
      rw [hx] at hb
      cases hb
    have n0 : X.s_0.heap.get? a = none := by
      cases q : X.s_0.heap.get? a with
      | none => rfl
      | some o =>
        obtain ⟨o', z⟩ := J.base.there a o q (fun z => hexe a o q z)
        rw [nI] at z
        cases z
    have LT : PySem.W.Looks (model X.prog X.w) h3 (typeOf (.ref a)) cls := fun A Q E s k q => wpAny_typeOf_ref (k _ _ he3) (by rw [hz3.1]; exact q)
    have LM := PySem.W.exm_one (M := model X.prog X.w) (J3.kIn) LT hb1
    have S3 := inv_suite0 J3 a
    refine wpAny_handleBy_cons (codeAny_handlers_test ?_) (by intro q; cases q)
    have test : ∀ {Q : Value → Shared → Prop} {E : Value → Shared → Prop}, Q c { s' with heap := h3 } → wpAny (model X.prog X.w) (X.A.mark (some (.ref a))) (eval (.Name x np) X.env) Q E { s' with heap := h3 } := fun {Q E} q => by
      obtain ⟨hg, hdbg, hm | ⟨hm, hv, hnn⟩⟩ := hc
      · exact ld_glob (X := X.suite a (X.pn ++ pins)) S3 hg hm q hdbg
      · exact ld_blt (X := X.suite a (X.pn ++ pins)) S3 hg hm hv q hnn hdbg
    refine test (LM.here ?_)
    cases b with
    | true =>
      refine codeAny_handlers_suite_as ?_
      refine HandSPX.lands_againZ fl3 fun h4 fl4 up4 => ?_
      have J4 : Inv X pins σ' H' { s' with heap := h4 } := J.landed nb fl4.1 ((up.trans up3).trans up4) os ag
      obtain ⟨oe4, vs4, he4, hz4, hd4⟩ := fl4.there
      have T4 : Inv X pins σ' (upd H' a (exk a cls d)) { s' with heap := h4 } := inv_track J4 na n0 nL (fun y c e z => by
          obtain ⟨v, o, ho, _⟩ := J.cell y c e
          rw [z, nI] at ho
          cases ho) (fun p hp z => by
          have q := (J.pin p hp).1
          rw [z, nI] at q
          cases q) (exk_ok he4 hz4 hd4)
      have S4 := inv_suite0 T4 a
      refine store_ok (X := X.suite a (X.pn ++ pins)) (v := .ref a) S4 hN hi (.inl hln) rfl (fun s5 S5 => ?_) (.inr hln)
      refine wpAny_mono ((hsu a (X.pn ++ pins)).run [] s5 _ _ _ S5 (hyes rfl a na)) (fun f s6 hsp => ?_) (fun _ _ z => False.elim z)
      have fin : ∀ {σ6 : L2.St} {H6 : Hp} {Q : Shared → Prop}, Inv (X.suite a (X.pn ++ pins)) [] σ6 H6 s6 → (∀ s7, Inv X pins (σ6.set i none) H6 s7 → Q s7) →
          wpAny (model X.prog X.w) X.A (do bindName X.env n .none; unbindBehindTheSuite X.env n pos') (fun _ s7 => Q s7) X.xe s6 := fun {σ6 H6 Q} S6 hq => gone_ok (inv_unsuite0 S6 ok) hN hi hln hq
      cases f with
      | next =>
        obtain ⟨σ6, H6, S6, q6⟩ := hsp
        exact fin S6 fun s7 J7 => ⟨_, _, J7, q6⟩
      | brk =>
        obtain ⟨σ6, H6, S6, q6⟩ := hsp
        exact fin S6 fun s7 J7 => ⟨_, _, J7, q6⟩
      | cont =>
        obtain ⟨σ6, H6, S6, q6⟩ := hsp
        exact fin S6 fun s7 J7 => ⟨_, _, J7, q6⟩
      | ret u =>
        obtain ⟨v6, σ6, H6, S6, r6, q6⟩ := hsp
        exact fin S6 fun s7 J7 => ⟨_, _, _, J7, r6, q6⟩
    | false =>
      show wpAny _ X.A (handleBy (.ref a) X.env []) _ _ _
      refine wpAny_handleBy_nil ?_
      obtain ⟨k1, k2, k3, oe, vs, T, oT, ts', he, hz, hd, h1, hr⟩ := id fl3
      unfold PySem.passOn
      refine wpAny_bind (wpAny_field he hd h1 ?_)
      rw [if_neg (show ¬ ((Value.ref T == Value.none) = true) from by simp)]
      have last : wpAny (model X.prog X.w) X.A (setFlight (.ref a) X.env.frame) (fun _ s4 => wpAny (model X.prog X.w) X.A (throw (.ref a) : Sem Flow) (SP X pins D) X.xe s4) X.xe { s' with heap := h3 } := by
        rw [hf]
        refine HandSPX.setFlight_upZ fl3 fun h4 hh4 up4 => wpAny_throw (tk _ _ ?_)
        exact ⟨a, B, sI, pins, σ', H', cls, d, rfl, J, nb, (up.trans up3).trans up4, .inr (.inr (by rw [hs]; exact hh4)), na, os, ag, hno rfl⟩
      first
        | exact wpAny_bind (wpAny_pure (wpAny_bind last))
        | exact wpAny_bind last
  · cases f with
    | next =>
      obtain ⟨σ', H', J', q⟩ := hsp
      exact wpAny_execs_nil ⟨σ', H', J'.ofTry ok, q⟩
    | brk =>
      obtain ⟨σ', H', J', q⟩ := hsp
      exact ⟨σ', H', J'.ofTry ok, q⟩
    | cont =>
      obtain ⟨σ', H', J', q⟩ := hsp
      exact ⟨σ', H', J'.ofTry ok, q⟩
    | ret u =>
      obtain ⟨v, σ', H', J', r, q⟩ := hsp
      exact ⟨v, σ', H', J'.ofTry ok, r, q⟩
end

/-! ### C(..) as a value; isinstance and fields of a kept exception -/
section
variable {X : Cx} {e : Expr}
theorem pe_mkx {t : L2.St → Hp → XK → Prop} (h : PMk X e t) : PE X e (fun σ H Q => t σ H fun cls d H' => ∀ a, H' a = none → Q (.ref a) (upd H' a (exk a cls d))) := by
  refine ⟨fun pins s σ H Q I hh => ?_⟩
  refine wpAny_mono (h pins s σ H _ I hh) (fun u s1 hu => ?_) fun _ _ x => x
  obtain ⟨a, oe, vs, sI, H', cls, d, rfl, J, k, hne, ha, hz, hd, h1, na, os, ag, r, q⟩ := hu
  have J2 : Inv X pins σ H' { sI with heap := sI.heap, gens := s1.gens, drawn := s1.drawn, toks := s1.toks } := J.call (ch := []) (Un.kept fun _ _ z => z) J.hok ag (fun _ z => nomatch z)
  have J3 := J2.laidN (h' := s1.heap) (a := a) (o := exk a cls d) (t' := s1.toks) k hne na (exk_ok ha hz hd)
  obtain ⟨a1, a2, a3, a4, a5⟩ := s1
  have e5 : a5 = sI.os := os
  subst e5
  exact ⟨.ref a, _, J3, rfl, q a na⟩
/-- isinstance(e, c), e a kept exception -/
def rIsX (K : PySem.W.Frag) : List V → Hp → VK → Prop := fun xs H Q => ∃ (a D : Addr) (d : Option Addr) (c : V) (cv : Value) (b : Bool), xs = [.ref a, c] ∧ H a = some (exk a (.ref D) d) ∧ ExcC K D ∧ (∀ dd, d = some dd → ∃ fs, H dd = some (.xd fs)) ∧ (∀ u, RelV c u → u = cv) ∧ PySem.W.kitOne K (.ref D) cv = some b ∧ Q (.bl b) H
theorem inst_of {pins : List (Addr × Obj)} {σ : L2.St} {H : Hp} {s : Shared} {a D : Addr} {d : Option Addr} (I : Inv X pins σ H s) (ea : H a = some (exk a (.ref D) d)) (hd : ∀ dd, d = some dd → ∃ fs, H dd = some (.xd fs)) : ∃ oe od, PySem.W.InstAt s.heap a oe D od := by
  obtain ⟨oe, vs, ho, hz, hv⟩ := exk_at I.hok ea
  cases d with
  | none =>
    refine ⟨oe, none, ?_⟩
    obtain ⟨oc, od, oda, osl⟩ := oe
    obtain ⟨h1, h2⟩ := hz
    dsimp only at h1 h2 hv
    subst h1 h2 hv
    exact ⟨ho, rfl, rfl, trivial⟩
  | some dd =>
    obtain ⟨fs, ed⟩ := hd dd rfl
    obtain ⟨mA, hns, hr⟩ := (show ObjOk X.prog X.w H s.heap dd (.xd fs) from I.hok dd _ ed)
    obtain ⟨od, hod, hl⟩ := lookIn_ns hns
    exact ⟨oe, some od, ho, hz.1, by unfold PySem.W.notCls; rw [hv] <;> rfl, by rw [hz.2]; exact hod⟩
theorem call_isX : CallR X (.builtin "isinstance") (rIsX X.K) := by
  intro pins s σ H xs us Q I r h
  obtain ⟨a, D, d, c, cv, b, rfl, ea, C, hd, hcv, e, q⟩ := h
  obtain ⟨u1, u2, rfl, r1, r2⟩ := vals2 r
  cases (show u1 = Value.ref a from r1)
  have ec := hcv _ r2
  subst ec
  obtain ⟨oe, od, J⟩ := inst_of I ea hd
  have hcl : (PySem.W.clsIn X.K D).isSome = true := by
    obtain ⟨cd, hc, _⟩ := PySem.W.any_some C.hd
    rw [hc]
    rfl
  exact PySem.W.kia_one (PySem.W.kitx_exc hcl C.hg C.hk C.hs C.ha C.hn C.ht C.hm) I.kIn J e (fun z => nomatch z) fun tk => ⟨.bl b, H, I.kept (t' := tk) fun _ _ z => z, rfl, q⟩
/-- e.f, e a kept exception -/
def tXk (K : PySem.W.Frag) (f : Str) (te : TE) : TE := fun σ H Q => te σ H fun x H1 => ∃ (a C dd : Addr) (fs : List (Str × V)) (v : V), x = .ref a ∧ H1 a = some (exk a (.ref C) (some dd)) ∧ XfC K C ∧ PySem.W.findIn K (.ref C) f = some none ∧ H1 dd = some (.xd fs) ∧ fs.lookup f = some v ∧ Q v H1
theorem pe_xk {te : TE} {pos : Pos} {n : Str} (he : PE X e te) (hb : attributeBase e n X.env (eval e X.env) = eval e X.env := by rfl) : PE X (.Attribute e n pos) (tXk X.K n te) := by
  refine ⟨fun pins s σ H Q I h => ?_⟩
  refine attr_of hb (thn (he.run pins s σ H _ I h) fun u s1 hh => ?_)
  obtain ⟨x, H1, I1, rx, a, C, dd, fs, v, ex, ea, T, hno, ed, l, q⟩ := hh
  subst ex
  obtain rfl : u = Value.ref a := rx
  obtain ⟨oe, vs, ho, hz, hv⟩ := exk_at I1.hok ea
  obtain ⟨mA, hns, hr⟩ := (show ObjOk X.prog X.w H1 s1.heap dd (.xd fs) from I1.hok dd _ ed)
  obtain ⟨od, hod, hl⟩ := lookIn_ns hns
  obtain ⟨u, hu, ru⟩ := RelO.some_of (v := v) (o := mA n) (by rw [← l]; exact hr n)
  have J : PySem.W.InstAt s1.heap a oe C (some od) := ⟨ho, hz.1, by unfold PySem.W.notCls; rw [hv] <;> rfl, by rw [hz.2]; exact hod⟩
  exact HandSPX.exc_get I1.kIn J T.ga T.gg T.exC (PySem.W.findObj_own T.hdC hno rfl (by rw [hl, hu])) (handed_of ru) ⟨v, H1, I1.tok _, ru, q⟩
end

/-! ### super().__init__(..) of an own error class over ValueError -/
namespace SE
open PySem.W
abbrev wv (x : Addr) : Obj := { cls := .type "method-wrapper", dict := none, data := .fields #[.builtin "ValueError.__init__", .ref x], slots := #[] }
theorem ty_vi : typeOf (.builtin "ValueError.__init__") = pure (.type "wrapper_descriptor") := by
  show builtinType _ = _
  rw [builtinType_eq_fast]
  kernel_rfl
theorem nc_vi : (kfb_private% "nameAndClass") (Value.builtin "ValueError.__init__") = (pure (("__init__" : Str), Value.type "ValueError") : Sem (Str × Value)) := by kernel_rfl
section
variable {prog : Program} {w : World} {M : Model} {A : Around} {E : Value → Shared → Prop} {h : Heap} {g : Array GenState} {dr : Drawn} {t : Nat} {os : OsState}
theorem bind_vi {x C : Addr} {P : Fin → Shared → Prop} (hin : Looks M h (isInstance (.ref x) (.type "ValueError")) true) (hq : P (.done (.ret (.ref h.objs.size))) ⟨h.push (wv x), g, dr, t, os⟩) :
    wpAny M A (Builtin.«wrapper_descriptor.__get__» ⟨[.builtin "ValueError.__init__", .ref x, .ref C], []⟩) P E ⟨h, g, dr, t, os⟩ := by
  unfold Builtin.«wrapper_descriptor.__get__»
  refine wpAny_bind (wpAny_of_eq (a := (.builtin "ValueError.__init__", some (.ref x), some (.ref C))) (by first | rfl | kernel_rfl) ?_)
  show wpAny M A ((kfb_private% "checkInstance") (.builtin "ValueError.__init__") (.ref x) >>= fun _ => newFields "method-wrapper" [.builtin "ValueError.__init__", .ref x] >>= fun r => ret r) P E _
  refine wpAny_bind ?_
  show wpAny M A ((kfb_private% "nameAndClass") (.builtin "ValueError.__init__") >>= _) _ E _
  refine wpAny_bind (wpAny_of_eq nc_vi ?_)
  show wpAny M A (isInstance (.ref x) (.type "ValueError") >>= _) _ E _
  refine wpAny_bind (hin.at (KFB.if_not rfl (wpAny_pure ?_)))
  exact wpAny_bind (wpAny_newObj_type (wpAny_pure hq))
theorem super_gav {so D x C : Addr} {l₀ l : List Value} {K : Frag} {name : Str} {tk : Tok} {Q : Fin → Shared → Prop}
    (hso : h.get? so = some { cls := .type "super", dict := none, data := .fields #[.ref D, .ref x, .ref C], slots := #[] }) (hno : Looks (model prog w) h (opaqueClassAbove (.ref C)) none)
    (hC : Looks (model prog w) h (mroOf (.ref C)) l₀) (hl : (l₀.dropWhile (· != .ref D)).drop 1 = l) (X : K.In h)
    (hf : alongIn K name l = some (some (.builtin "ValueError.__init__"))) (hxC : x ≠ C) (hn : (name == ("__class__" : Str)) = false) (hin : Looks (model prog w) h (isInstance (.ref x) (.type "ValueError")) true)
    (hq : Q (.done (.ret (.ref h.objs.size))) ⟨h.push (wv x), g, dr, t, os⟩) :
    wpAny (model prog w) A (Builtin.«super.__getattribute__» ⟨[.ref so, .str name tk], []⟩) Q E ⟨h, g, dr, t, os⟩ := by
  have hlk := ESX.slot_wd.lookup
  have ner : (Value.ref x == Value.ref C) = false := by simp [hxC]
  have hTf := ty_vi
  have hTi : Shared.TypeIs ⟨h, g, dr, t, os⟩ (.builtin "ValueError.__init__") "wrapper_descriptor" := ty_vi
  have dso : ({ cls := .type "super", dict := none, data := .fields #[.ref D, .ref x, .ref C], slots := #[] } : Obj).data = .fields #[.ref D, .ref x, .ref C] := rfl
  have q0 : (#[.ref D, .ref x, .ref C] : Array Value)[0]? = some (.ref D) := rfl
  have q1 : (#[.ref D, .ref x, .ref C] : Array Value)[1]? = some (.ref x) := rfl
  have q2 : (#[.ref D, .ref x, .ref C] : Array Value)[2]? = some (.ref C) := rfl
  unfold Builtin.«super.__getattribute__»
  repeat (first
    | (with_reducible refine wpAny_field hso dso q0 ?_) | (with_reducible refine wpAny_field hso dso q1 ?_) | (with_reducible refine wpAny_field hso dso q2 ?_)
    | (with_reducible refine ks_wpAny_notOpaque hno ?_)
    | (with_reducible refine Looks.at hC ?_; rw [hl])
    | (refine ks_forIn_along X (fun _ _ => rfl) rfl ?_ hf)
    | (with_reducible refine wpAny_call_entry ESX.slot_wd hTi ESX.entry_wd ?_ (ESX.args_wd _ _ _))
    | (with_reducible refine bind_vi hin ?_)
    | (with_reducible refine ⟨_, rfl, ?_⟩)
    | (simp only [hn, ner, Bool.or_false, Bool.false_eq_true, if_false])
    | wp_step
    | dsimp only)
  all_goals exact hq
theorem getMethod_superv {so D x C : Addr} {l₀ l : List Value} {K : Frag} {name : Str} {pl : Sem Bool} {Q : Value × List Value → Shared → Prop}
    (hso : h.get? so = some { cls := .type "super", dict := none, data := .fields #[.ref D, .ref x, .ref C], slots := #[] }) (hno : Looks (model prog w) h (opaqueClassAbove (.ref C)) none)
    (hC : Looks (model prog w) h (mroOf (.ref C)) l₀) (hl : (l₀.dropWhile (· != .ref D)).drop 1 = l) (X : K.In h)
    (hf : alongIn K name l = some (some (.builtin "ValueError.__init__"))) (hxC : x ≠ C) (hn : (name == ("__class__" : Str)) = false) (hin : Looks (model prog w) h (isInstance (.ref x) (.type "ValueError")) true)
    (hq : Q (.ref h.objs.size, []) ⟨h.push (wv x), g, dr, t + 1, os⟩) :
    wpAny (model prog w) A (getMethod (.ref so) name pl) Q E ⟨h, g, dr, t, os⟩ := by
  have hlk := F.ks_slot_super_ga.lookup
  have hT : ∀ t', (⟨h, g, dr, t', os⟩ : Shared).TypeIs (.ref so) "super" := fun _ => ⟨_, hso, rfl⟩
  unfold getMethod
  refine wpAny_bind (wpAny_specialOf (hT _) hlk ?_)
  show wpAny _ _ (if (Manifest.canonical "super.__getattribute__" != "object.__getattribute__") = true then _ else _) _ _ _
  rw [if_pos F.ks_canon_super_ga]
  unfold getAttr getAttrBy
  refine wpAny_bind (wpAny_bind (wpAny_mkText (wpAny_holding (wpAny_bind (wpAny_typeOf (hT _) (wpAny_bind (wpAny_of_eq hlk ?_)))))))
  show wpAny _ _ (getAttrByItsOwn (.ref so) (.str name t) (.type "super") (.builtin "super.__getattribute__") true false) _ _ _
  unfold getAttrByItsOwn hookBefore callGetattribute boundAndCalled
  refine wpAny_bind (wpAny_of_eq (show (if onTheHeap (.type "super") then typeLookup (.type "super") "__getattr__" else pure none) = pure none from rfl) (wpAny_bind (wpAny_attempt (wpAny_holding ?_))))
  show wpAny _ _ (bindSpecial (.builtin "super.__getattribute__") (.ref so) >>= _) _ _ _
  refine wpAny_bind (wpAny_of_eq (F.ks_slot_super_ga.bind _) ?_)
  refine wpAny_mono (Q := fun v s' => v = .ref h.objs.size ∧ s' = ⟨h.push (wv x), g, dr, t + 1, os⟩) (E := fun _ _ => False)
    (wpAny_call_entry F.ks_slot_super_ga (hT _) F.ks_entry_super_ga (super_gav hso hno hC hl X hf hxC hn hin ⟨_, rfl, rfl, rfl⟩) (F.ks_gaArgs_super _ _)) (fun v s' hv => ?_) fun _ _ z => z.elim
  obtain ⟨rfl, rfl⟩ := hv
  exact wpAny_pure (wpAny_pure hq)
end
section
open PySem.Calls
variable {prog : Program} {w : World} {M : Model} {A : Around} {E : Value → Shared → Prop} {s : Shared}
theorem callWith_wv {pos : Pos} {u x : Addr} {env : Env} {e : Expr} {rest : List Expr} {Q : Value → Shared → Prop}
    (h : wpAny M A (spliced (backTo pos (starEach (e :: rest) env))) (fun vs s₁ => s₁.heap.get? u = some (wv x) ∧ wpAny M A (call (.ref u) vs) Q E s₁) E s)
    (he : starEach (e :: rest) env = (false, eval e env) :: starEach rest env) (hplain : (backTo pos (starEach rest env)).any (·.1) = false) :
    wpAny M A (callWith pos (.ref u) [] (backTo pos (starEach (e :: rest) env)) []) Q E s := by
  rw [he] at h ⊢
  have hp : (backTo pos ((false, eval e env) :: starEach rest env)).any (·.1) = false := by
    show (false || (backTo pos (starEach rest env)).any (·.1)) = false
    rw [hplain]
    rfl
  have h2 : wpAny M A (evalArgs (.ref u) true (backTo pos ((false, eval e env) :: starEach rest env)) []) (fun a s₁ => s₁.heap.get? u = some (wv x) ∧ wpAny M A (call (.ref u) ([] ++ a.pos) a.kw) Q E s₁) E s := evalArgs_plain h
  unfold callWith
  refine wpAny_bind (wpAny_holding (wpAny_mono h2 (fun a s₁ h₁ => wpAny_bind (wpAny_standAt ?_)) fun _ _ x => x))
  obtain ⟨ho, hcall⟩ := h₁
  simp only [hp, List.any_nil, Bool.or_false]
  refine wpAny_bind (m := keeperOf (.ref u)) ?_
  unfold keeperOf
  refine wpAny_bind (wpAny_load ho ?_)
  simp only [wv, show (Value.type "method-wrapper" != Value.type "method") = true by decide, show (Value.type "method-wrapper" == Value.type "builtin_function_or_method" || Value.type "method-wrapper" == Value.type "method-wrapper") = true by decide, if_true]
  refine wpAny_pure ?_
  exact wpAny_bind (wpAny_mono hcall (fun r s₂ hr => wpAny_bind (wpAny_holding (wpAny_point (wpAny_pure hr)))) fun _ _ x => x)
end
section
variable {prog : Program} {w : World} {A : Around} {E : Value → Shared → Prop} {h : Heap} {g : Array GenState} {dr : Drawn} {t : Nat} {os : OsState}
variable {nm q : Str} {C N : Addr} {bs bm : List Value} {hdct : Bool} {sn : List Str} {sub : List Value} {ab : Bool} {col : Option Bool} {dd : Option Addr} {k0 k1 k2 k3 k5 : Option Value}
theorem call_wv {u e t0 : Addr} {rest : List Value} {Q : Value → Shared → Prop}
    (hC : h.get? C = some (excClassObj nm q C N bs bm hdct sn sub ab col dd k0 k1 k2 k3 k5 "ValueError.__new__")) (he : h.get? e = some (HandSPX.excO C t0)) (hu : h.get? u = some (wv e)) (hrest : rest.length ≤ sizeLine)
    (hq : ∀ h' t1, (∀ b o, b ≠ e → h.get? b = some o → h'.get? b = some o) → h'.get? e = some (HandSPX.excO C t1) → Q .none ⟨h', g, dr, t, os⟩) :
    wpAny (model prog w) A (call (.ref u) rest) Q E ⟨h, g, dr, t, os⟩ := by
  refine wpAny_call (codeAny_of_tree ?_)
  show wpAny _ A.in1 (callAny (.ref u) ⟨rest, []⟩) _ _ _
  simp only [callAny]
  refine wpAny_bind (wpAny_load hu ?_)
  simp only [wv, show (Value.type "method-wrapper" == Value.type "method" || Value.type "method-wrapper" == Value.type "builtin_function_or_method" || Value.type "method-wrapper" == Value.type "method-wrapper") = true by decide, if_true]
  refine W.KFB.if_so (by decide) ?_
  refine wpAny_bind (ESX.check_bound F.excBase_ValueError hC he rfl (wpAny_bind (wpAny_pure (wpAny_pure ?_))))
  refine ⟨Code.quiet_builtin _ (by decide +kernel), codeAny_builtin F.excBase_ValueError.initEntry ?_⟩
  rw [Around.under_plainId F.excBase_ValueError.init.plain _]
  wp_walk
  refine hq _ h.objs.size (fun b o hb ho => ?_) ?_
  · rw [Heap.get?_update_other _ _ (Ne.symm hb)]
    exact Heap.get?_push_of_some _ ho
  · rw [Heap.get?_update_self _ (Heap.get?_push_of_some _ he) rfl]
    rfl
end
end SE

/-- what the written part says for super().__init__ in a def of the error class at D, of an instance of the class at C -/
structure SupE (P : Program) (K : PySem.W.Frag) (mg : Str → Option Value) (C D cc cda : Addr) : Prop where
  cell : ∃ cl cld csl, K.lookup cc = some ⟨cl, cld, .cell (some (.ref D)), csl⟩
  code : ∃ ccl cdd vs ccs file tf, K.lookup cda = some ⟨ccl, cdd, .fields vs, ccs⟩ ∧ vs[2]? = some (.str file tf) ∧ ((P.main.file : Str) == file) = true
  clD : ∃ cdD, PySem.W.clsIn K D = some cdD
  sub : PySem.W.mroIn K C (.ref D) = some true
  suv : PySem.W.mroIn K C (.type "ValueError") = some true
  sup : mg "super" = none
  top : (P.main.scope.names.lookup ("super" : Str)).isSome = false
  any : PySem.W.nsIn K cStatics "thirdparty.any" = some none
  fnd : PySem.W.ks_superIn K C D "__init__" = some (some (.builtin "ValueError.__init__"))
  oex : OexC K C

section
variable {CX : CXT} {P : Program} {w : World} {K : PySem.W.Frag} {mg : Str → Option Value} {base : Heap} {k : Nat} {f cc cda : Addr} {name qual : Str} {params : Arguments} {scope : Scope} {dV kV doc pm ct oc : Value} {an od : Option Addr}
    {osl : Array (Option Value)} {N ps : List Str} {sp : Sp} {e : PySem.Expr} {es : List PySem.Expr} {rest : List Stmt} {p0 p1 apos pos epos : Pos} {pl : Sem Bool}
theorem fn_superE (lk : K.lookup f = some ⟨oc, od, .func (PySem.W.ksFn name qual params (.Expr (.Call (.Attribute (.Call (.Name "super" p0) [] [] p1) "__init__" apos) (e :: es) [] pos) epos :: rest) scope dV kV doc pm an (.ref cda) ct cc), osl⟩)
    (hcd : PySem.W.codeIn K (.ref cda) qual = true) (S : ScS N ps scope)
    {ar : Arg} (hp0 : (params.posonlyargs ++ params.args).head? = some ar) (hps : ps.head? = some ar.arg) (har : scope.names.lookup ar.arg = some .local)
    (hks : scope.names.lookup ("super" : Str) = some .globalImplicit) (hkc : scope.names.lookup ("__class__" : Str) = some .free)
    (len : ∀ vs H Q E, sp vs H Q E → vs.length = ps.length)
    (hbody : ∀ (A : Around) (outer : List Env) (s : Shared) (H : Hp) (vs : List V) (Q : VK) (E : XK), Room k (A.deeper (PySem.W.ksEnv qual scope s.heap.objs.size f (.ref cda) cc)) → sp vs H Q E →
      ∃ (x C D : Addr) (vs' : List V) (ta : TA) (u : TS), vs = .ref x :: vs' ∧ H x = some (exo x C none) ∧ SupE P K mg C D cc cda ∧
        PA (cxS CX P w K mg base N qual scope f (.ref cda) cc A outer s H E) (e :: es) ta ∧
        PSs (cxS CX P w K mg base N qual scope f (.ref cda) cc A outer s H E) rest u ∧
        ta (start N vs) H (fun ws H1 => ws.length ≤ 1000 ∧ H1 x = some (exo x C none) ∧ u { nx := fun _ H' => Q .non H', rt := Q } (start N vs) H1))
    (hi : ∀ L, interactive (PySem.W.ksEnv qual scope L f (.ref cda) cc) = false) (hsw : ∀ L, swapsWith (.Call (.Attribute (.Call (.Name "super" p0) [] [] p1) "__init__" apos) (e :: es) [] pos) none epos.line (PySem.W.ksEnv qual scope L f (.ref cda) cc) = pure false)
    (he : ∀ L, eval (.Call (.Attribute (.Call (.Name "super" p0) [] [] p1) "__init__" apos) (e :: es) [] pos) (PySem.W.ksEnv qual scope L f (.ref cda) cc) = (do
      let ov ← attributeBase (.Call (.Name "super" p0) [] [] p1) "__init__" (PySem.W.ksEnv qual scope L f (.ref cda) cc) (eval (.Call (.Name "super" p0) [] [] p1) (PySem.W.ksEnv qual scope L f (.ref cda) cc))
      standAt apos.atName
      let (fn, first) ← holding [ov] (getMethod ov "__init__" pl)
      callWith pos fn first (backTo pos (starEach (e :: es) (PySem.W.ksEnv qual scope L f (.ref cda) cc))) []))
    (hst : ∀ L, starEach (e :: es) (PySem.W.ksEnv qual scope L f (.ref cda) cc) = (false, eval e (PySem.W.ksEnv qual scope L f (.ref cda) cc)) :: starEach es (PySem.W.ksEnv qual scope L f (.ref cda) cc))
    (hpl : ∀ L, (backTo pos (starEach es (PySem.W.ksEnv qual scope L f (.ref cda) cc))).any (·.1) = false) :
    FnOk P w K mg base CX (k + 1) f (PySem.W.ksFn name qual params (.Expr (.Call (.Attribute (.Call (.Name "super" p0) [] [] p1) "__init__" apos) (e :: es) [] pos) epos :: rest) scope dV kV doc pm an (.ref cda) ct cc) ps sp := by
  refine ⟨len, fun A outer s H args us vs Q E hr e0 hb r hsp => ?_⟩
  have hl := len _ _ _ _ hsp
  have KX : K.In s.heap := e0.mod.kin.keeps fun b o e => (e0.bs b o e).1
  have lim : s.heap.NoLimit := e0.mod.nolimit.keeps fun b o e => (e0.bs b o e).1
  obtain ⟨x, C, D, vs', ta, u, rfl, hx, T, hta, hrest, hq⟩ := hbody A outer s H vs Q E (hr.deeper _) hsp
  obtain ⟨cl, cld, csl, hcell⟩ := T.cell
  obtain ⟨ccl, cdd, cvs, ccs, file, tf, hcode, hvs, hfile⟩ := T.code
  obtain ⟨cdD, hD⟩ := T.clD
  refine PySem.ks_codeAny_call_defAt (binds := ps.zip us) hr.depth (KX _ _ lk) rfl lim (PySem.W.codeRec_of KX hcd) rfl hb S.nocell (fun y hy => S.par y.1 (List.of_mem_zip hy).1) (fun h1 hns hk => ?_) S.co S.gen S.kind
  have I : Inv (cxS CX P w K mg base N qual scope f (.ref cda) cc A outer s H E) [] (start N (.ref x :: vs')) H { s with heap := h1, toks := s.toks + (ps.zip us).length } :=
    inv_startS (vs := .ref x :: vs') S hr.hd e0 hl r hcell rfl hns hk
  have hX : K.In h1 := I.kIn
  obtain ⟨t1, ho⟩ := exo_at I.hok hx
  have J : PySem.W.InstAt h1 x { cls := .ref C, dict := none, data := .fields #[.ref t1, .none, .none, .none, .bool false, .none] } C none := ⟨ho, rfl, rfl, trivial⟩
  obtain ⟨oD, hD1, hD2⟩ : ∃ oD, h1.get? D = some oD ∧ oD.data = .cls cdD := by
    unfold PySem.W.clsIn at hD
    split at hD
    · rename_i c d cd' sl ho
      cases hD
      exact ⟨_, hX _ _ ho, rfl⟩
    · cases hD
  refine PySem.ks_wpAt_execs_cons (PySem.ks_wpAt_Expr_any (PySem.ks_wpAt_MethodCall (pl := pl) ?_ (he _)) (hi _) (hsw _))
  refine PySem.ks_wpAt_super_base (env := PySem.W.ksEnv qual scope s.heap.objs.size f (.ref cda) cc) hks hkc (by decide) rfl (hX _ _ lk) rfl hp0 rfl (hX _ _ hcode) rfl hvs hfile T.top ?_
  obtain ⟨mb, hb1, hb2⟩ := I.mod.blt
  refine PySem.W.ks_loadName_global S.kind hks (Calls.loadGlobal_builtin (env := PySem.W.ksEnv qual scope s.heap.objs.size f (.ref cda) cc) (I.mod.glob.keeps I.bk) T.sup (hb1.keeps I.bk) ((hb2 _ (by decide +kernel)).trans (show bootBuiltins "super" = some (.type "super") by first | rfl | kernel_rfl)) ⟨rfl, ?_⟩)
  refine wpAny_loadName_free S.kind hkc (by show List.lookup _ [_] = _; simp [List.lookup]) ⟨_, hX _ _ hcell, rfl⟩ ?_
  have hself : (ps.zip us).reverse.lookup ar.arg = some (.ref x) := by
    match ps, us, hps, r with
    | p :: ps', u' :: us', hp', .cons ru _ =>
      have hp'' : p = ar.arg := by simpa using hp'
      subst hp''
      cases (show u' = Value.ref x from ru)
      have ndP : (ar.arg :: ps').Nodup := by
        have := S.pre
        rw [← this]
        exact S.nd.sublist (List.take_sublist _ _)
      exact rev_lookup (i := 0) ndP rfl rfl
  refine wpAny_loadName_local S.kind har hns hself ?_
  refine PySem.ks_wpAny_isType_cls hD1 hD2 ⟨rfl, ?_⟩
  refine PySem.ks_wpAny_call_super hD1 hD2 J.at_ J.cls (fun c e => nomatch e) (PySem.W.looks_mroIn hX T.sub) (fun h' hso k' => ?_)
  have I1 : Inv (cxS CX P w K mg base N qual scope f (.ref cda) cc A outer s H E) [(h1.objs.size, PySem.W.ks_superObj D x C)] (start N (.ref x :: vs')) H { s with heap := h', toks := s.toks + (ps.zip us).length } :=
    ClX.pin_new (s := { s with heap := h1, toks := s.toks + (ps.zip us).length }) (t' := s.toks + (ps.zip us).length) I k' (Nat.le_refl _) hso (fun v z => nomatch z)
  have hX' : K.In h' := I1.kIn
  have J' : PySem.W.InstAt h' x { cls := .ref C, dict := none, data := .fields #[.ref t1, .none, .none, .none, .bool false, .none] } C none := ⟨k' _ _ ho, rfl, rfl, trivial⟩
  have fnd := T.fnd
  cases hc : PySem.W.clsIn K C with
  | none => unfold PySem.W.ks_superIn at fnd; rw [hc] at fnd; cases fnd
  | some cdC =>
    unfold PySem.W.ks_superIn at fnd
    rw [hc] at fnd
    refine SE.getMethod_superv (h := h') hso (PySem.W.looks_opaque hX' T.any) (l₀ := cdC.mro) ?_ rfl hX' fnd (PySem.W.ks_ne hX J hc) (by decide) (J'.type.andThen (PySem.W.looks_mroIn hX' T.suv)) ?_
    · exact fun A Q E s k q => wpAny_bind ((PySem.W.looks_clsIn hX' hc) A _ E s k (wpAny_pure q))
    · have I2 := ClX.pin_new (s := { s with heap := h', toks := s.toks + (ps.zip us).length }) (o := SE.wv x) (t' := s.toks + (ps.zip us).length + 1) I1 (fun _ _ z => Heap.get?_push_of_some _ z) (Nat.le_refl _) (Heap.get?_push_size h' rfl) (fun v z => nomatch z)
      refine SE.callWith_wv (x := x) (thn (hta.run pos _ _ _ H _ I2 hq) fun us2 s3 ⟨ws, H2, I3, rv, hl2, hx2, q2⟩ => ⟨ClX.pin_at I3, ?_⟩) (hst _) (hpl _)
      obtain ⟨nm, q, N', bs, bm, sn, sub, ab, col, dd, k0, k1, k2, k3, k5, hCo, hbm⟩ := T.oex.cls
      obtain ⟨t2, ho2⟩ := exo_at I3.hok hx2
      have hu2 : s3.heap.get? h'.objs.size = some (SE.wv x) := ClX.pin_at I3
      have kC := I3.kIn
      obtain ⟨hp3, g3, d3, tk3, os3⟩ := s3
      refine SE.call_wv (kC _ _ hCo) ho2 hu2 (by rw [← Paired.length rv, sizeLine_eq]; omega) fun h4 t4 k4 hx4 => ?_
      have I4 := (ClX.unpin (ClX.unpin I3)).write (t' := tk3) (x := x) (e := x) (o := exo x C none) (by rw [hx2]; exact True.intro) (.inl rfl) k4 ⟨_, hx4⟩ (exo_ok hx4)
      have eu : upd H2 x (exo x C none) = H2 := by
        funext b
        by_cases hb : b = x
        · rw [hb, upd_same, hx2]
        · rw [upd_ne hb]
      rw [eu] at I4
      refine wpAt_of_wpAny (wpAny_mono (hrest.run [] _ _ H2 _ I4 q2) (fun fl s' hs => ?_) fun e s' hs => hs)
      have fin : ∀ {σ' : L2.St} {H' : Hp} {v : V} {u : Value}, Inv (cxS CX P w K mg base N qual scope f (.ref cda) cc A outer s H E) [] σ' H' s' → RelV v u → Q v H' → CE outer P w H s Q u s' :=
        fun {σ' H' v u} J rv q => ⟨v, H', J.os, J.bare, J.base, J.hok, rv, q⟩
      cases fl with
      | ret u =>
        obtain ⟨v, σ', H', J, rv, q⟩ := hs
        exact fin J rv q
      | next =>
        obtain ⟨σ', H', J, q⟩ := hs
        exact fin (v := V.non) (u := Value.none) J rfl q
      | brk =>
        obtain ⟨_, _, _, q⟩ := hs
        exact False.elim q
      | cont =>
        obtain ⟨_, _, _, q⟩ := hs
        exact False.elim q
end
end Ls
end
section
set_option Elab.async false
set_option linter.all false
set_option maxRecDepth 100000
set_option maxHeartbeats 4000000
namespace Ls
open PySem PySem.Spec PyProof.Rows L2

/-! ### defs that must know that no repr is under way -/
structure FnG (P : Program) (w : World) (K : PySem.W.Frag) (mg : Str → Option Value) (base : Heap) (CX : CXT) (k : Nat) (f : Addr) (fd : FuncData) (ps : List Str) (sp : Sp) : Prop where
  len : ∀ vs H Q E, sp vs H Q E → vs.length = ps.length
  run : ∀ (A : Around) (outer : List Env) (s : Shared) (H : Hp) (args : Args) (us : List Value) (vs : List V) (Q : VK) (E : XK), A.guards = some [] → Room k A → Env0 P w K mg base A outer s H → BindsTo s fd args (ps.zip us) → Vals vs us → sp vs H Q E →
    codeAny (model P w) A (.call (.ref f) args) (CR CX outer P w H s Q E) s
section
variable {P : Program} {w : World} {K : PySem.W.Frag} {mg : Str → Option Value} {base : Heap}
theorem FnG.of {CX : CXT} {k : Nat} {f : Addr} {fd : FuncData} {ps : List Str} {sp : Sp} (F : FnOk P w K mg base CX k f fd ps sp) : FnG P w K mg base CX k f fd ps sp := ⟨F.len, fun A outer s H args us vs Q E _ => F.run A outer s H args us vs Q E⟩
theorem okG {x qual : Str} {st : Stmt} {f : Addr} {fd : FuncData} {N ps : List Str} {k : Nat} {sp : Sp} (F : Fun K x qual st f fd) (S : FnScope N ps (defScope st)) (len : ∀ vs H Q E, sp vs H Q E → vs.length = ps.length)
    (hbody : ∀ (cdv : Value) (A : Around) (outer : List Env) (s : Shared) (H : Hp) (vs : List V) (Q : VK) (E : XK), fd.code = cdv → A.guards = some [] → Room k (A.deeper (envOfC qual (defScope st) s.heap.objs.size f cdv)) → sp vs H Q E →
      ∃ t, PSs (cxOf CX0 P w K mg base N qual (defScope st) f cdv A outer s H E).nox (defBody st) t ∧ t { nx := fun _ H' => Q .non H', rt := Q } (start N vs) H) : FnG P w K mg base CX0 (k + 1) f fd ps sp := by
  obtain ⟨oc, od, kV, doc, pm, an, cdv, ct, osl, rfl, lk, hcd⟩ := F.ex
  refine ⟨len, fun A outer s H args us vs Q E hg hr e0 hb r hs => ?_⟩
  refine LamX.run_ofS lk hcd S hr e0 hb r (len _ _ _ _ hs) fun hr' => ?_
  obtain ⟨t, h, q⟩ := hbody cdv A outer s H vs Q E rfl hg hr' hs
  exact ⟨t, h.nox, q⟩
end
section
variable (P : Program) (w : World) (K : PySem.W.Frag) (mg : Str → Option Value) (base : Heap) (CX : CXT) (k : Nat)
/-- the def under the module's name x keeps sp, where no repr is under way -/
structure CalG (x : Str) (sp : Sp) : Prop where
  ex : ∃ f fd ps, mg x = some (.ref f) ∧ PySem.W.keepIn K (.ref f) = true ∧ Binds K fd ps [] ∧ FnG P w K mg base CX k f fd ps sp
end
section
variable {X : Cx} {CX : CXT} {k : Nat} {sp : Sp} {E : XK} {x : Str} {p pos : Pos} {e : PySem.Expr} {es : List PySem.Expr} {t : TA}
theorem pe_calG (hgd : X.A.guards = some []) (c : CalG X.prog X.w X.K X.mg X.base CX k x sp) (hr : Room k X.A) (hg : Gl X x) (hx : Passes CX X E) (ha : PA X (e :: es) t) (hd : (x == ("__debug__" : Str)) = false := by decide)
    (he : starEach (e :: es) X.env = (false, eval e X.env) :: starEach es X.env := by rfl) (hpl : (backTo pos (starEach es X.env)).any (·.1) = false := by rfl) :
    PE X (.Call (.Name x p) (e :: es) [] pos) (tCl sp E t) := by
  obtain ⟨f, fd, ps, hm, hk, hb, F⟩ := c.ex
  refine ⟨fun pins s σ H Q I h => ?_⟩
  refine wpAny_Call_Name_kw (ld_glob I hg hm ?_ hd)
  refine PySem.W.callWith_K (h₀ := X.base) I.ok.mod.kin hk (thn (ha.run pos pins s σ H _ I h) fun us s1 ⟨vs, H1, I1, r, q⟩ => ⟨I1.kIn, ?_⟩) he hpl
  have hl : us.length = ps.length := by
    rw [← r.length]
    exact F.len _ _ _ _ q
  have bd := hb s1 us I1.kIn (by rw [List.append_nil]; exact hl)
  rw [List.append_nil] at bd
  refine wpAny_call (codeAny_mono (F.run X.A X.stack s1 H1 ⟨us, []⟩ us vs Q E hgd hr I1.env0 bd r q) fun res s' hq => ?_)
  match res, hq with
  | .error e, hq => exact hx pins σ H1 s1 e s' I1 hq
  | .ok (.ret u), hq => exact I1.after hq
end

/-! ### the top: tables of code objects, no repr under way -/
def tabH (T : List Addr) : Hp := fun b => if b ∈ T then some (.tbl #[]) else none
theorem tab_in {T : List Addr} {b : Addr} (h : b ∈ T) : tabH T b = some (.tbl #[]) := if_pos h
theorem tab_out {T : List Addr} {b : Addr} (h : b ∉ T) : tabH T b = none := if_neg h
/-- what is tracked at the start: the script (if it is no object of the module), the tables -/
theorem top_heap {P : Program} {w : World} {K : PySem.W.Frag} {a : Addr} {T : List Addr} {s : Shared} {vs : List Value} {ns : List Int} (KX : K.In s.heap) (hT : ∀ b ∈ T, s.heap.get? b = some { cls := .none, data := .fields #[] })
    (ha : s.heap.get? a = some { cls := .type "list", data := .seq vs.toArray }) (hi : IntsAre vs ns) (hl : ns.length ≤ sizeLine) :
    ∃ H : Hp, (∀ b ∈ T, H b = some (.tbl #[])) ∧ SqL K H a (ns.map V.int) ∧ HOk P w H s.heap ∧
      ∀ b u, H b = some u → (b ∈ T ∧ u = .tbl #[]) ∨ (b = a ∧ K.lookup a = none ∧ ∃ o xs, u = .frz o (.lst xs)) := by
  have rv := vals_ints hi
  have aT : a ∉ T := fun z => by
    have q := hT a z
    rw [ha] at q
    cases congrArg Obj.data (Option.some.inj q)
  cases hk : K.lookup a with
  | some o =>
    have e := KX a o hk
    rw [ha] at e
    cases e
    refine ⟨tabH T, fun b hb => tab_in hb, .inr ⟨_, vs.toArray, _, hk, rfl, rfl, rfl, by rw [List.size_toArray, hi.length]; exact hl, by simpa using rv⟩, fun b u z => ?_, fun b u z => ?_⟩
    · by_cases hb : b ∈ T
      · rw [tab_in hb] at z
        cases z
        exact hT b hb
      · rw [tab_out hb] at z
        cases z
    · by_cases hb : b ∈ T
      · rw [tab_in hb] at z
        exact .inl ⟨hb, (Option.some.inj z).symm⟩
      · rw [tab_out hb] at z
        cases z
  | none =>
    refine ⟨upd (tabH T) a (.frz { cls := .type "list", data := .seq vs.toArray } (.lst (ns.map V.int))), fun b hb => ?_, .inl (.inr ⟨_, upd_same⟩), fun b u z => ?_, fun b u z => ?_⟩
    · have nb : b ≠ a := fun e => aT (by rw [← e]; exact hb)
      rw [upd_ne nb]
      exact tab_in hb
    · by_cases hb : b = a
      · subst hb
        rw [upd_same] at z
        cases z
        exact ⟨ha, by rw [List.length_map]; exact hl, vs, _, rv, ha⟩
      · rw [upd_ne hb] at z
        by_cases hb : b ∈ T
        · rw [tab_in hb] at z
          cases z
          exact hT b hb
        · rw [tab_out hb] at z
          cases z
    · by_cases hb : b = a
      · subst hb
        rw [upd_same] at z
        exact .inr ⟨rfl, rfl, _, _, (Option.some.inj z).symm⟩
      · rw [upd_ne hb] at z
        by_cases hb : b ∈ T
        · rw [tab_in hb] at z
          exact .inl ⟨hb, (Option.some.inj z).symm⟩
        · rw [tab_out hb] at z
          cases z
theorem top_call {P : Program} {w : World} {K : PySem.W.Frag} {mg mb : Str → Option Value} {CX : CXT} {k : Nat} {fa a : Addr} {cs : List (Addr × Addr)} {fd : FuncData} {x : Str} {sp : Sp} {s : Shared} {vs : List Value} {ns : List Int}
    (KX : K.In s.heap) (gl : s.heap.Ns mainGlobals mg) (bl : s.heap.Ns builtinsNs mb) (bb : ∀ x : Str, x ≠ "__name__" → mb x = bootBuiltins x) (nl : s.heap.NoLimit) (gn : s.gens = #[])
    (hT : ∀ p ∈ cs, s.heap.get? p.2 = some { cls := .none, data := .fields #[] }) (nT : ∀ p ∈ cs, K.lookup p.2 = none) (C : ∀ p ∈ cs, PySem.W.CodeHd s.heap p.1 p.2)
    (hbm : ∃ (bm : Addr) (ob : Obj), mg "__builtins__" = some (.ref bm) ∧ bm ≠ builtinsNs ∧ s.heap.get? bm = some ob ∧ ob.cls = .type "module" ∧ ob.dict = some builtinsNs ∧ ob.data = .plain)
    (ha : s.heap.get? a = some { cls := .type "list", data := .seq vs.toArray }) (hi : IntsAre vs ns) (hl : ns.length ≤ sizeLine) (hr : Room k callerA)
    (F : ∀ base : Heap, K.In base → base.Ns mainGlobals mg → (∀ p ∈ cs, LamX.TabB base mg p.1 p.2) → (base.get? sysModules).isSome = true → FnG P w K mg base CX k fa fd [x] sp) (hsy : ∃ mm, s.heap.Ns sysModules mm) (hbind : ∀ (s : Shared) (u : Value), BindsTo s fd ⟨[u], []⟩ [(x, u)])
    (hsp : ∀ H : Hp, (∀ p ∈ cs, H p.2 = some (.tbl #[])) → SqL K H a (ns.map V.int) → sp [.ref a] H (fun v _ => v = .bl true) fun _ _ _ => False)
    (hCX : ∀ H e s', CX [] H s (fun _ _ _ => False) e s' → False) :
    codeAny (model P w) callerA (.call (.ref fa) ⟨[.ref a], []⟩) (fun r s' => r = .ok (.ret (.bool true)) ∧ OldK s.heap s'.heap ∧ s'.os = s.os ∧ AllBare s'.gens) s := by
  have hT' : ∀ b ∈ cs.map (·.2), s.heap.get? b = some { cls := .none, data := .fields #[] } := fun b hb => by
    obtain ⟨p, hp, rfl⟩ := List.mem_map.mp hb
    exact hT p hp
  obtain ⟨H, H1, H2, H3, H4⟩ := top_heap (P := P) (w := w) KX hT' ha hi hl
  -- what is no list and no empty record is not tracked
  have un : ∀ {b : Addr} {o : Obj}, s.heap.get? b = some o → (∀ l n, o.data ≠ .seq l n) → o.data ≠ .fields #[] → H b = none := fun {b o} e n1 n2 => by
    cases q : H b with
    | none => rfl
    | some u =>
      rcases H4 b u q with ⟨hb, _⟩ | ⟨hb, _⟩
      · rw [hT' b hb] at e
        cases e
        exact absurd rfl n2
      · rw [hb, ha] at e
        cases e
        exact absurd rfl (n1 _ _)
  have ns' : ∀ {b : Addr} {m : Str → Option Value}, s.heap.Ns b m → (hidT s.heap H).Ns b m := fun {b m} ⟨o, es, ep, e, d, r⟩ =>
    ⟨o, es, ep, hidT_get e (un e (fun l n z => by rw [d] at z; cases z) fun z => by rw [d] at z; cases z), d, r⟩
  have kb : K.In (hidT s.heap H) := fun b o e => hidT_get (KX b o e) (by
    cases q : H b with
    | none => rfl
    | some u =>
      rcases H4 b u q with ⟨hb, _⟩ | ⟨hb, hn, _⟩
      · obtain ⟨p, hp, rfl⟩ := List.mem_map.mp hb
        rw [nT p hp] at e
        cases e
      · rw [hb, hn] at e
        cases e)
  have TB : ∀ p ∈ cs, LamX.TabB (hidT s.heap H) mg p.1 p.2 := fun p hp => by
    refine ⟨?_, ?_, fun z => ?_⟩
    · obtain ⟨o, us, file, tf, flags, tg, inF, text, tt, e1, r1, r2, r3, rest⟩ := C p hp
      refine ⟨o, us, file, tf, flags, tg, inF, text, tt, hidT_get e1 (un e1 (fun l n z => by rw [r2] at z; cases z) fun z => ?_), r1, r2, r3, rest⟩
      rw [r2] at z
      cases z
      simp at r3
    · obtain ⟨bm, ob, b1, b2, b3, b4, b5, b6⟩ := hbm
      refine ⟨bm, ob, b1, b2, fun q => ?_, fun q => ?_, hidT_get b3 (un b3 (fun l n z => by rw [b6] at z; cases z) fun z => by rw [b6] at z; cases z), b4, b5, b6⟩
      · obtain ⟨o, es, ep, e, d, _⟩ := gl
        rw [q, e] at b3
        cases b3
        rw [d] at b6
        cases b6
      · rw [q, hT p hp] at b3
        cases b3
        cases b6
    · obtain ⟨o, es, ep, e, d, _⟩ := gl
      rw [z, hT p hp] at e
      cases e
      cases d
  have sy : ((hidT s.heap H).get? sysModules).isSome = true := by
    obtain ⟨mm, z⟩ := hsy
    obtain ⟨o, _, _, e, _⟩ := ns' z
    rw [e]
    rfl
  have md : L2.Mod K mg (hidT s.heap H) := ⟨kb, ns' gl, ⟨mb, ns' bl, bb⟩, by
    obtain ⟨mc, z1, z2⟩ := nl
    exact ⟨mc, ns' z1, z2⟩⟩
  have e0 : Env0 P w K mg (hidT s.heap H) callerA [] s H := ⟨rfl, md, fun b o e => of_hidT e, Nat.le_of_eq (hidT_size _ _), trivial, fun b hb => absurd (show b ∈ ([] : List Addr) from hb) (by simp), H3, .of_eq gn⟩
  refine codeAny_mono ((F _ kb (ns' gl) TB sy).run callerA [] s H ⟨[.ref a], []⟩ [.ref a] [.ref a] _ _ rfl hr e0 (hbind s (.ref a)) (.cons rfl .nil) (hsp H (fun p hp => H1 _ (List.mem_map.mpr ⟨p, hp, rfl⟩)) H2)) fun r s' h => ?_
  match r, h with
  | .error e, h => exact (hCX H e s' h).elim
  | .ok (.ret u), h =>
    obtain ⟨v, H', os, bare, U, hok', rv, q⟩ := h
    cases (show v = .bl true from q)
    cases (show u = Value.bool true from rv)
    have stays : ∀ b o, s.heap.get? b = some o → s'.heap.get? b = some o ∨ (b ∈ cs.map (·.2) ∧ ∃ more : Array Value, s'.heap.get? b = some { cls := .none, data := .fields more }) := fun b o e => by
      cases q : H b with
      | none => exact .inl (U.keep b o e q (fun z => absurd (show b ∈ ([] : List Addr) from z) (by simp)) (by simp))
      | some u =>
        rcases H4 b u q with ⟨hb, hu⟩ | ⟨hb, _, ob, xs, hu⟩
        · obtain ⟨more, z⟩ := U.tbls b #[] (by rw [q, hu])
          exact .inr ⟨hb, _, hok' b _ z⟩
        · rw [hu] at q
          obtain ⟨z1, _⟩ := H3 b _ q
          obtain ⟨z2, _⟩ := hok' b _ (U.frzs b ob _ q)
          rw [e] at z1
          cases z1
          exact .inl z2
    refine ⟨rfl, ⟨fun b o e => ?_, fun b o e => ?_⟩, os, bare⟩
    · rcases stays b o e with z | ⟨hb, more, z⟩
      · exact .inl z
      · rw [hT' b hb] at e
        cases e
        obtain ⟨p, hp, rfl⟩ := List.mem_map.mp hb
        exact .inr (.inl ⟨((C p hp).tab (hT p hp)).isCodeTable, rfl, #[], more, rfl, by rw [Array.empty_append]; exact z⟩)
    · rcases stays b o e with z | ⟨hb, more, z⟩
      · exact ⟨o, z⟩
      · exact ⟨_, z⟩

/-- the law's promise at the head's heap h -/
def LawG (l : PySem.W.OpenLaw) (w : World) (K : PySem.W.Frag) (CX : CXT) (k n : Nat) (x : Str) (mg : Str → Option Value) (fa : Addr) (h : Heap) : Prop :=
  ∃ (fd : FuncData) (cs : List (Addr × Addr)) (sp : Sp), (∀ p ∈ cs, h.get? p.2 = some { cls := .none, data := .fields #[] }) ∧ (∀ p ∈ cs, K.lookup p.2 = none) ∧ (∀ p ∈ cs, PySem.W.CodeHd h p.1 p.2) ∧ (∀ (s : Shared) (u : Value), BindsTo s fd ⟨[u], []⟩ [(x, u)]) ∧
    (∀ (H : Hp) (a : Addr) (ns : List Int), ns.length ≤ n → (∀ z ∈ ns, Builtin.Int.intBits z ≤ 1048576) → (∀ p ∈ cs, H p.2 = some (.tbl #[])) → SqL K H a (ns.map V.int) → sp [.ref a] H (fun v _ => v = .bl true) fun _ _ _ => False) ∧
    ∀ base : Heap, K.In base → base.Ns mainGlobals mg → (∀ p ∈ cs, LamX.TabB base mg p.1 p.2) → (base.get? sysModules).isSome = true → FnG l.prog w K mg base CX k fa fd [x] sp
/-- the def under the module's name x: its code object's table is empty -/
theorem tab_of {q : Program} {loose : List Str} {mean : ExcName → Option Value} {mg mb : Str → Option Value} {h : Heap} {K : PySem.W.Frag} {x : Str} {fx : Addr} (T : Top q loose mean mg mb h) (KX : K.In h) (hx : ((recsOf q).any fun e => e.name == x) = true) (hm : mg x = some (.ref fx)) : LamX.OwnTab K fx h := by
  intro c P o fd e dd vs sl k1 k2 k3 k4 k5
  obtain ⟨r, hr, hn⟩ := List.any_eq_true.mp hx
  obtain ⟨a', o', fd', c', P', h1, h2, h3, h4, h5, ⟨oc, vc, e1, _, e3, e4⟩, hP⟩ := T.tab r hr
  rw [beq_iff_eq.mp hn, hm] at h1
  cases h1
  rw [KX _ _ k1] at h2
  cases h2
  rw [k2] at h3
  cases h3
  rw [k3] at h4
  cases h4
  rw [KX _ _ k4] at e1
  cases e1
  cases e3
  rw [k5] at e4
  cases e4
  exact hP
theorem walk_G {l : PySem.W.OpenLaw} {n k : Nat} {q : Program} {loose : List Str} {XP : (Str → Option Value) → Heap → Prop} {YP : World → Heap → Prop} {d : DefRec} {K : Params → PySem.W.Frag} {CX : World → CXT} {x : Str}
    (hn : l.most = some n) (hn2 : n ≤ sizeLine) (hdf : d.params.defaults = []) (hr : Room k callerA) (him : importsNone q = true) (hY : ∀ (w : World) (h : Heap), YP w h → (K w.params).In h)
    (F : ∀ (w : World) (mg : Str → Option Value) (fa : Addr) (h : Heap), YP w h → (K w.params).In h → h.Ns mainGlobals mg → mg d.name = some (.ref fa) →
      (∀ (x : Str) (fx : Addr), ((recsOf q).any fun e => e.name == x) = true → mg x = some (.ref fx) → LamX.OwnTab (K w.params) fx h) → LawG l w (K w.params) (CX w) k n x mg fa h)
    (hCX : ∀ (w : World) (H : Hp) (s : Shared) (e : Value) (s' : Shared), CX w [] H s (fun _ _ _ => False) e s' → False) :
    PySem.W.WalkO q loose XP YP l.row.toRowW d [] (fun f vs => PySem.call f vs) := by
  refine Att.attach_callB hn hdf fun w s₀ s₁ mg mb fa o pm cd doc a vs ns G Y ho hd hcd hmg hobj hints hlen hbits hg => ?_
  have KX := hY w _ Y
  obtain ⟨fd, cs, sp, hT, nT, C, hb, hsp, hF⟩ := F w mg fa _ Y KX G.T.g hmg fun x fx z1 z2 => tab_of G.T KX z1 z2
  obtain ⟨mm, z, _⟩ := (G.T.seer him).mods
  exact top_call KX G.T.g G.T.b G.T.builtins G.T.nolimit hg hT nT C G.T.bmain hobj hints (Nat.le_trans hlen hn2) hr hF ⟨mm, z⟩ hb (fun H hH hS => hsp H a ns hlen hbits hH hS) fun H e s' => hCX w H s₁ e s'
end Ls
end
section
set_option Elab.async false
set_option linter.all false
set_option maxRecDepth 100000
set_option maxHeartbeats 4000000
namespace Ls
open PySem PySem.Spec PyProof.Rows L2

/-! ### a value as plain data; repr -/
mutual
inductive TV (H : Hp) : V → PyData → Prop
  | non : TV H .non .none
  | bl (b : Bool) : TV H (.bl b) (.bool b)
  | int (i : Int) : TV H (.int i) (.int i)
  | str (x : Str) : TV H (.str x) (.str x)
  | lst {a : Addr} {xs : List V} {ds : List PyData} (e : H a = some (.lst xs)) (h : TVs H xs ds) : TV H (.ref a) (.list ds)
  | tup {a : Addr} {xs : List V} {ds : List PyData} (e : H a = some (.tup xs)) (h : TVs H xs ds) : TV H (.ref a) (.tuple ds)
  | dct {a : Addr} {kvs : List (Key × V)} {ds : List (PyData × PyData)} (e : H a = some (.dK kvs)) (hk : TVs H (kvs.map fun p => kV p.1) (ds.map (·.1))) (hv : TVs H (kvs.map (·.2)) (ds.map (·.2))) : TV H (.ref a) (.dict ds)
inductive TVs (H : Hp) : List V → List PyData → Prop
  | nil : TVs H [] []
  | cons {v : V} {vs : List V} {d : PyData} {ds : List PyData} (h : TV H v d) (hs : TVs H vs ds) : TVs H (v :: vs) (d :: ds)
end
mutual
theorem TV.ext {H H' : Hp} (e : Ext H H') : ∀ {v : V} {d : PyData}, TV H v d → TV H' v d
  | _, _, .non => .non
  | _, _, .bl b => .bl b
  | _, _, .int i => .int i
  | _, _, .str x => .str x
  | _, _, .lst q h => .lst (e _ _ q) (h.ext e)
  | _, _, .tup q h => .tup (e _ _ q) (h.ext e)
  | _, _, .dct q h1 h2 => .dct (e _ _ q) (h1.ext e) (h2.ext e)
theorem TVs.ext {H H' : Hp} (e : Ext H H') : ∀ {vs : List V} {ds : List PyData}, TVs H vs ds → TVs H' vs ds
  | _, _, .nil => .nil
  | _, _, .cons h hs => .cons (h.ext e) (hs.ext e)
end
section
variable {X : Cx} {pins : List (Addr × Obj)} {σ : L2.St} {H : Hp} {s : Shared}
theorem pairs_keys {P : Program} {w : World} : ∀ {es : List DictEntry} {vs : List (Key × Value)} {kvs : List (Key × V)}, Pairs (mixKind P w) es vs → KV kvs vs → Vals (kvs.map fun p => kV p.1) (es.map (·.key)) ∧ Vals (kvs.map (·.2)) (es.map (·.val))
  | _, _, _, .nil, .nil => ⟨.nil, .nil⟩
  | _, _, _, .cons (kv := kv) h1 h2 h, .cons (a := q) ⟨e1, e2⟩ r => by
    obtain ⟨z1, z2⟩ := pairs_keys h r
    refine ⟨.cons ?_ z1, .cons (by dsimp only; rw [h2]; exact e2) z2⟩
    dsimp only
    rw [e1]
    rcases keyIs_shape h1 with ⟨i, t, ek, ev⟩ | ⟨x, t, ek, ev⟩
    · rw [ek, ev]
      exact ⟨t, rfl⟩
    · rw [ek, ev]
      exact ⟨t, rfl⟩
mutual
/-- what is told of a value as data is so in the heap; none of its lists and dicts is the table of modules -/
theorem reads_of (I : Inv X pins σ H s) (hs : H sysModules = none) : ∀ {v : V} {d : PyData} {u : Value}, TV H v d → RelV v u → ∃ as, Reads s.heap u d as ∧ sysModules ∉ as
  | _, _, _, .non, r => by
    cases r
    exact ⟨[], .none, by simp⟩
  | _, _, _, .bl b, r => by
    cases r
    exact ⟨[], .bool b, by simp⟩
  | _, _, _, .int i, r => by
    obtain ⟨t, rfl⟩ := r
    exact ⟨[], .int i t, by simp⟩
  | _, _, _, .str x, r => by
    obtain ⟨t, rfl⟩ := r
    exact ⟨[], .str x t, by simp⟩
  | .ref a, _, _, .lst e h, r => by
    cases r
    obtain ⟨_, its, n, rv, ho⟩ := (show ObjOk X.prog X.w H s.heap a (.lst _) from I.hok a _ e)
    obtain ⟨as, h1, h2⟩ := readsAll_of I hs h rv
    refine ⟨a :: as, .list ho rfl rfl (by simpa using h1), fun z => ?_⟩
    rcases List.mem_cons.mp z with z | z
    · rw [z, e] at hs
      cases hs
    · exact h2 z
  | .ref a, _, _, .tup e h, r => by
    cases r
    obtain ⟨_, its, rv, o, ho, hc, n, hd⟩ := (show ObjOk X.prog X.w H s.heap a (.tup _) from I.hok a _ e)
    obtain ⟨as, h1, h2⟩ := readsAll_of I hs h rv
    exact ⟨as, .tuple ho hc hd (by simpa using h1), h2⟩
  | .ref a, _, _, .dct e h1 h2, r => by
    cases r
    obtain ⟨_, _, vs, rk, o, es, ep, ho, hx, hd, _, hp, _⟩ := dk_of I.hok e
    obtain ⟨k1, k2⟩ := pairs_keys hp rk
    obtain ⟨as, a1, a2⟩ := readsAll_of I hs h1 k1
    obtain ⟨bs, b1, b2⟩ := readsAll_of I hs h2 k2
    refine ⟨a :: as ++ bs, .dict ho hx.1 hd a1 b1, fun z => ?_⟩
    rcases List.mem_append.mp z with z | z
    · rcases List.mem_cons.mp z with z | z
      · rw [z, e] at hs
        cases hs
      · exact a2 z
    · exact b2 z
theorem readsAll_of (I : Inv X pins σ H s) (hs : H sysModules = none) : ∀ {vs : List V} {ds : List PyData} {us : List Value}, TVs H vs ds → Vals vs us → ∃ as, ReadsAll s.heap us ds as ∧ sysModules ∉ as
  | _, _, _, .nil, .nil => ⟨[], .nil, by simp⟩
  | _, _, _, .cons h t, .cons r rs => by
    obtain ⟨as, a1, a2⟩ := reads_of I hs h r
    obtain ⟨bs, b1, b2⟩ := readsAll_of I hs t rs
    exact ⟨as ++ bs, .cons a1 b1, fun z => (List.mem_append.mp z).elim a2 b2⟩
end
end
/-- repr(x), x plain data -/
def rRepr : List V → Hp → VK → Prop := fun xs H Q => ∃ (v : V) (d : PyData), xs = [v] ∧ TV H v d ∧ d.showable = true ∧ d.depth ≤ 60 ∧ d.shown.length ≤ sizeLine ∧ Q (.str d.shown) H
theorem call_repr {X : Cx} {k : Nat} (hg : X.A.guards = some []) (hr : Room k X.A) (hb : (X.base.get? sysModules).isSome = true) : CallR X (.builtin "repr") rRepr := by
  intro pins s σ H xs us Q I r h
  obtain ⟨v, d, rfl, h, hs, hd, hz, q⟩ := h
  obtain ⟨u, rfl, rv⟩ := vals1 r
  have h0 : H sysModules = none := by
    obtain ⟨o, e⟩ := Option.isSome_iff_exists.mp hb
    exact (I.bs _ _ e).2
  cases h with
  | non =>
    cases rv
    exact PySem.P.repr_of_none ⟨.str _, H, I.tok _, ⟨_, rfl⟩, q⟩
  | bl b =>
    cases rv
    exact PySem.P.repr_of_bool ⟨.str _, H, I.tok _, ⟨_, rfl⟩, q⟩
  | int i =>
    obtain ⟨t, rfl⟩ := rv
    exact PySem.P.repr_of_int (of_decide_eq_true hs) ⟨.str _, H, I.tok _, ⟨_, rfl⟩, q⟩
  | str x =>
    obtain ⟨t, rfl⟩ := rv
    exact PySem.P.repr_of_str ⟨.str _, H, I.tok _, ⟨_, rfl⟩, q⟩ hz
  | lst e h =>
    obtain ⟨as, R, n⟩ := reads_of I h0 (.lst e h) rv
    cases rv
    exact repr_of_reads' R hs (fun _ => n) hg (by have := hr.units; omega) (fun _ _ z => z) (fun h' u tk k => ⟨.str _, H, I.kept (t' := tk) k, ⟨_, rfl⟩, q⟩) hz
  | tup e h =>
    obtain ⟨as, R, n⟩ := reads_of I h0 (.tup e h) rv
    cases rv
    exact repr_of_reads' R hs (fun _ => n) hg (by have := hr.units; omega) (fun _ _ z => z) (fun h' u tk k => ⟨.str _, H, I.kept (t' := tk) k, ⟨_, rfl⟩, q⟩) hz
  | dct e h1 h2 =>
    obtain ⟨as, R, n⟩ := reads_of I h0 (.dct e h1 h2) rv
    cases rv
    exact repr_of_reads' R hs (fun _ => n) hg (by have := hr.units; omega) (fun _ _ z => z) (fun h' u tk k => ⟨.str _, H, I.kept (t' := tk) k, ⟨_, rfl⟩, q⟩) hz
end Ls
end
section
set_option Elab.async false
set_option linter.all false
set_option maxRecDepth 100000
set_option maxHeartbeats 4000000
namespace Ls
open PySem PySem.Spec PyProof.Rows L2 LamX

/-! ### heard(lambda: ..): what is wished of an exception may hang on the hearer's slots -/
section
variable {X : Cx} {pins : List (Addr × Obj)} {σ : L2.St} {H : Hp} {s : Shared}
theorem pe_actS {CXg : CXT} {Eg : XK} {Ng : List Str} {qg : Str} {sg : Scope} {g f c' : Addr} {cdg pm ctv : Value} {params : Arguments} {body : PySem.Expr} {scope : Scope} {k i : Nat} {a : Str} {pn : List (Addr × Obj)} {xe : Value → Shared → Prop} {W : WX} {tb : XK → TE} {p1 p2 : Pos}
    (I : Inv X pins σ H s) (L : LamS X.env.scope scope) (hf : s.heap.get? f = some (PySem.W.kla_obj "<lambda>" (X.env.qual ++ "<lambda>") params body scope (cloFrom X.env.cells scope.names []) pm c' ctv)) (hfn : H f = none) (hfr : f ∉ frs X.stack)
    (hbind : bindArgs (PySem.W.kla_fn "<lambda>" (X.env.qual ++ "<lambda>") params body scope (cloFrom X.env.cells scope.names []) pm (.ref c') ctv) ⟨[], []⟩ = pure [])
    (tk : Takes ((cxOf CXg X.prog X.w X.K X.mg X.base Ng qg sg g cdg X.A X.stack s H Eg).tr pn xe) W) (hr : Room (k + 1) (X.A.deeper (envOfC qg sg s.heap.objs.size g cdg)))
    (hbody : ∀ (A : Around) (outer : List Env) (s : Shared) (H : Hp) (E : XK), Room k (A.deeper (lamEnv X scope s.heap.objs.size f c')) → PE (lamCx X A outer s H E scope f c') body (tb E))
    (hN : Ng[i]? = some a) (hv : Vis sg a) (hd : (a == ("__debug__" : Str)) = false := by decide) (hcd : (a == ("__classdict__" : Str)) = false := by decide) :
    PE ((cxOf CXg X.prog X.w X.K X.mg X.base Ng qg sg g cdg X.A X.stack s H Eg).tr pn xe) (.Call (.Name a p1) [] [] p2)
      (fun σZ HZ Q => σZ[i]? = some (some (.ref f)) ∧ HZ c' = some (CodeO c' (X.env.qual ++ "<lambda>")) ∧ tb (fun cls d H' => W cls d σZ H') σ HZ Q) := by
  refine ⟨fun pinsZ sZ σZ HZ Q IZ h => ?_⟩
  obtain ⟨hs, hc, ht⟩ := h
  -- the same with the wish at these very slots: the library's rule over a wish of its own
  refine wpAny_Call_Name_kw (thn ((pe_var (pos := p1) (i := i) hN hv hd hcd).run pinsZ sZ σZ HZ (fun v H1 => v = .ref f ∧ H1 = HZ) IZ ⟨.ref f, hs, rfl, rfl⟩) fun u s1 ⟨v, H1, I1, r1, q1⟩ => ?_)
  obtain ⟨ev, eH⟩ := q1
  subst ev
  rw [eH] at I1
  obtain rfl : u = Value.ref f := r1
  have of1 := I1.base.keep f _ hf hfn hfr (fun z => nomatch (show f ∈ ([] : List Addr) from z))
  refine PySem.W.callWith_F0 ⟨_, _, _, _, of1⟩ ?_
  have un : Un (frs X.stack) [] H HZ s.heap s1.heap := I1.base
  obtain ⟨⟨oc, vs, t, hoc, hdc, hvc⟩, _, _⟩ := I1.hok c' _ hc
  have rc : codeAny (model X.prog X.w) (X.A.deeper (envOfC qg sg s.heap.objs.size g cdg)) (.call (.ref f) ⟨[], []⟩) (CR (L2.CX X.prog X.w) (envOfC qg sg s.heap.objs.size g cdg :: X.stack) X.prog X.w HZ s1 Q (fun cls d H' => W cls d σZ H')) s1 := by
    refine PySem.W.kla_callFunE hr.depth of1 rfl L.co L.gen rfl ⟨c', oc, vs, t, rfl, hoc, hdc, hvc⟩ ?_
    rw [hbind]
    refine wpAny_pure (wpAny_newFunctionEnv (fun y hy => (L.own y hy).2) (fun y hy => absurd hy (by simp)) (fun h₁ hns hsb => ⟨I1.nolimit.fresh _ hsb, ?_⟩) L.kind)
    show codeAny _ _ (.expr body (lamEnv X scope s1.heap.objs.size f c')) _ _
    have J := lam_start2 (E := fun cls d H' => W cls d σZ H') (f := f) (c' := c') (tk := s1.toks + ([] : List (Str × Value)).length) I L I1.env0 hr.hd un hns fun b o e => hsb.extBut b o (Nat.ne_of_lt (Heap.lt_size e)) (Heap.get?_push_of_some _ e)
    refine PySem.W.kla_codeExpr (wpAny_mono ((hbody _ _ s1 HZ _ (hr.deeper _)).run [] _ _ HZ Q J ht) (fun v s' hq => ?_) fun e s' hq => hq)
    obtain ⟨w', H', J', rv, q⟩ := hq
    exact ⟨w', H', J'.os, J'.bare, J'.base, J'.hok, rv, q⟩
  refine wpAny_call (codeAny_mono rc fun r s' hq => ?_)
  match r, hq with
  | .error e, hq => exact tk e s' (XE.of_call I1 (fun cls d H' h => h) hq)
  | .ok (.ret u), hq => exact I1.after hq
end
/-- the def that calls what it got; TT: what it makes of the lambda's reading -/
def GivesP (P : Program) (w : World) (K : PySem.W.Frag) (mg : Str → Option Value) (base : Heap) (A : Around) (stack : List Env) (Ng : List Str) (x : Str) (sg : Scope) (g : Addr) (cdg : Value) (bg : List Stmt) (a : Str) (q : Str) (TT : (XK → Hp → VK → Prop) → Hp → VK → Prop) : Prop :=
  ∀ (f c' : Addr) (s : Shared) (H : Hp) (Q : VK) (tl : XK → Hp → VK → Prop),
    (∀ (W : WX) (pn : List (Addr × Obj)) (xe : Value → Shared → Prop) (p1 p2 : Pos), Takes ((cxOf C8.CX0 P w K mg base Ng x sg g cdg A stack s H C8.E0).tr pn xe) W →
      PE ((cxOf C8.CX0 P w K mg base Ng x sg g cdg A stack s H C8.E0).tr pn xe) (.Call (.Name a p1) [] [] p2) (fun σZ HZ Q => σZ[0]? = some (some (.ref f)) ∧ HZ c' = some (CodeO c' q) ∧ tl (fun cls d H' => W cls d σZ H') HZ Q)) →
    H c' = some (CodeO c' q) → TT tl H Q →
    ∃ t, PSs (cxOf C8.CX0 P w K mg base Ng x sg g cdg A stack s H C8.E0).nox bg t ∧ t { nx := fun _ H' => Q .non H', rt := Q } (L2.start Ng [.ref f]) H
def GivesS (X : Cx) (Ng : List Str) (x : Str) (sg : Scope) (g : Addr) (cdg : Value) (bg : List Stmt) (a : Str) (q : Str) (TT : (XK → Hp → VK → Prop) → Hp → VK → Prop) : Prop :=
  GivesP X.prog X.w X.K X.mg X.base X.A X.stack Ng x sg g cdg bg a q TT
section
variable {X : Cx}
/-- x(lambda: body) -/
theorem pe_lamS {T : List (Addr × Str)} {TT : (XK → Hp → VK → Prop) → Hp → VK → Prop} {x a : Str} {g c P : Addr} {k : Nat} {st : Stmt} {fd : FuncData} {Ng : List Str}
    {params : Arguments} {body : PySem.Expr} {scope : Scope} {t : XK → TE} {p lpos pos : Pos} (F : Fun X.K x x st g fd) (hg : Gl X x) (hm : X.mg x = some (.ref g))
    (hb : L2.Binds X.K fd [a] []) (Sg : FnScope Ng [a] (defScope st)) (hNg : Ng[0]? = some a) (hva : Vis (defScope st) a)
    (hG : ∀ cdv, GivesS X Ng x (defScope st) g cdv (defBody st) a (X.env.qual ++ "<lambda>") TT)
    (TB : TabB X.base X.mg c P) (hcode : X.env.code = .ref c) (hmT : (P, X.env.qual ++ "<lambda>") ∈ T) (hu : ∀ p ∈ T, p.1 = P → p.2 = X.env.qual ++ "<lambda>") (hr : Room (k + 2) X.A) (L : LamS X.env.scope scope) (hdef : defaultsOf params X.env = ([], []))
    (hbind : ∀ (q : Str) (cl : List (Str × Addr)) (pm cv ctv : Value), bindArgs (PySem.W.kla_fn "<lambda>" q params body scope cl pm cv ctv) ⟨[], []⟩ = pure [])
    (hbody : ∀ (A : Around) (outer : List Env) (s : Shared) (H : Hp) (E : XK) (f c' : Addr), Room k (A.deeper (lamEnv X scope s.heap.objs.size f c')) → PE (lamCx X A outer s H E scope f c') body (t E))
    (hdb : (x == ("__debug__" : Str)) = false := by decide) (hd : (a == ("__debug__" : Str)) = false := by decide) (hcd : (a == ("__classdict__" : Str)) = false := by decide) :
    PE X (.Call (.Name x p) [.Lambda params body scope lpos] [] pos) (tLam T TT t) := by
  obtain ⟨oc, od, kV, doc, pm, an, cdv, ct, osl, rfl, lk, hcg⟩ := F.ex
  refine ⟨fun pins s σ H Q I h => ?_⟩
  obtain ⟨hT, h⟩ := h
  refine wpAny_Call_Name_kw (ld_glob I hg hm ?_ hdb)
  refine PySem.W.callWith_K (h₀ := X.base) I.ok.mod.kin F.kp ?_ (by rfl) (by rfl)
  show wpAny _ _ (spliced ((false, eval (.Lambda params body scope lpos) X.env) :: backTo pos (starEach [] X.env))) _ _ s
  refine Calls.spliced_cons (lam_make2 I TB hcode hmT hu hT hdef (L.has I.ok) fun f c' pm' ctv H1 s' I1 eN T1 hf hfn hfr hco => Calls.spliced_nil ⟨I1.kIn, ?_⟩)
  have rc : codeAny (model X.prog X.w) X.A (.call (.ref g) ⟨[.ref f], []⟩) (CR C8.CX0 X.stack X.prog X.w H1 s' Q C8.E0) s' := by
    refine run_ofS (N := Ng) (ps := [a]) (us := [.ref f]) (vs := [.ref f]) lk hcg Sg hr I1.env0 (hb s' [.ref f] I1.kIn rfl) (.cons rfl .nil) rfl fun hr' => ?_
    obtain ⟨t', ht', hq'⟩ := hG cdv f c' s' H1 Q (fun E H' Q' => t E σ H' Q') (fun W pn xe p1 p2 tk => pe_actS (i := 0) I1 L hf hfn hfr (hbind _ _ _ _ _) tk hr' (fun A outer s H E hr2 => hbody A outer s H E f c' hr2) hNg hva hd hcd) hco (h H1 eN T1)
    exact ⟨t', ht'.nox, hq'⟩
  refine wpAny_call (codeAny_mono rc fun r s2 hq => ?_)
  match r, hq with
  | .error e, hq => exact (show False from hq).elim
  | .ok (.ret u), hq => exact I1.after hq
end
end Ls
end
section
set_option Elab.async false
set_option linter.all false
set_option maxRecDepth 100000
set_option maxHeartbeats 4000000
namespace Ls
open PySem PySem.Spec PyProof.Rows L2

theorem atI_at {α : Type} {xs : List α} {i : Int} {j : Nat} {v : α} (e : i = (j : Int)) (h : xs[j]? = some v) : atI xs i = some v := by
  rw [e]
  exact atI_nat h
theorem Paired.at_ {α β : Type} {F : α → β → Prop} : ∀ {l₁ : List α} {l₂ : List β} {i : Nat} {a : α}, Paired F l₁ l₂ → l₁[i]? = some a → ∃ b, l₂[i]? = some b ∧ F a b
  | _, _, _, _, .nil, h => by simp at h
  | _, _, 0, _, .cons r _, h => by simp at h; subst h; exact ⟨_, rfl, r⟩
  | _, _, i + 1, a, .cons _ t, h => by
    obtain ⟨b, h1, h2⟩ := Paired.at_ (i := i) (a := a) t (by simpa using h)
    exact ⟨b, by simpa using h1, h2⟩
theorem ext_free {H H' : Hp} (e : Ext H H') {a : Addr} (h : H' a = none) : H a = none := by
  cases q : H a with
  | none => rfl
  | some o => rw [e a o q] at h; cases h

/-! ### what is seen of a heap: without the places S, without the tables of code objects -/
def vis (S : List Addr) (H : Hp) : Hp := fun b => if b ∈ S then none else match H b with | some (.tbl _) => none | o => o
theorem vis_some {S : List Addr} {H : Hp} {b : Addr} {o : HO} (h : vis S H b = some o) : b ∉ S ∧ H b = some o ∧ ∀ ps, o ≠ .tbl ps := by
  unfold vis at h
  by_cases e : b ∈ S
  · rw [if_pos e] at h
    cases h
  · rw [if_neg e] at h
    cases q : H b with
    | none => rw [q] at h; cases h
    | some u =>
      rw [q] at h
      cases u <;> first | (cases h; done) | (cases h; exact ⟨e, rfl, fun ps z => nomatch z⟩)
theorem vis_at {S : List Addr} {H : Hp} {b : Addr} {o : HO} (h : b ∉ S) (q : H b = some o) (n : ∀ ps, o ≠ .tbl ps) : vis S H b = some o := by
  unfold vis
  rw [if_neg h, q]
  cases o <;> first | rfl | exact absurd rfl (n _)
theorem vis_ext {S : List Addr} {H : Hp} : Ext (vis S H) H := fun a o e => (vis_some e).2.1
theorem vis_mono {S : List Addr} {H H' : Hp} (e : Ext H H') : Ext (vis S H) (vis S H') := fun a o h => by
  obtain ⟨h1, h2, h3⟩ := vis_some h
  exact vis_at h1 (e a o h2) h3
theorem vis_keep {p c : Addr} {S : List Addr} {H H' : Hp} (k : Keep p c H H') (hp : p ∈ S) (hc : c ∈ S) : Ext (vis S H) (vis S H') := fun a o e => by
  obtain ⟨h1, h2, h3⟩ := vis_some e
  exact vis_at h1 (k a o h2 (fun z => h1 (by rw [z]; exact hp)) fun z => h1 (by rw [z]; exact hc)) h3
theorem vis_extN {S : List Addr} {H H' : Hp} (k : LamX.ExtN H H') : Ext (vis S H) (vis S H') := fun a o e => by
  obtain ⟨h1, h2, h3⟩ := vis_some e
  exact vis_at h1 (k a o h2 h3) h3
theorem vis_new {S : List Addr} {H H' : Hp} (h : ∀ b ∈ S, H b ≠ none) : ∀ {a : Addr} {o : HO}, nw H H' a = some o → (∀ ps, o ≠ .tbl ps) → vis S H' a = some o := fun {a o} e n => by
  obtain ⟨h1, h2⟩ := nw_some e
  exact vis_at (fun z => h a z h1) h2 n
theorem tabs_keep {T : List (Addr × Str)} {p c : Addr} {H H' : Hp} (t : LamX.Tabs T H) (k : Keep p c H H') {xs ys : List V} (hp : H p = some (.lst xs)) (hc : H c = some (.lst ys)) : LamX.Tabs T H' := fun q hq => by
  obtain ⟨ps, h1, h2, h3⟩ := t q hq
  have n : ∀ {b : Addr} {o : HO}, H b = some o → (∀ zs, o ≠ .lst zs) → H' b = some o := fun {b o} e n => k b o e (fun z => by
      rw [z, hp] at e
      exact n xs (Option.some.inj e).symm) fun z => by
      rw [z, hc] at e
      exact n ys (Option.some.inj e).symm
  refine ⟨ps, n h1 (fun zs z => by cases z), h2, fun pos cv hcv => ?_⟩
  obtain ⟨c', e1, e2⟩ := h3 pos cv hcv
  exact ⟨c', e1, n e2 (fun zs z => by unfold LamX.CodeO at z; cases z)⟩

theorem tabs_upd {T : List (Addr × Str)} {p : Addr} {H : Hp} {o : HO} (t : LamX.Tabs T H) {xs : List V} (hp : H p = some (.lst xs)) : LamX.Tabs T (upd H p o) := tabs_keep (c := p) t Keep.upd1 hp hp
theorem tabs_upd2 {T : List (Addr × Str)} {p : Addr} {H : Hp} {o : HO} (t : LamX.Tabs T H) {kvs : List (Key × V)} (hp : H p = some (.dK kvs)) : LamX.Tabs T (upd H p o) := fun q hq => by
  obtain ⟨ps, h1, h2, h3⟩ := t q hq
  refine ⟨ps, ?_, h2, fun pos cv hcv => ?_⟩
  · rw [upd_ne fun z => by rw [z, hp] at h1; cases h1]
    exact h1
  · obtain ⟨c', e1, e2⟩ := h3 pos cv hcv
    refine ⟨c', e1, ?_⟩
    rw [upd_ne fun z => by rw [z, hp] at e2; unfold LamX.CodeO at e2; cases e2]
    exact e2
/-! ### own errors with fields, by one word -/
/-- the __init__ of an error class at C that keeps its arguments under the names fs -/
def spX (C : Addr) (fs : List Str) : Sp := fun vs H Q _ => ∃ (a : Addr) (ys : List V), vs = .ref a :: ys ∧ ys.length = fs.length ∧ H a = some (exo a C none) ∧
  ∀ (dx : Addr) (H' : Hp), H dx = none → dx ≠ a → H' a = some (exo a C (some dx)) → H' dx = some (exd dx (fs.zip ys).reverse) → (∀ b, b ≠ a → b ≠ dx → H' b = H b) → Q .non H'
section
variable (P : Program) (w : World) (K : PySem.W.Frag) (mg : Str → Option Value) (base : Heap)
structure Xer (C : Addr) (x : Str) (fs : List Str) : Prop where
  m : mg x = some (.ref C)
  oex : OexC K C
  ex : ∃ fI fd ps, PySem.W.findIn K (.ref C) "__init__" = some (some (.ref fI)) ∧ PySem.W.typeIn K (.ref fI) = some (.type "function") ∧ FnOk P w K mg base CX0 1 fI fd ps (spX C fs) ∧ Binds K fd ps []
end
theorem pa_weak {X : Cx} {es : List PySem.Expr} {ta : TA} (h : PA X es ta) : PA X es (fun σ H Q => ∃ Q0 : List V → Hp → Prop, ta σ H Q0 ∧ ∀ ys H1, Q0 ys H1 → Q ys H1) :=
  ⟨fun pos pins s σ H Q I ⟨Q0, h0, k⟩ => thn (h.run pos pins s σ H Q0 I h0) fun us s1 ⟨vs, H1, I1, r, q⟩ => ⟨vs, H1, I1, r, k _ _ q⟩⟩
section
variable {X : Cx} {C : Addr} {x : Str} {fs : List Str} {p pos : Pos} {e : PySem.Expr} {es : List PySem.Expr} {ta : TA}
theorem pmk_err (c : Xer X.prog X.w X.K X.mg X.base C x fs) (hr : Room 2 X.A) (hg : Gl X x) (ha : PA X (e :: es) ta)
    (hdb : (x == ("__debug__" : Str)) = false := by decide) (he : starEach (e :: es) X.env = (false, eval e X.env) :: starEach es X.env := by rfl) (hpl : (backTo pos (starEach es X.env)).any (·.1) = false := by rfl) :
    PMk X (.Call (.Name x p) (e :: es) [] pos) (fun σ H Q => ta σ H fun ys H1 => ys.length = fs.length ∧ ys.length ≤ 1000 ∧ ∀ d, H1 d = none → Q (.ref C) (some d) (upd H1 d (.xd (fs.zip ys).reverse))) := by
  obtain ⟨fI, fd, ps, iC, tI, F, hb⟩ := c.ex
  have h := pmk_oex (dvs := []) (ds := []) (p := p) (pos := pos) c.oex iC tI F hr hb .nil pass0 hg c.m (pa_weak ha) hdb he hpl
  intro pins s σ H Q I hq
  refine h pins s σ H Q I ?_
  refine ⟨_, hq, fun ys H1 ⟨hl, hz, k⟩ => ?_⟩
  refine ⟨hz, fun a na => ⟨a, ys ++ [], by simp, by simpa using hl, upd_same, fun dx H2 n1 n2 h1 h2 h3 => ⟨rfl, dx, _, h1, h2, ?_, ?_⟩⟩⟩
  · rw [upd_ne n2] at n1
    exact n1
  · rw [upd_ne n2] at n1
    have eH : upd (del H2 a) dx (.xd (fs.zip (ys ++ [])).reverse) = upd H1 dx (.xd (fs.zip ys).reverse) := by
      rw [List.append_nil]
      funext b
      by_cases hb : b = dx
      · rw [hb, upd_same, upd_same]
      · rw [upd_ne hb, upd_ne hb]
        by_cases ha : b = a
        · rw [ha, del_same, na]
        · rw [del_ne ha, h3 b ha hb, upd_ne ha]
    rw [eH]
    exact k dx n1
end

/-! ### what passes on in a def's body, in a lambda's, in an __init__ that says super() -/
section
variable {P : Program} {w : World} {K : PySem.W.Frag} {mg : Str → Option Value} {base : Heap} {N : List Str} {qual : Str} {scope : Scope} {f cc : Addr} {cd : Value} {A : Around} {outer : List Env} {s : Shared} {H : Hp} {E : XK}
theorem tkC : Takes (cxOf (L2.CX P w) P w K mg base N qual scope f cd A outer s H E) (fun cls d _ H => E cls d H) := takes_of rfl rfl rfl rfl
theorem passC : Passes (L2.CX P w) (cxOf (L2.CX P w) P w K mg base N qual scope f cd A outer s H E) E := passes_call tkC fun _ _ _ _ h => h
theorem tkS : Takes (cxS (L2.CX P w) P w K mg base N qual scope f cd cc A outer s H E) (fun cls d _ H => E cls d H) := takes_of rfl rfl rfl rfl
theorem passS : Passes (L2.CX P w) (cxS (L2.CX P w) P w K mg base N qual scope f cd cc A outer s H E) E := passes_call tkS fun _ _ _ _ h => h
theorem passN {X : Cx} : Passes (L2.CX P w) X (fun _ _ _ => False) := fun _ _ _ _ _ _ _ h => by
  obtain ⟨_, _, _, _, _, _, _, _, _, _, _, _, z⟩ := h
  exact z.elim
theorem tkL {X : Cx} {c' : Addr} : Takes (LamX.lamCx X A outer s H E scope f c') (fun cls d _ H => E cls d H) := takes_of rfl rfl rfl rfl
theorem passLm {X : Cx} {c' : Addr} : Passes (L2.CX X.prog X.w) (LamX.lamCx X A outer s H E scope f c') E := passes_call tkL fun _ _ _ _ h => h
end
/-! ### plain data: its type, its truth as a name -/
def tyN : PyData → String
  | .none => "NoneType"
  | .bool _ => "bool"
  | .int _ => "int"
  | .str _ => "str"
  | .list _ => "list"
  | .tuple _ => "tuple"
  | .dict _ => "dict"
theorem tyX_of {K : PySem.W.Frag} {H : Hp} {v : V} {d : PyData} (h : TV H v d) : TyX K H v (.type (tyN d)) := by
  cases h with
  | non => exact .base .non
  | bl b => exact .base (.bl b)
  | int i => exact .base (.int i)
  | str x => exact .base (.str x)
  | lst e _ => exact .base (.lst e)
  | tup e _ => exact .base (.tup e)
  | dct e _ _ => exact .base (.dK e)
def isStrD : PyData → Bool
  | .str _ => true
  | _ => false
theorem kit_str {K : PySem.W.Frag} (d : PyData) : PySem.W.kitOne K (.type (tyN d)) (.type "str") = some (isStrD d) := by
  have k1 : kitB "NoneType" "str" = some false := by decide +kernel
  have k2 : kitB "bool" "str" = some false := by decide +kernel
  have k3 : kitB "int" "str" = some false := by decide +kernel
  have k4 : kitB "str" "str" = some true := by decide +kernel
  have k5 : kitB "list" "str" = some false := by decide +kernel
  have k6 : kitB "tuple" "str" = some false := by decide +kernel
  have k7 : kitB "dict" "str" = some false := by decide +kernel
  cases d <;> first | exact kit_ty k1 | exact kit_ty k2 | exact kit_ty k3 | exact kit_ty k4 | exact kit_ty k5 | exact kit_ty k6 | exact kit_ty k7
theorem strD {d : PyData} (h : isStrD d = true) : ∃ z, d = .str z := by
  cases d <;> first | exact ⟨_, rfl⟩ | cases h
theorem tv_str {H : Hp} {v : V} {z : Str} (h : TV H v (.str z)) : v = .str z := by
  cases h
  rfl
/-- texts within are short -/
def SmD (d : PyData) : Prop := ∀ z, d = .str z → z.length ≤ 1000
/-- a def that closes over __class__ -/
structure FunS (K : PySem.W.Frag) (x qual : Str) (st : Stmt) (f : Addr) (fd : FuncData) (cda cc : Addr) : Prop where
  ex : ∃ (oc : Value) (od : Option Addr) (kV doc pm : Value) (an : Option Addr) (ct : Value) (osl : Array (Option Value)),
    fd = PySem.W.ksFn x qual (defArgs st) (defBody st) (defScope st) .none kV doc pm an (.ref cda) ct cc ∧ K.lookup f = some ⟨oc, od, .func fd, osl⟩ ∧ PySem.W.codeIn K (.ref cda) qual = true
  kp : PySem.W.keepIn K (.ref f) = true

/-! ### a comprehension that makes one item a turn; what is kept may hang on the turn -/
section
variable {J : It} {n : Nat} {G : Hp → Prop} {Y : Nat → Hp → V → Hp → Prop} {g : TG} {te : TE} {vs : List Nat} {σ : L2.St} {H1 : Hp} {D : Addr} {Qd : Hp → Prop}
theorem lc_mapI (w : Walk J n G Y) (S : List Addr) (hS : D ∈ S) (Iv : Nat → Hp → Prop) (R : Nat → V → Hp → Prop) (hn : n ≤ 100000) (hm : ∀ j y H H', Ext H H' → R j y H → R j y H')
    (hIv : ∀ i H o, Iv i H → Iv i (upd H D o)) (h0 : Iv 0 (upd H1 D (.lst []))) (hG : ∀ i H, Ext (hid S H1) (hid S H) → Iv i H → G H)
    (hs : ∀ i x H H' acc (C : VK), i < n → Ext (hid S H1) (hid S H) → Iv i H → H D = some (.lst acc) → Y i H x H' → (∀ y H4, H4 D = some (.lst acc) → Ext (hid S H) (hid S H4) → Iv (i + 1) H4 → R i y (hid S H4) → C y H4) →
      g x (wipe σ vs) H' fun σ2 H2 => wipe σ2 vs = wipe σ vs ∧ te σ2 H2 C)
    (hd : ∀ H ys, Ext (hid S H1) (hid S H) → Iv n H → H D = some (.lst ys) → ys.length = n → (∀ j y, ys[j]? = some y → R j y (hid S H)) → Qd H) :
    ∃ W : Nat → Nat → Hp → Prop, (∃ m, W 0 m (upd H1 D (.lst []))) ∧ ∀ i m H, W i m H →
      (J.stop i H ∧ Qd H) ∨ (J.go i H ∧ ∃ Nx : Hp → Prop, (∀ H', Nx H' → ∃ m', m' < m ∧ W (i + 1) m' H') ∧ ∀ x H', J.yld i H x H' → g x (wipe σ vs) H' fun σ2 H2 => wipe σ2 vs = wipe σ vs ∧ tYes σ2 H2 fun b H3 =>
        if b = true then te σ2 H3 fun y H4 => ∃ acc, H4 D = some (.lst acc) ∧ acc.length < sizeLine ∧ Nx (upd H4 D (.lst (acc ++ [y]))) else Nx H3) := by
  refine lc_it w (fun i H => ∃ ys : List V, H D = some (.lst ys) ∧ ys.length = i ∧ Ext (hid S H1) (hid S H) ∧ Iv i H ∧ ∀ j y, ys[j]? = some y → R j y (hid S H))
    ⟨[], upd_same, rfl, by rw [hid_upd hS]; exact Ext.rfl', h0, fun j y e => by simp at e⟩ (fun i H _ ⟨_, _, _, e, iv, _⟩ => hG i H e iv) ?_ ?_
  · rintro i x H H' hi ⟨ys, hD, hl, e, iv, r⟩ y
    refine hs i x H H' ys _ hi e iv hD y fun v H4 h4 e4 iv4 r4 => ?_
    refine ⟨ys, h4, Nat.lt_of_le_of_lt (show ys.length ≤ 100000 by omega) (by decide), ys ++ [v], upd_same, by rw [List.length_append, hl]; rfl, by rw [hid_upd hS]; exact e.trans e4, hIv _ _ _ iv4, fun j z hz => ?_⟩
    rw [hid_upd hS]
    by_cases hj : j < ys.length
    · rw [List.getElem?_append_left hj] at hz
      exact hm j z _ _ e4 (r j z hz)
    · rw [List.getElem?_append_right (by omega)] at hz
      have : j = i := by
        cases q : j - ys.length with
        | zero => omega
        | succ k => rw [q] at hz; simp at hz
      subst this
      rw [hl] at hz
      simp at hz
      subst hz
      exact r4
  · rintro H ⟨ys, hD, hl, e, iv, r⟩
    exact hd H ys e iv hD hl r
end

/-! ### C.m(a = v), m a classmethod -/
section
variable (P : Program) (w : World) (K : PySem.W.Frag) (mg : Str → Option Value) (base : Heap) (CX : CXT) (k : Nat)
structure ClmK (C : Addr) (m a : Str) (sp : Sp) : Prop where
  ex : ∃ mc p g fd c, ClX.CRead K C mc ∧ ClX.CMet K C mc m p g ∧ FnOk P w K mg base CX k g fd [c, a] sp ∧ ∀ (s : Shared) (u : Value), BindsTo s fd ⟨[.ref C], [(a, u)]⟩ [(c, .ref C), (a, u)]
end
section
variable {X : Cx} {CX : CXT} {k : Nat} {C : Addr} {sp : Sp} {E : XK} {m a : Str} {pos apos : Pos} {o : PySem.Expr} {kws : List Keyword} {ta : TE} {tk : TA} {pl : Sem Bool}
theorem pe_clmk (c : ClmK X.prog X.w X.K X.mg X.base CX k C m a sp) (hr : Room k X.A) (ho : PE X o ta) (hx : Passes CX X E) (hkw : PK X kws tk)
    (hall : (backToKw pos (keywordEach kws X.env)).all (·.1.isSome) = true := by rfl) (hks : (backToKw pos (keywordEach kws X.env)).filterMap (·.1) = [a] := by rfl)
    (hpl : ((backTo pos (starEach [] X.env)).any (·.1) || (backToKw pos (keywordEach kws X.env)).any (·.1.isNone)) = false := by rfl)
    (ht : eval (.Call (.Attribute o m apos) [] kws pos) X.env = (do
      let ov ← eval o X.env
      standAt apos.atName
      let (f, first) ← holding [ov] (getMethod ov m pl)
      callWith pos f first (backTo pos (starEach [] X.env)) (backToKw pos (keywordEach kws X.env))) := by rfl) :
    PE X (.Call (.Attribute o m apos) [] kws pos) (fun σ H Q => ta σ H fun x H1 => x = .ref C ∧ tk σ H1 fun zs H2 => ∃ z, zs = [z] ∧ sp [.ref C, z] H2 Q E) := by
  obtain ⟨mc, p, g, fd, cn, r, c, F, hb⟩ := c.ex
  refine ⟨fun pins s σ H Q I h => ?_⟩
  refine PySem.W.methodCall_KW (pl := pl) (thn (ho.run pins s σ H _ I h) fun u s1 ⟨x, H1, I1, rx, ex, q⟩ => ?_) ht
  subst ex
  obtain rfl : u = Value.ref C := rx
  refine ClX.getmethcm_ok I1 r c fun s2 I2 => ?_
  refine PySem.W.callWith_of (P := PySem.W.MethP X.K s1.heap.objs.size g (.ref C)) hpl (PySem.W.keeps_M c.fi) (evalArgs_kw2_nil hall ?_)
  refine thn (hkw.run pos _ s2 σ H1 _ I2 q) fun ws s3 ⟨zs, H2, I3, rz, z, ez, q3⟩ => ?_
  subst ez
  refine ⟨⟨ClX.pin_at I3, I3.kIn⟩, ?_⟩
  rw [hks]
  obtain ⟨u, rfl, ru⟩ := vals1 rz
  have r2 : Vals [V.ref C, z] [Value.ref C, u] := .cons rfl (.cons ru .nil)
  have run := F.run X.A X.stack s3 H2 ⟨[.ref C], [(a, u)]⟩ [.ref C, u] [.ref C, z] Q E hr I3.env0 (hb s3 u) r2 q3
  have z2 : wpAny (model X.prog X.w) X.A (call (.ref s1.heap.objs.size) [] [(a, u)]) (EP X ((s1.heap.objs.size, PySem.W.methodObj (.ref g) (.ref C)) :: pins) σ Q) X.xe s3 := by
    refine wpAny_call (PySem.W.method_call (ClX.pin_at I3) (codeAny_mono run fun res s' hq => ?_))
    match res, hq with
    | .error e, hq => exact hx _ σ H2 s3 e s' I3 hq
    | .ok (.ret u), hq => exact I3.after hq
  exact thn z2 fun _ _ y => ClX.unpinE y
end

mutual
theorem tv_vis {H : Hp} : ∀ {v : V} {d : PyData}, TV H v d → TV (vis [] H) v d
  | _, _, .non => .non
  | _, _, .bl b => .bl b
  | _, _, .int i => .int i
  | _, _, .str x => .str x
  | _, _, .lst q h => .lst (vis_at (by simp) q fun _ z => by cases z) (tvs_vis h)
  | _, _, .tup q h => .tup (vis_at (by simp) q fun _ z => by cases z) (tvs_vis h)
  | _, _, .dct q h1 h2 => .dct (vis_at (by simp) q fun _ z => by cases z) (tvs_vis h1) (tvs_vis h2)
theorem tvs_vis {H : Hp} : ∀ {vs : List V} {ds : List PyData}, TVs H vs ds → TVs (vis [] H) vs ds
  | _, _, .nil => .nil
  | _, _, .cons h hs => .cons (tv_vis h) (tvs_vis hs)
end
end Ls
end
section
set_option Elab.async false
set_option linter.all false
set_option maxRecDepth 100000
set_option maxHeartbeats 4000000
namespace Ls
open PySem PySem.Spec PyProof.Rows L2

/-! ### x == y and x != y by an own __eq__, both answers, y of any kind -/
namespace OW
open PySem.W
section
variable {prog : Program} {w : World} {A : Around} {E : Value → Shared → Prop} {s : Shared} {K : Frag} {x C f : Addr} {ox : Obj} {od : Option Obj} {b tb : Value}
theorem ifBound_B {M : Model} {id : String} {name : Str} {args : List Value} {Q : Option Value → Shared → Prop} (X : K.In s.heap) (I : InstAt s.heap x ox C od) (hs : findIn K (.ref C) name = some (some (.builtin id))) (hb : bindSpecial (.builtin id) (.ref x) = pure (.builtin id, [.ref x]))
    (h : wpAny M A (call (.builtin id) (.ref x :: args)) (fun v => Q (some v)) E s) : wpAny M A (callSpecialIfBound? (.ref x) name args) Q E s := by
  simp only [callSpecialIfBound?, bindSpecialIfBound?]
  refine wpAny_holding (wpAny_bind (wpAny_bind (wpAny_bind (I.type.here ((looks_findIn X hs).here ?_)))))
  refine wpAny_bind (wpAny_askSetting (wpAny_ite ?_))
  have last : wpAny M A (call (.builtin id) ([.ref x] ++ args) >>= fun v => pure (some v)) Q E s := wpAny_bind (wpAny_mono h (fun v s' h' => wpAny_pure h') fun _ _ h' => h')
  split
  · exact wpAny_bind (wpAny_of_eq hb (wpAny_pure (by exact last)))
  · exact wpAny_tryCatch (wpAny_bind (wpAny_of_eq hb (wpAny_pure (by exact last))))
theorem ne_body {Q : Fin → Shared → Prop} (hu : A.units < cLine) (X : K.In s.heap) (I : InstAt s.heap x ox C od) (hs : findIn K (.ref C) "__eq__" = some (some (.ref f))) (hf : isFn K (.ref f) = true)
    (h : wpAny (model prog w) A (call (.ref f) [.ref x, b]) (fun v s' => ∃ r, v = .bool r ∧ Q (.done (.ret (.bool (!r)))) s') E s) : wpAny (model prog w) A (Builtin.«object.__ne__» ⟨[.ref x, b], []⟩) Q E s := by
  unfold Builtin.«object.__ne__»
  refine wpAny_bind (wpAny_of_eq (a := ((Value.ref x : Value), [b])) (by first | rfl | (simp only [slotArgs]; rfl)) ?_)
  refine wpAny_bind (wpAny_cRoomFor hu ?_)
  refine wpAny_bind (ifBound_K X I hs hf (wpAny_mono h (fun v s' hv => ?_) fun _ _ e => e))
  obtain ⟨r, rfl, q⟩ := hv
  exact wpAny_bind (wpAny_truthy_bool (wpAny_pure q))
theorem rich_ne {L : Addr} {h₀ : Heap} {m : Str → Option Value} {Q : Value → Shared → Prop} (hu : A.units + 1 < cLine) (F : Fr h₀ L s.heap m) (X₀ : K.In h₀) (I : InstAt s.heap x ox C od) (ht : Looks (model prog w) s.heap (typeOf b) tb) (hn : notFirst K C tb = true)
    (hs : findIn K (.ref C) "__eq__" = some (some (.ref f))) (hf : isFn K (.ref f) = true) (hne : findIn K (.ref C) "__ne__" = some (some (.builtin "object.__ne__"))) (hm : mroIn K C (.type "object") = some true)
    (h : wpAny (model prog w) A.in1 (call (.ref f) [.ref x, b]) (fun v s' => ∃ r, v = .bool r ∧ Q (.bool (!r)) s') E s) : wpAny (model prog w) A (richCompare .NotEq (.ref x) b) Q E s := by
  have X := X₀.keeps F.keep
  have sub : Looks (model prog w) s.heap (isInstance (.ref x) (.type "object")) true := I.type.andThen (looks_mroIn X hm)
  have bd : bindSpecial (.builtin "object.__ne__") (.ref x) = pure (.builtin "object.__ne__", [.ref x]) := PySem.F.cmp_object.ne.bind _
  have one : wpAny (model prog w) A (tryCompare (.ref x) "__ne__" b) (fun r s' => ∃ v, r = some (.bool v) ∧ Q (.bool v) s') E s := by
    unfold tryCompare
    refine wpAny_bind (ifBound_B X I hne bd ?_)
    obtain ⟨hp, g, d, t, os⟩ := s
    refine wpAny_call (codeAny_call_builtin PySem.F.cmp_object.ne.plain PySem.F.cmpEntry_ne (@check_slot (model prog w) _ _ ⟨hp, g, d, t, os⟩ "object.__ne__" "object" "__ne__" (.ref x) [b] [] _ PySem.F.cmpKind_ne PySem.F.cmpSplit_ne sub (PySem.F.cmpArgs_ne _ _) ?_))
    refine ne_body (A := A.in1) hu X I hs hf (wpAny_mono h (fun v s' hv => ?_) fun _ _ e => e)
    obtain ⟨r, rfl, q⟩ := hv
    exact ⟨r, rfl, wpAny_pure ⟨_, rfl, q⟩⟩
  unfold richCompare
  simp only [oneThing_ref]
  refine wpAny_holding (wpAny_bind (wpAny_cRoomFor (by omega) (wpAny_bind (I.type.here (wpAny_bind (ht.here ?_))))))
  split
  · rename_i q
    have e : subIn K tb (.ref C) = some false := by
      rcases Bool.or_eq_true_iff.mp hn with e | e
      · rw [beq_iff_eq.mp e] at q
        simp at q
      · exact beq_iff_eq.mp e
    refine wpAny_bind ((looks_subIn X e).here ?_)
    simp only [Bool.false_eq_true, if_false]
    refine wpAny_bind (wpAny_mono one (fun r s' z => ?_) fun _ _ e => e)
    obtain ⟨v, rfl, hq⟩ := z
    exact wpAny_pure hq
  · refine wpAny_bind (wpAny_pure ?_)
    simp only [Bool.false_eq_true, if_false]
    refine wpAny_bind (wpAny_mono one (fun r s' z => ?_) fun _ _ e => e)
    obtain ⟨v, rfl, hq⟩ := z
    exact wpAny_pure hq
end
end OW
/-- x == y: x an instance, its class's own __eq__ at f keeps sp -/
def rEqO (K : PySem.W.Frag) (f : Addr) (sp : Sp) (E : XK) : R2 := fun x y H Q => ∃ (a C dx : Addr) (fs : List (Str × V)) (tb : Value), x = .ref a ∧ H a = some (.ins C dx fs) ∧ PySem.W.findIn K (.ref C) "__eq__" = some (some (.ref f)) ∧ TyX K H y tb ∧ PySem.W.notFirst K C tb = true ∧
  sp [x, y] H (fun v H' => ∃ r, v = .bl r ∧ Q (.bl r) H') E
def rNeO (K : PySem.W.Frag) (f : Addr) (sp : Sp) (E : XK) : R2 := fun x y H Q => ∃ (a C dx : Addr) (fs : List (Str × V)) (tb : Value), x = .ref a ∧ H a = some (.ins C dx fs) ∧ PySem.W.findIn K (.ref C) "__eq__" = some (some (.ref f)) ∧ PySem.W.findIn K (.ref C) "__ne__" = some (some (.builtin "object.__ne__")) ∧ PySem.W.mroIn K C (.type "object") = some true ∧
  TyX K H y tb ∧ PySem.W.notFirst K C tb = true ∧ sp [x, y] H (fun v H' => ∃ r, v = .bl r ∧ Q (.bl (!r)) H') E
section
variable {X : Cx} {CX : CXT} {n : Nat} {f : Addr} {sp : Sp} {E : XK}
theorem op_eqO (F : FnR X.prog X.w X.K X.mg X.base CX n f sp) (hf : PySem.W.isFn X.K (.ref f) = true) (hr : Room n X.A) (hx : Passes CX X E) : OpR X (compareOp .Eq) (rEqO X.K f sp E) := by
  intro pins s σ H x y v u Q I rx ry h
  obtain ⟨a, C, dx, fs, tb, rfl, ha, hs, ty, hn, q⟩ := h
  cases (show v = Value.ref a from rx)
  obtain ⟨mA, J, _⟩ := ins_get I.hok ha
  obtain ⟨od, J, _⟩ := J.look
  obtain ⟨m, hF⟩ := I.fr
  obtain ⟨P, Z, p, _⟩ := kit_of I ry ty
  show wpAny (model X.prog X.w) X.A (richCompare .Eq (.ref a) u) (EP X pins σ Q) X.xe s
  refine PySem.W.cmp_K (op := .Eq) hr.units0 hF I.ok.mod.kin J (Z.ty _ _ I.kIn p) hn hs hf ?_
  have r2 : Vals [V.ref a, y] [Value.ref a, u] := .cons rfl (.cons ry .nil)
  refine thn (wpAny_call (run_fnR F hr hx I r2 q)) fun w' s' ⟨z, H', I', rz, r, ez, q'⟩ => ?_
  subst ez
  cases rz
  exact ⟨.bl r, H', I', rfl, q'⟩
theorem op_neO (F : FnR X.prog X.w X.K X.mg X.base CX n f sp) (hf : PySem.W.isFn X.K (.ref f) = true) (hr : Room (n + 1) X.A) (hx : ∀ (pins : List (Addr × Obj)) (σ : L2.St) (H : Hp) (s : Shared) (e : Value) (s' : Shared), Inv X pins σ H s → CX X.stack H s E e s' → X.xe e s') : OpR X (compareOp .NotEq) (rNeO X.K f sp E) := by
  intro pins s σ H x y v u Q I rx ry h
  obtain ⟨a, C, dx, fs, tb, rfl, ha, hs, hne, hm, ty, hn, q⟩ := h
  cases (show v = Value.ref a from rx)
  obtain ⟨mA, J, _⟩ := ins_get I.hok ha
  obtain ⟨od, J, _⟩ := J.look
  obtain ⟨m, hF⟩ := I.fr
  obtain ⟨P, Z, p, _⟩ := kit_of I ry ty
  show wpAny (model X.prog X.w) X.A (richCompare .NotEq (.ref a) u) (EP X pins σ Q) X.xe s
  refine OW.rich_ne (by have := hr.units; omega) hF I.ok.mod.kin J (Z.ty _ _ I.kIn p) hn hs hf hne hm ?_
  refine wpAny_call (codeAny_mono (F X.A.in1 X.stack s H [.ref a, u] [.ref a, y] _ E hr.in1 I.env0.in1 (.cons rfl (.cons ry .nil)) q) fun r s' hq => ?_)
  match r, hq with
  | .error e, hq => exact hx pins σ H s e s' I hq
  | .ok (.ret w'), hq =>
    obtain ⟨z, H', I', rz, r, ez, q'⟩ := I.after hq
    subst ez
    cases rz
    exact ⟨r, rfl, .bl (!r), H', I', rfl, q'⟩
end

/-! ### the same, the written part by its own name (for a block) -/
section
variable {X : Cx} {P : Program} {w : World} {K : PySem.W.Frag} {mg : Str → Option Value} {base : Heap} {CX : CXT} {n : Nat} {f : Addr} {sp : Sp} {E : XK} {A : Around}
theorem op_eqOK (F : FnR P w K mg base CX n f sp) (hf : PySem.W.isFn K (.ref f) = true) (hr : Room n A) (hP : X.prog = P) (hw : X.w = w) (hK : X.K = K) (hmg : X.mg = mg) (hb : X.base = base) (hA : X.A = A) (hx : Passes CX X E) : OpR X (compareOp .Eq) (rEqO K f sp E) := by
  subst hP hw hK hmg hb hA
  exact op_eqO F hf hr hx
theorem ix_listK (hK : X.K = K) : IxR X (rIxL K) := by
  subst hK
  exact ix_list
end
end Ls
end
section
set_option Elab.async false
set_option linter.all false
set_option maxRecDepth 100000
set_option maxHeartbeats 4000000
namespace Ls
open PySem PySem.Spec PyProof.Rows L2
open TL
/-! ### a text cut at one sign -/
theorem pre1 (s c : Nat) (r : List Nat) : pre [s] (c :: r) = decide (c = s) := by
  show ((c :: r).take 1 == [s]) = _
  by_cases h : c = s
  · subst h
    simp
  · have : ¬ [c] = [s] := fun e => h (List.cons.inj e).1
    simp [h]
theorem spl1_ne (s : Nat) : ∀ (l acc : List Nat), spl [s] 0 acc l ≠ []
  | [], acc => by rw [spl_nil]; simp
  | c :: r, acc => by
    by_cases h : c = s
    · rw [spl_hit (by rw [pre1, decide_eq_true h])]
      simp
    · rw [spl_miss (by rw [pre1, decide_eq_false h])]
      exact spl1_ne s r _
theorem joinL_cons (S a : List Nat) : ∀ {l : List (List Nat)}, l ≠ [] → joinL S (a :: l) = a ++ (S ++ joinL S l)
  | [], h => absurd rfl h
  | b :: r, _ => rfl
theorem spl1_join (s : Nat) : ∀ (l acc : List Nat), joinL [s] (spl [s] 0 acc l) = acc ++ l
  | [], acc => by
    rw [spl_nil, List.append_nil]
    rfl
  | c :: r, acc => by
    by_cases h : c = s
    · rw [spl_hit (by rw [pre1, decide_eq_true h])]
      show joinL [s] (acc :: spl [s] 0 [] r) = _
      rw [joinL_cons _ _ (spl1_ne s r []), spl1_join s r []]
      subst h
      simp
    · rw [spl_miss (by rw [pre1, decide_eq_false h]), spl1_join s r (acc ++ [c])]
      simp
theorem spl1_free (s : Nat) : ∀ (l acc : List Nat), s ∉ acc → ∀ p ∈ spl [s] 0 acc l, s ∉ p
  | [], acc, ha, p, hp => by
    rw [spl_nil] at hp
    rw [List.mem_singleton.mp hp]
    exact ha
  | c :: r, acc, ha, p, hp => by
    by_cases h : c = s
    · rw [spl_hit (by rw [pre1, decide_eq_true h])] at hp
      rcases List.mem_cons.mp hp with e | e
      · rw [e]
        exact ha
      · exact spl1_free s r [] (by simp) p e
    · rw [spl_miss (by rw [pre1, decide_eq_false h])] at hp
      exact spl1_free s r _ (by simp [ha, Ne.symm h]) p hp
theorem spl1_sub (s : Nat) : ∀ (l acc : List Nat), ∀ p ∈ spl [s] 0 acc l, p.length ≤ acc.length + l.length ∧ ∀ c ∈ p, c ∈ acc ∨ c ∈ l
  | [], acc, p, hp => by
    rw [spl_nil] at hp
    rw [List.mem_singleton.mp hp]
    exact ⟨Nat.le_refl _, fun c h => .inl h⟩
  | c :: r, acc, p, hp => by
    by_cases h : c = s
    · rw [spl_hit (by rw [pre1, decide_eq_true h])] at hp
      rcases List.mem_cons.mp hp with e | e
      · rw [e]
        exact ⟨by omega, fun c h => .inl h⟩
      · obtain ⟨h1, h2⟩ := spl1_sub s r [] p e
        refine ⟨by simp at h1 ⊢; omega, fun c h => (h2 c h).elim (fun z => absurd z (by simp)) fun z => .inr (by simp [z])⟩
    · rw [spl_miss (by rw [pre1, decide_eq_false h])] at hp
      obtain ⟨h1, h2⟩ := spl1_sub s r _ p hp
      refine ⟨by simp at h1 ⊢; omega, fun c' h => (h2 c' h).elim (fun z => ?_) fun z => .inr (by simp [z])⟩
      rcases List.mem_append.mp z with z | z
      · exact .inl z
      · exact .inr (by simp at z; simp [z])
section
variable {x y : Str} {s : Nat}
theorem split_tl (ey : tl y = [s]) (hk : y.cps.all (· < 256) = true) : (Txt.split x y).map tl = spl [s] 0 [] (tl x) := by
  rw [split_spl x y (by rw [ey]; simp) (kind_ok hk), ey]
theorem split_back (ey : tl y = [s]) (hk : y.cps.all (· < 256) = true) : Txt.join y (Txt.split x y) = x := by
  refine ext_tl ?_
  rw [join_eq, tl_join, ey, split_tl ey hk, spl1_join]
  rfl
theorem split_free (ey : tl y = [s]) (hk : y.cps.all (· < 256) = true) {p : Str} (hp : p ∈ Txt.split x y) : s ∉ tl p := by
  have h : tl p ∈ (Txt.split x y).map tl := List.mem_map.mpr ⟨p, hp, rfl⟩
  rw [split_tl ey hk] at h
  exact spl1_free s _ _ (by simp) _ h
theorem split_sub (ey : tl y = [s]) (hk : y.cps.all (· < 256) = true) {p : Str} (hp : p ∈ Txt.split x y) : p.length ≤ x.length ∧ ∀ c ∈ tl p, c ∈ tl x := by
  have h : tl p ∈ (Txt.split x y).map tl := List.mem_map.mpr ⟨p, hp, rfl⟩
  rw [split_tl ey hk] at h
  obtain ⟨h1, h2⟩ := spl1_sub s _ _ _ h
  refine ⟨?_, fun c hc => (h2 c hc).elim (fun z => absurd z (by simp)) fun z => z⟩
  rw [len_tl p, len_tl x]
  simpa using h1
theorem split_ne (ey : tl y = [s]) (hk : y.cps.all (· < 256) = true) : Txt.split x y ≠ [] := fun e => by
  have h := split_tl (x := x) ey hk
  rw [e] at h
  exact spl1_ne s _ _ h.symm
end
theorem sp_tl : tl (" " : Str) = [32] := by decide +kernel
theorem sp_kd : (" " : Str).cps.all (· < 256) = true := by decide +kernel
theorem split2 {z a b : Str} (h : Txt.split z " " = [a, b]) : z = a ++ " " ++ b := by
  have e := split_back (x := z) sp_tl sp_kd
  rw [h, join_eq] at e
  exact e.symm
theorem split_two {a b : Str} (ha : (32 : Nat) ∉ tl a) (hb : (32 : Nat) ∉ tl b) : Txt.split (a ++ " " ++ b) " " = [a, b] := by
  have e : a ++ " " ++ b = Txt.join " " [a, b] := by rw [join_eq]; rfl
  rw [e]
  exact split_join sp_tl sp_kd (by simp) (by
    intro p hp
    rcases List.mem_cons.mp hp with rfl | hp
    · exact ha
    · rw [List.mem_singleton.mp hp]; exact hb)
/-! ### short texts of plain signs -/
def OkS (n : Nat) (z : Str) : Prop := z.length ≤ n ∧ ∀ c ∈ tl z, c < 256
theorem OkS.mono {n m : Nat} {z : Str} (h : OkS n z) (l : n ≤ m) : OkS m z := ⟨Nat.le_trans h.1 l, h.2⟩
theorem OkS.append {n m : Nat} {a b : Str} (h : OkS n a) (k : OkS m b) : OkS (n + m) (a ++ b) := ⟨by
  rw [Str.length_append]
  exact Nat.add_le_add h.1 k.1, fun c hc => by
  rw [tl_append] at hc
  rcases List.mem_append.mp hc with hc | hc
  · exact h.2 c hc
  · exact k.2 c hc⟩
theorem OkS.part {n : Nat} {x y p : Str} {s : Nat} (h : OkS n x) (ey : tl y = [s]) (hk : y.cps.all (· < 256) = true) (hp : p ∈ Txt.split x y) : OkS n p :=
  let ⟨h1, h2⟩ := split_sub ey hk hp
  ⟨Nat.le_trans h1 h.1, fun c hc => h.2 c (h2 c hc)⟩
/-- plain data that repr can show -/
structure Shw (n : Nat) (d : PyData) : Prop where
  sh : d.showable = true
  dp : d.depth ≤ 20
  ln : d.shown.length ≤ n
theorem Shw.str {n : Nat} {z : Str} (h : OkS n z) : Shw (10 * n + 2) (.str z) := ⟨rfl, Nat.zero_le _, by
  have := StrLaws.reprText_len z fun c hc => Nat.lt_trans (h.2 c hc) (by decide)
  show (reprText z).length ≤ _
  have := h.1
  omega⟩
theorem Shw.mono {n m : Nat} {d : PyData} (h : Shw n d) (l : n ≤ m) : Shw m d := ⟨h.sh, h.dp, Nat.le_trans h.ln l⟩
theorem Shw.list1 {n : Nat} {a : PyData} (ha : Shw n a) (hd : a.depth < 20) : Shw (n + 5) (.list [a]) := ⟨by
  show (a.showable && true) = true
  rw [ha.sh]
  rfl, by
  show max a.depth 0 + 1 ≤ 20
  omega, by
  have := listText_len_le [a.shown]
  have := ha.ln
  show (listText [a.shown]).length ≤ _
  simp at *
  omega⟩
theorem Shw.tup1 {n : Nat} {a : PyData} (ha : Shw n a) (hd : a.depth < 20) : Shw (n + 5) (.tuple [a]) := ⟨by
  show (a.showable && true) = true
  rw [ha.sh]
  rfl, by
  show max a.depth 0 + 1 ≤ 20
  omega, by
  have := tupleText_len_le [a.shown]
  have := ha.ln
  show (tupleText [a.shown]).length ≤ _
  simp at *
  omega⟩
theorem Shw.list2 {n m : Nat} {a b : PyData} (ha : Shw n a) (hb : Shw m b) (hd : a.depth < 20) (hd2 : b.depth < 20) : Shw (n + m + 7) (.list [a, b]) := ⟨by
  show (a.showable && (b.showable && true)) = true
  rw [ha.sh, hb.sh]
  rfl, by
  show max a.depth (max b.depth 0) + 1 ≤ 20
  omega, by
  have := listText_len_le [a.shown, b.shown]
  have := ha.ln
  have := hb.ln
  show (listText [a.shown, b.shown]).length ≤ _
  simp at *
  omega⟩
theorem Shw.tup2 {n m : Nat} {a b : PyData} (ha : Shw n a) (hb : Shw m b) (hd : a.depth < 20) (hd2 : b.depth < 20) : Shw (n + m + 7) (.tuple [a, b]) := ⟨by
  show (a.showable && (b.showable && true)) = true
  rw [ha.sh, hb.sh]
  rfl, by
  show max a.depth (max b.depth 0) + 1 ≤ 20
  omega, by
  have := tupleText_len_le [a.shown, b.shown]
  have := ha.ln
  have := hb.ln
  show (tupleText [a.shown, b.shown]).length ≤ _
  simp at *
  omega⟩

theorem joinL_nil : ∀ l : List (List Nat), joinL [] l = l.flatten
  | [] => rfl
  | [a] => by simp [joinL]
  | a :: b :: r => by
    rw [joinL_cons _ _ (by simp), joinL_nil (b :: r)]
    simp
/-- single signs put together -/
theorem join_signs {cs : List Nat} : tl (Txt.join "" (cs.map fun c => (⟨#[c]⟩ : Str))) = cs := by
  have e0 : tl ("" : Str) = [] := by decide +kernel
  rw [join_eq, tl_join, e0, joinL_nil, List.map_map]
  have : ∀ l : List Nat, (l.map (tl ∘ fun c => (⟨#[c]⟩ : Str))).flatten = l := fun l => by
    induction l with
    | nil => rfl
    | cons c r ih =>
      rw [List.map_cons, List.flatten_cons, ih]
      rfl
  exact this cs
/-! ### rows of data -/
theorem TVs.len {H : Hp} : ∀ {xs : List V} {ds : List PyData}, TVs H xs ds → xs.length = ds.length
  | _, _, .nil => rfl
  | _, _, .cons _ t => by simp [TVs.len t]
theorem TVs.at_ {H : Hp} : ∀ {xs : List V} {ds : List PyData} {i : Nat} {v : V}, TVs H xs ds → xs[i]? = some v → ∃ d, ds[i]? = some d ∧ TV H v d
  | _, _, _, _, .nil, h => by simp at h
  | _, _, 0, _, .cons r _, h => by simp at h; subst h; exact ⟨_, rfl, r⟩
  | _, _, i + 1, v, .cons _ t, h => by
    obtain ⟨d, h1, h2⟩ := TVs.at_ (i := i) (v := v) t (by simpa using h)
    exact ⟨d, by simpa using h1, h2⟩
theorem spl1_len (s : Nat) : ∀ (l acc : List Nat), (spl [s] 0 acc l).length ≤ l.length + 1
  | [], acc => by rw [spl_nil]; simp
  | c :: r, acc => by
    by_cases h : c = s
    · rw [spl_hit (by rw [pre1, decide_eq_true h])]
      have := spl1_len s r []
      simp only [List.length_cons]
      show (spl [s] 0 [] r).length + 1 ≤ _
      omega
    · rw [spl_miss (by rw [pre1, decide_eq_false h])]
      have := spl1_len s r (acc ++ [c])
      simp only [List.length_cons]
      omega
theorem split_len {x y : Str} {s : Nat} (ey : tl y = [s]) (hk : y.cps.all (· < 256) = true) : (Txt.split x y).length ≤ x.length + 1 := by
  have h := congrArg List.length (split_tl (x := x) ey hk)
  rw [List.length_map] at h
  rw [h, len_tl x]
  exact spl1_len s _ _
end Ls
end
section
set_option Elab.async false
set_option linter.all false
set_option maxRecDepth 100000
set_option maxHeartbeats 4000000
namespace Ls
open PySem PySem.Spec PyProof.Rows L2
open TL
/-! ### z[::-1], z a text -/
def revS (z : Str) : Str := ⟨z.cps.toList.reverse.toArray⟩
theorem tl_revS (z : Str) : tl (revS z) = (tl z).reverse := by simp [revS, tl]
theorem len_revS (z : Str) : (revS z).length = z.length := by
  show (z.cps.toList.reverse.toArray).size = z.cps.size
  simp
def tRevS (te : TE) : TE := fun σ H Q => te σ H fun x H1 => ∃ z, x = .str z ∧ z.length ≤ sizeLine ∧ Q (.str (revS z)) H1
theorem pe_revS {X : Cx} {e : PySem.Expr} {te : TE} {k : Nat} {p1 p2 p3 pos : Pos} (he : PE X e te) : PE X (.Subscript e (.Slice none none (some (.UnaryOp .USub (.Constant (.int 1) k p1) p2)) p3) pos) (tRevS te) := by
  refine ⟨fun pins s σ H Q I h => ?_⟩
  refine Subscript_ (thn (he.run pins s σ H _ I h) fun v s1 ⟨x, H1, I1, r1, q1⟩ => ?_)
  obtain ⟨z, ex, hz, q⟩ := q1
  subst ex
  obtain ⟨t, rfl⟩ := r1
  have hst : PO X (some (.UnaryOp .USub (.Constant (.int 1) k p1) p2)) (tPart (tUn (rU fun i => .int (-i)) (tC (.int 1)))) := po_some (pe_un un_neg pe_int)
  refine wpAny_Slice (thn (po_none.run pins s1 σ H1 (fun o H2 => o = none ∧ H2 = H1) I1 ⟨rfl, rfl⟩) fun vl s2 ⟨l, H2, I2, pl, el, e2⟩ => ?_)
  subst el e2
  refine thn (po_none.run pins s2 σ H2 (fun o H3 => o = none ∧ H3 = H2) I2 ⟨rfl, rfl⟩) fun vu s3 ⟨u, H3, I3, pu, eu, e3⟩ => ?_
  subst eu e3
  refine thn (hst.run pins s3 σ H3 (fun o H4 => o = some (-1) ∧ H4 = H3) I3 ⟨1, rfl, -1, rfl, rfl, rfl⟩) fun vs s4 ⟨o, H4, I4, ps, eo, e4⟩ => ?_
  subst eo e4
  have I5 : Inv X pins σ H4 { s4 with heap := s4.heap.push { cls := .type "slice", data := .fields #[vl, vu, vs] } } := I4.kept (t' := s4.toks) fun b ob q => Heap.get?_push_of_some _ q
  show wpAny (model X.prog X.w) X.A (subscriptTail e (.Slice none none (some (.UnaryOp .USub (.Constant (.int 1) k p1) p2)) p3) (.str z t) (.ref s4.heap.objs.size)) (EP X pins σ Q) X.xe { s4 with heap := s4.heap.push { cls := .type "slice", data := .fields #[vl, vu, vs] } }
  obtain ⟨l, rfl, hl⟩ := IsPart.raw pl
  obtain ⟨u, rfl, hu⟩ := IsPart.raw pu
  obtain ⟨st, rfl, hs⟩ := IsPart.raw ps
  refine tail_any (ops := [.ref s4.heap.objs.size, .str z t]) (typeIs_str _ _ _) F.slot_str_getitem.lookup ?_ (by with_unfolding_all rfl)
  refine wpAny_getItem_str_slice (l := l) (u := u) (st := st) ⟨_, Heap.get?_push_size _ rfl, rfl, rfl⟩ (by rw [hs]; rfl) ?_
  unfold sliceMade slicePicked
  rw [hs, hl, hu]
  have e1 : Builtin.Str.strSliceIndices none none ((some (-1 : Int)).getD 1) z.length = (List.range z.cps.size).reverse := by
    show sliceRange ((z.cps.size : Int) - 1) (-1) (-1) = _
    rw [PySem.W.krv_sliceRange, PySem.W.krv_range]
  rw [e1, if_neg (by simp), List.filterMap_reverse, PySem.W.krv_all]
  refine ⟨?_, .str _, H4, I5.tok _, ⟨_, rfl⟩, q⟩
  show (revS z).length ≤ sizeLine
  rw [len_revS]
  exact hz
end Ls
end
section
set_option Elab.async false
set_option linter.all false
set_option maxRecDepth 100000
set_option maxHeartbeats 4000000
namespace Ls
open PySem PySem.Spec PyProof.Rows L2
/-! ### C.f(a, ..), f a def written in the class at C (or above): no binding -/
/-- C.m is the def at g -/
structure Clf (P : Program) (w : World) (K : PySem.W.Frag) (mg : Str → Option Value) (base : Heap) (CX : CXT) (k : Nat) (C : Addr) (m : Str) (sp : Sp) : Prop where
  ex : ∃ (mc : Value) (g : Addr), ClX.CRead K C mc ∧ PySem.W.findCls K (.ref C) mc m = some (.val (.ref g)) ∧ PySem.W.keepIn K (.ref g) = true ∧ FnR P w K mg base CX k g sp
section
variable {X : Cx} {CX : CXT} {k : Nat} {C : Addr} {m x : Str} {sp : Sp} {E : XK} {o e : PySem.Expr} {es : List PySem.Expr} {ta te : TE} {t : TA} {p apos pos sp_ : Pos} {pl : Sem Bool}
theorem pe_clf (c : Clf X.prog X.w X.K X.mg X.base CX k C m sp) (hr : Room k X.A) (ho : PE X o ta) (hx : Passes CX X E) (ha : PA X (e :: es) t)
    (hst : starEach (e :: es) X.env = (false, eval e X.env) :: starEach es X.env := by rfl) (hpl : (backTo pos (starEach es X.env)).any (·.1) = false := by rfl)
    (ht : eval (.Call (.Attribute o m apos) (e :: es) [] pos) X.env = (do
      let ov ← eval o X.env
      standAt apos.atName
      let (f, first) ← holding [ov] (getMethod ov m pl)
      callWith pos f first (backTo pos (starEach (e :: es) X.env)) (backToKw pos (keywordEach [] X.env))) := by rfl) :
    PE X (.Call (.Attribute o m apos) (e :: es) [] pos) (fun σ H Q => ta σ H fun v H1 => v = .ref C ∧ t σ H1 fun vs H2 => sp vs H2 Q E) := by
  obtain ⟨mc, g, rd, fc, kp, F⟩ := c.ex
  refine ⟨fun pins s σ H Q I h => PySem.W.methodCall_KW (pl := pl) (thn (ho.run pins s σ H _ I h) fun u s1 q1 => ?_) ht⟩
  obtain ⟨v, H1, I1, rv, rfl, q1⟩ := q1
  obtain rfl : u = Value.ref C := rv
  refine PySem.W.method_cls I1.kIn rd.ga (ClX.getcval_ok (v := .ref g) I1 rd ⟨fc, rfl⟩ fun s2 I2 => ?_)
  refine PySem.W.callWith_K (h₀ := X.base) I2.ok.mod.kin kp (thn (ha.run pos pins s2 σ H1 _ I2 q1) fun us s3 q3 => ?_) hst hpl
  obtain ⟨vs, H2, I3, r3, q3⟩ := q3
  exact ⟨I3.kIn, wpAny_call (run_fnR F hr hx I3 r3 q3)⟩
/-! ### C() and C(*y) -/
def tMk0 (C : Addr) (sp : Sp) (E : XK) : TE := fun _ H Q => ∀ a dx, H a = none → H dx = none → dx ≠ a → sp [V.ref a] (upd (upd H dx (.own a)) a (.ins C dx [])) (fun v H2 => v = .non ∧ Q (.ref a) H2) E
theorem pe_mk0 (c : Mkc X.prog X.w X.K X.mg X.base CX k C x sp) (hr : Room (k + 1) X.A) (hg : Gl X x) (hx : Passes CX X E) (hdb : (x == ("__debug__" : Str)) = false := by decide) : PE X (.Call (.Name x p) [] [] pos) (tMk0 C sp E) := by
  obtain ⟨f, hm, M, F⟩ := c.ex
  refine ⟨fun pins s σ H Q I h => wpAny_Call_Name_kw (ld_glob I hg hm ?_ hdb)⟩
  exact PySem.W.callWith_K0 I.kIn M.kp (StX.run_makeR (us := []) (vs := []) M F hr hx I .nil h)
def tMkS (K : PySem.W.Frag) (C : Addr) (sp : Sp) (E : XK) (te : TE) : TE := fun σ H Q => te σ H fun y H1 => ∃ b xs, y = V.ref b ∧ (SqT K H1 b xs ∨ SqL K H1 b xs) ∧
  ∀ a dx, H1 a = none → H1 dx = none → dx ≠ a → sp (V.ref a :: xs) (upd (upd H1 dx (.own a)) a (.ins C dx [])) (fun v H2 => v = .non ∧ Q (.ref a) H2) E
theorem pe_mkS (c : Mkc X.prog X.w X.K X.mg X.base CX k C x sp) (hr : Room (k + 1) X.A) (hg : Gl X x) (hx : Passes CX X E) (he : PE X e te) (hdb : (x == ("__debug__" : Str)) = false := by decide)
    (hst : starEach [.Starred e sp_] X.env = [(true, eval e X.env)] := by rfl) : PE X (.Call (.Name x p) [.Starred e sp_] [] pos) (tMkS X.K C sp E te) := by
  obtain ⟨f, hm, M, F⟩ := c.ex
  refine ⟨fun pins s σ H Q I h => wpAny_Call_Name_kw (ld_glob I hg hm ?_ hdb)⟩
  refine PySem.W.callWith_S (h₀ := X.base) I.ok.mod.kin M.kp (thn (he.run pins s σ H _ I h) fun v s1 q1 => ?_) hst
  obtain ⟨y, H1, I1, ry, b, xs, rfl, hxs, q⟩ := q1
  obtain rfl : v = Value.ref b := ry
  exact StX.star_any I1 hxs fun us s2 I2 rv => ⟨I2.kIn, StX.run_makeR M F hr hx I2 rv q⟩
/-! ### xs.count(y), flat items -/
theorem count_eqU {x : V} : ∀ {xs : List V} {us : List Value}, Vals xs us → xs.all flatV = true → us.countP (eqU x) = xs.countP fun y => eqV y x
  | _, _, .nil, _ => rfl
  | y :: xs, u :: us, .cons r t, f => by
    rw [List.all_cons, Bool.and_eq_true] at f
    rw [List.countP_cons, List.countP_cons, eqU_of r f.1, count_eqU t f.2]
def rCntF (K : PySem.W.Frag) : V → List V → Hp → VK → Prop := fun x ys H Q => ∃ (p : Addr) (xs : List V) (y : V), x = .ref p ∧ ys = [y] ∧ SqL K H p xs ∧ flatV y = true ∧ xs.all flatV = true ∧ Q (.int (xs.countP (fun z => eqV z y) : Nat)) H
theorem mt_countF : MtR X "list.count" (rCntF X.K) := by
  intro pins s σ H x ys v us Q I rx rxs h
  obtain ⟨p, xs, y, rfl, rfl, hs, fy, fs, q⟩ := h
  cases rx
  obtain ⟨u, rfl, ru⟩ := rxs.one
  obtain ⟨its, rv, ⟨⟨cls, dd, data, sl⟩, n, ho, hc, hdn, hd⟩, hlen⟩ := I.list hs
  simp only at hc hd
  subst hc hd
  refine call_meets PySem.F.slot_list_count ⟨_, ho, rfl⟩ PySem.F.entry_list_count (PySem.F.args_list_count_2 _ _)
    (SeqAt.list_countAt p its.toArray n dd sl u (eqU y)) ⟨ho, fun z hz => mem_eqAt ru fy rv fs z (by simpa using hz), ?_⟩
  have ec : its.toArray.toList.countP (eqU y) = xs.countP fun z => eqV z y := count_eqU rv fs
  refine ⟨.int (xs.countP (fun z => eqV z y) : Nat), H, I.tok _, ⟨s.toks, ?_⟩, q⟩
  show Value.int ((its.toArray.toList.countP (eqU y) : Nat) : Int) s.toks = _
  rw [ec]
end
/-! ### a def with one star parameter behind the first, or behind two -/
section
variable {P : Program} {w : World} {K : PySem.W.Frag} {mg : Str → Option Value} {base : Heap}
/-- what is left over lies in a new tuple -/
def spStar (n : Nat) (sp : Sp) : Sp := fun vs H Q E => ∃ ws rest, vs = ws ++ rest ∧ ws.length = n ∧ rest.length ≤ sizeLine ∧ ∀ p, H p = none → sp (ws ++ [V.ref p]) (upd H p (.tup rest)) Q E
end
end Ls
namespace Ls
open PySem PySem.Spec PyProof.Rows L2
/-! ### xs.count(y) within a comprehension's block -/
section
variable {X : Cx} {K : PySem.W.Frag} {o e : PySem.Expr} {to : TE} {t : TA} {apos cpos : Pos}
theorem pe_countK (hK : X.K = K) (ho : PE X o to) (ha : PA X [e] t) (hbase : attributeBase o "count" X.env (eval o X.env) = eval o X.env := by rfl)
    (hfew : ((backTo cpos (starEach [e] X.env)).all (fun x => !x.1) && (backToKw cpos (keywordEach [] X.env)).all (fun x => x.1.isSome) && decide (([e] : List PySem.Expr).length + ([] : List Keyword).length + (if ([] : List Keyword).isEmpty then 0 else 1) < 30)) = true := by rfl)
    (hline : (apos.endLine == cpos.line) = true := by rfl) (hs : starEach [e] X.env = (false, eval e X.env) :: starEach [] X.env := by rfl) (hplain : (backTo cpos (starEach [] X.env)).any (·.1) = false := by rfl) :
    PE X (.Call (.Attribute o "count" apos) [e] [] cpos) (tBM K "list" (rCntF K) to t) := by
  subst hK
  exact pe_bm PySem.F.plainAttrs_list PySem.F.slot_list_count PySem.F.type_list_count mt_countF ho ha hbase hfew hline hs hplain
end
/-! ### texts, each once -/
theorem count_strs (z : Str) : ∀ l : List Str, (l.map V.str).countP (fun y => eqV y (.str z)) = l.count z
  | [] => rfl
  | a :: l => by
    rw [List.map_cons, List.countP_cons, List.count_cons, count_strs z l]
    have : eqV (.str a) (.str z) = (a == z) := rfl
    rw [this]
theorem once_iff {l : List Str} : (l.all fun z => l.count z == 1) = true ↔ l.Nodup := by
  rw [List.nodup_iff_count, List.all_eq_true]
  constructor
  · intro h a
    by_cases ha : a ∈ l
    · have := h a ha
      simp at this
      omega
    · rw [List.count_eq_zero.mpr ha]
      omega
  · intro h z hz
    have h1 := h z
    have h2 := List.count_pos_iff.mpr hz
    simp
    omega
theorem card_iff {M l : List Str} (nd : M.Nodup) (hm : ∀ y, y ∈ M ↔ y ∈ l) : M.length = l.length ↔ l.Nodup := by
  constructor
  · intro e
    rw [List.nodup_iff_count]
    intro a
    refine Nat.le_of_not_lt fun h2 => ?_
    have hin : a ∈ l := List.count_pos_iff.mp (by omega)
    have sub : ∀ y ∈ M, y ∈ l.erase a := fun y hy => by
      have hy' := (hm y).mp hy
      by_cases ey : y = a
      · subst ey
        refine List.count_pos_iff.mp ?_
        rw [List.count_erase_self]
        omega
      · exact (List.mem_erase_of_ne ey).mpr hy'
    have h3 := nd.length_le_of_subset sub
    rw [List.length_erase_of_mem hin] at h3
    have := List.length_pos_of_mem hin
    omega
  · intro h
    have h1 := nd.length_le_of_subset fun y hy => (hm y).mp hy
    have h2 := h.length_le_of_subset fun y hy => (hm y).mpr hy
    omega
end Ls
end
section
set_option Elab.async false
set_option linter.all false
set_option maxRecDepth 100000
set_option maxHeartbeats 4000000
namespace Ls
open PySem PySem.Spec PyProof.Rows L2
/-! ### e.f, a property that several classes share -/
/-- the classes S have the property f; its getter keeps sp -/
structure Prp (P : Program) (w : World) (K : PySem.W.Frag) (mg : Str → Option Value) (base : Heap) (CX : CXT) (k : Nat) (S : Addr → Prop) (f : Str) (sp : Sp) : Prop where
  ex : ∃ (p g : Addr) (fd : FuncData), (∀ C, S C → Cls K C ∧ PropOf K C f p g) ∧ FnOk P w K mg base CX k g fd ["self"] sp ∧ Binds K fd ["self"] []
def tPrp (S : Addr → Prop) (sp : Sp) (E : XK) (ta : TE) : TE := fun σ H Q => ta σ H fun x H1 => ∃ a C dx fs, x = .ref a ∧ H1 a = some (.ins C dx fs) ∧ S C ∧ sp [.ref a] H1 Q E
section
variable {X : Cx} {CX : CXT} {k : Nat} {S : Addr → Prop} {f : Str} {sp : Sp} {E : XK} {e : PySem.Expr} {pos : Pos} {ta : TE}
theorem pe_prp (c : Prp X.prog X.w X.K X.mg X.base CX k S f sp) (hr : Room (k + 1) X.A) (hx : Passes CX X.nox E) (he : PE X e ta) (hab : attributeBase e f X.env (eval e X.env) = eval e X.env := by rfl) : PE X (.Attribute e f pos) (tPrp S sp E ta) := by
  obtain ⟨p, g, fd, hc, F, hb⟩ := c.ex
  refine ⟨fun pins s σ H Q I h => ?_⟩
  refine attr_of hab (thn (he.run pins s σ H _ I h) fun u s1 ⟨x, H1, I1, rx, a, C, dx, fs, ex, ea, hS, q⟩ => ?_)
  subst ex
  obtain rfl : u = Value.ref a := rx
  exact getprop_ok I1 ea (hc C hS).1 (hc C hS).2 F hr hb .nil hx q
end
/-! ### xs.pop(i) within a comprehension's block -/
section
variable {X : Cx} {K : PySem.W.Frag} {o e : PySem.Expr} {to : TE} {t : TA} {apos cpos : Pos}
theorem pe_popK (hK : X.K = K) (ho : PE X o to) (ha : PA X [e] t) (hbase : attributeBase o "pop" X.env (eval o X.env) = eval o X.env := by rfl)
    (hfew : ((backTo cpos (starEach [e] X.env)).all (fun x => !x.1) && (backToKw cpos (keywordEach [] X.env)).all (fun x => x.1.isSome) && decide (([e] : List PySem.Expr).length + ([] : List Keyword).length + (if ([] : List Keyword).isEmpty then 0 else 1) < 30)) = true := by rfl)
    (hline : (apos.endLine == cpos.line) = true := by rfl) (hs : starEach [e] X.env = (false, eval e X.env) :: starEach [] X.env := by rfl) (hplain : (backTo cpos (starEach [] X.env)).any (·.1) = false := by rfl) :
    PE X (.Call (.Attribute o "pop" apos) [e] [] cpos) (tBM K "list" rPopAt to t) := by
  subst hK
  exact pe_bm PySem.F.plainAttrs_list PySem.F.slot_list_pop PySem.F.type_list_pop mt_popAt ho ha hbase hfew hline hs hplain
end
end Ls
end
section
set_option Elab.async false
set_option linter.all false
set_option maxRecDepth 100000
set_option maxHeartbeats 4000000
namespace Ls
open PySem PySem.Spec PyProof.Rows L2 TL
/-! ### what repr can show: lists and tuples of several -/
theorem show_all : ∀ {ds : List PyData}, (∀ d ∈ ds, d.showable = true) → PyData.showableAll ds = true
  | [], _ => rfl
  | d :: r, h => by
    show (d.showable && PyData.showableAll r) = true
    rw [h d (by simp), show_all fun x hx => h x (List.mem_cons_of_mem _ hx)]
    rfl
theorem depth_all {k : Nat} : ∀ {ds : List PyData}, (∀ d ∈ ds, d.depth ≤ k) → PyData.depthAll ds ≤ k
  | [], _ => Nat.zero_le _
  | d :: r, h => by
    show max d.depth (PyData.depthAll r) ≤ k
    have h1 := h d (by simp)
    have h2 := depth_all (ds := r) fun x hx => h x (List.mem_cons_of_mem _ hx)
    omega
theorem shown_all {n : Nat} : ∀ {ds : List PyData}, (∀ d ∈ ds, d.shown.length ≤ n) → ((PyData.shownAll ds).map (·.length)).sum ≤ ds.length * n ∧ (PyData.shownAll ds).length = ds.length
  | [], _ => ⟨Nat.zero_le _, rfl⟩
  | d :: r, h => by
    obtain ⟨h1, h2⟩ := shown_all (ds := r) fun x hx => h x (List.mem_cons_of_mem _ hx)
    have h0 := h d (by simp)
    show ((d.shown :: PyData.shownAll r).map (·.length)).sum ≤ (r.length + 1) * n ∧ (PyData.shownAll r).length + 1 = r.length + 1
    rw [List.map_cons, List.sum_cons, Nat.add_mul, Nat.one_mul, h2]
    exact ⟨by omega, rfl⟩
theorem Shw.listN {n k : Nat} {ds : List PyData} (h : ∀ d ∈ ds, Shw n d) (hd : ∀ d ∈ ds, d.depth ≤ k) (hk : k < 20) : Shw (ds.length * n + 2 * ds.length + 3) (.list ds) := ⟨show_all fun d hx => (h d hx).sh, by
  have := depth_all hd
  show PyData.depthAll ds + 1 ≤ 20
  omega, by
  obtain ⟨h1, h2⟩ := shown_all fun d hx => (h d hx).ln
  have := listText_len_le (PyData.shownAll ds)
  show (listText (PyData.shownAll ds)).length ≤ _
  omega⟩
theorem Shw.tupN {n k : Nat} {ds : List PyData} (h : ∀ d ∈ ds, Shw n d) (hd : ∀ d ∈ ds, d.depth ≤ k) (hk : k < 20) : Shw (ds.length * n + 2 * ds.length + 3) (.tuple ds) := ⟨show_all fun d hx => (h d hx).sh, by
  have := depth_all hd
  show PyData.depthAll ds + 1 ≤ 20
  omega, by
  obtain ⟨h1, h2⟩ := shown_all fun d hx => (h d hx).ln
  have := tupleText_len_le (PyData.shownAll ds)
  show (tupleText (PyData.shownAll ds)).length ≤ _
  omega⟩
theorem depth_tup {k : Nat} {ds : List PyData} (h : ∀ d ∈ ds, d.depth ≤ k) : (PyData.tuple ds).depth ≤ k + 1 := by
  have := depth_all h
  show PyData.depthAll ds + 1 ≤ k + 1
  omega
theorem depth_lst {k : Nat} {ds : List PyData} (h : ∀ d ∈ ds, d.depth ≤ k) : (PyData.list ds).depth ≤ k + 1 := by
  have := depth_all h
  show PyData.depthAll ds + 1 ≤ k + 1
  omega
theorem tvs_strs {H : Hp} : ∀ us : List Str, TVs H (us.map V.str) (us.map .str)
  | [] => .nil
  | u :: r => .cons (.str u) (tvs_strs r)
end Ls
end
section
set_option Elab.async false
set_option linter.all false
set_option maxRecDepth 100000
set_option maxHeartbeats 4000000
namespace Ls
open PySem PySem.Spec PyProof.Rows L2 TL
/-! ### tuples of texts, compared -/
theorem dp_strs {K : PySem.W.Frag} {H : Hp} : ∀ us : List Str, DpAll K H (us.map V.str) (us.map .str)
  | [] => .nil
  | u :: r => .cons (.str u) (dp_strs r)
theorem lay_strs : ∀ us : List Str, (∀ z ∈ us, PyData.strOk z = true) → PyData.canLayAll0 (us.map .str) = true
  | [], _ => rfl
  | u :: r, h => by
    show (PyData.strOk u && PyData.canLayAll0 (r.map .str)) = true
    rw [h u (by simp), lay_strs r fun z hz => h z (by simp [hz])]
    rfl
theorem shaped_strs (us : List Str) (ho : ∀ z ∈ us, PyData.strOk z = true) : SeqAt.shaped (.tuple (us.map .str)) = true := by
  have h : (PyData.tuple (us.map .str)).depth ≤ 1 := depth_tup fun d hd => by
    obtain ⟨z, _, rfl⟩ := List.mem_map.mp hd
    exact Nat.le_refl _
  show (PyData.canLay0 (.tuple (us.map .str)) && decide ((PyData.tuple (us.map .str)).depth ≤ 64)) = true
  rw [decide_eq_true (Nat.le_trans h (by decide)), Bool.and_true]
  exact lay_strs us ho
theorem eqv_strs (us : List Str) (ho : ∀ z ∈ us, PyData.strOk z = true) : PyData.eqv (.tuple (us.map .str)) (.tuple (us.map .str)) = true := SeqAt.eqv_refl _ (lay_strs us ho)
end Ls
end
section
set_option Elab.async false
set_option linter.all false
set_option maxRecDepth 100000
set_option maxHeartbeats 4000000
namespace Ls
open PySem PySem.Spec PyProof.Rows L2 TL
/-! ### numbers and dicts that repr can show -/
theorem Shw.int10 {a : Int} {k : Nat} (hk : 0 < k) (h : a.natAbs < 10 ^ k) (h2 : k ≤ 450) : Shw (k + 1) (.int a) := ⟨by
  show decide (a.natAbs.log2 < 1920) = true
  refine decide_eq_true ?_
  by_cases e : a.natAbs = 0
  · rw [e]
    decide
  · rw [Nat.log2_lt e]
    refine Nat.lt_trans h (Nat.lt_of_le_of_lt (Nat.pow_le_pow_right (by decide) h2) ?_)
    decide +kernel, Nat.zero_le _, by
  show (Str.ofString (toString a)).length ≤ _
  rw [PySem.ofString_length]
  exact int_text_length_le10 hk h⟩
theorem Shw.dict1 {n m : Nat} {a b : PyData} (ha : Shw n a) (hb : Shw m b) (hd : a.depth < 20) (hd2 : b.depth < 20) : Shw (n + m + 7) (.dict [(a, b)]) := ⟨by
  show (a.showable && b.showable && true) = true
  rw [ha.sh, hb.sh]
  rfl, by
  show max (max a.depth b.depth) 0 + 1 ≤ 20
  omega, by
  have := dictText_len_le [a.shown ++ (": " : Str) ++ b.shown]
  have := ha.ln
  have := hb.ln
  show (dictText [a.shown ++ (": " : Str) ++ b.shown]).length ≤ _
  have e2 : (": " : Str).length = 2 := by decide +kernel
  simp [Str.length_append, e2] at *
  omega⟩
end Ls
end
section
set_option Elab.async false
set_option linter.all false
set_option maxRecDepth 100000
set_option maxHeartbeats 4000000
namespace Ls
open PySem PySem.Spec PyProof.Rows L2
/-! ### C(a = v), no positional argument -/
/-- the class under the module's name x, made by one argument given by its name -/
structure MkcK (P : Program) (w : World) (K : PySem.W.Frag) (mg : Str → Option Value) (base : Heap) (CX : CXT) (k : Nat) (C : Addr) (x a : Str) (sp : Sp) : Prop where
  ex : ∃ f fd, mg x = some (.ref C) ∧ Mk K C f ∧ FnOk P w K mg base CX k f fd ["self", a] sp ∧ KBn K fd ["self", a] 1 [a] (fun us ws => us ++ ws) (fun vs zs => vs ++ zs)
section
variable {X : Cx} {CX : CXT} {k : Nat} {C : Addr} {sp : Sp} {E : XK} {x a : Str} {p pos : Pos} {kws : List Keyword} {tk : TA}
theorem pe_makeK0 (c : MkcK X.prog X.w X.K X.mg X.base CX k C x a sp) (hr : Room (k + 1) X.A) (hg : Gl X x) (hx : Passes CX X E) (hkw : PK X kws tk)
    (hall : (backToKw pos (keywordEach kws X.env)).all (·.1.isSome) = true := by rfl) (hks : (backToKw pos (keywordEach kws X.env)).filterMap (·.1) = [a] := by rfl)
    (hdb : (x == ("__debug__" : Str)) = false := by decide)
    (hpl : ((backTo pos (starEach [] X.env)).any (·.1) || (backToKw pos (keywordEach kws X.env)).any (·.1.isNone)) = false := by rfl) :
    PE X (.Call (.Name x p) [] kws pos) (tMakeN C 0 1 sp (fun vs zs => vs ++ zs) E tNil tk) := by
  obtain ⟨f, fd, hm, M, F, hb⟩ := c.ex
  refine ⟨fun pins s σ H Q I h => ?_⟩
  refine wpAny_Call_Name_kw (ld_glob I hg hm ?_ hdb)
  refine PySem.W.callWith_KW0 (h₀ := X.base) I.ok.mod.kin M.kp hall ?_ hpl
  refine thn (hkw.run pos pins s σ H _ I h) fun ws s2 ⟨zs, H2, I2, rz, l1, l2, q2⟩ => ⟨I2.kIn, ?_⟩
  rw [hks]
  exact run_makeN (us := []) (vs := []) M F hr hb hx I2 .nil rz l1 l2 q2
end
theorem kbn_self {K : PySem.W.Frag} {x qual : Str} {st : Stmt} {f : Addr} {fd : FuncData} {a : Str} (F : Fun K x qual st f fd)
    (h : ∀ (kV doc pm : Value) (an : Option Addr) (cdv ct u v : Value), bindArgs (PySem.W.fnOf x qual (defArgs st) (defBody st) (defScope st) .none kV doc pm an cdv ct) ⟨[u], [(a, v)]⟩ = pure [(("self" : Str), u), (a, v)]) :
    KBn K fd ["self", a] 1 [a] (fun us ws => us ++ ws) (fun vs zs => vs ++ zs) := by
  obtain ⟨oc, od, kV, doc, pm, an, cdv, ct, osl, rfl, lk, hcd⟩ := F.ex
  refine ⟨fun s us ws _ l1 l2 => ?_, fun r1 r2 => r1.append r2⟩
  match us, ws, l1, l2 with
  | [v], [u], _, _ => exact .of_eq (h kV doc pm an cdv ct v u)
/-! ### xs[::-1] within a comprehension's block -/
theorem pe_revLK {X : Cx} {K : PySem.W.Frag} {e : Expr} {te : TE} {k : Nat} {p1 p2 p3 pos : Pos} (hK : X.K = K) (he : PE X e te) : PE X (.Subscript e (.Slice none none (some (.UnaryOp .USub (.Constant (.int 1) k p1) p2)) p3) pos) (tRevL K te) := by
  subst hK
  exact pe_revL he
/-! ### lists of texts, compared -/
theorem eqvAll_strs : ∀ us vs : List Str, PyData.eqvAll (us.map .str) (vs.map .str) = decide (us = vs)
  | [], [] => rfl
  | [], _ :: _ => rfl
  | _ :: _, [] => rfl
  | u :: us, v :: vs => by
    show ((u == v) && PyData.eqvAll (us.map .str) (vs.map .str)) = _
    rw [eqvAll_strs us vs]
    by_cases h : u = v
    · subst h
      simp
    · rw [show (u == v) = false from beq_eq_false_iff_ne.mpr h, Bool.false_and]
      exact (decide_eq_false fun e => h (List.cons.inj e).1).symm
end Ls
end
section
set_option Elab.async false
set_option linter.all false
set_option maxRecDepth 100000
set_option maxHeartbeats 4000000
namespace PySem
open Sem (wp)
set_option maxHeartbeats 1000000 in
theorem ls_meets_enumerate_new1 {v : Value} {o : Obj} {H : Heap → Prop} (B : Begins v o H) :
    Meets (Builtin.«enumerate.__new__» ⟨[.type "enumerate", v], []⟩) (fun _ R s => H s.heap ∧
      R (.ok (.ret (.ref (s.heap.push o).objs.size))) { s with heap := (s.heap.push o).push { cls := .type "enumerate", data := .fields #[.none, .bool false, .ref s.heap.objs.size, rawInt 0, .none, .none] } }) :=
  .of_wp fun prog w A R s h => by
    obtain ⟨hp, g, d, tks, os⟩ := s; obtain ⟨h1, h⟩ := h
    have hsub := sub_enumerate
    have one : ∀ {A' : Around} {E : Value → Shared → Prop} {Q : Value → Shared → Prop}, Q (.ref hp.objs.size) ⟨hp.push o, g, d, tks, os⟩ → wpAny (model prog w) A' (pyIter v) Q E ⟨hp, g, d, tks, os⟩ :=
      fun q => B.iter prog w _ _ ⟨hp, g, d, tks, os⟩ _ h1 q
    wp_walk using one
    refine wpAny_stack_any fun pos_ => wpAny_pure ?_
    split
    · rename_i c _ _ _ _ _
      cases (c == Value.type "enumerate")
      · wp_walk using one
        exact ⟨_, rfl, h⟩
      · wp_walk using one
        exact ⟨_, rfl, h⟩
    · wp_walk using one
      exact ⟨_, rfl, h⟩
section
variable {prog : Program} {w : World} {A : Around} {E : Value → Shared → Prop} {s : Shared}
theorem ls_enum_begins {v : Value} {o : Obj} {H : Heap → Prop} {Q : Value → Shared → Prop} (B : Begins v o H) (h1 : H s.heap)
    (h : ∀ h', IsEnum h' (s.heap.objs.size + 1) s.heap.objs.size 0 .none → h'.get? s.heap.objs.size = some o → h'.objs.size = s.heap.objs.size + 2 →
      (∀ b o, s.heap.get? b = some o → h'.get? b = some o) → Q (.ref (s.heap.objs.size + 1)) { s with heap := h' }) :
    wpAny (model prog w) A (call (.type "enumerate") [v]) Q E s := by
  refine callType_new F.called_enumerate (by decide) (F.typeCall_enumerate_1 _) (F.newCall_enumerate_1 _) (fun obj => F.args_object_init_2 obj _) F.entry_enumerate_new
    (ls_meets_enumerate_new1 B) ⟨h1, ?_⟩
  have szs : (s.heap.push o).objs.size = s.heap.objs.size + 1 := Heap.size_push ..
  show _ ∧ _
  rw [szs]
  have hen : IsEnum ((s.heap.push o).push { cls := .type "enumerate", data := .fields #[.none, .bool false, .ref s.heap.objs.size, rawInt 0, .none, .none] }) (s.heap.objs.size + 1) s.heap.objs.size 0 .none := by
    have := Heap.get?_push_size (s.heap.push o) (o := { cls := .type "enumerate", data := .fields #[.none, .bool false, .ref s.heap.objs.size, rawInt 0, .none, .none] }) rfl
    rw [szs] at this; exact this
  refine ⟨⟨_, hen, rfl⟩, h _ hen (Heap.get?_push_of_some _ (Heap.get?_push_size _ B.free)) (by rw [Heap.size_push, szs]) fun b o x => Heap.get?_push_of_some _ (Heap.get?_push_of_some _ x)⟩
end
end PySem
namespace Ls
open PySem PySem.Spec PyProof.Rows L2
/-! ### enumerate(t), t a tuple -/
def IteT (K : PySem.W.Frag) (a : Addr) : It :=
  ⟨fun i H => ∃ (xs : List V) (x : V), SqT K H a xs ∧ xs[i]? = some x, fun i H v H' => ∃ T x, v = .ref T ∧ H T = none ∧ H' = upd H T (.tup [.int (i : Nat), x]) ∧ ∀ xs, SqT K H a xs → xs[i]? = some x, fun i H => ∃ xs : List V, SqT K H a xs ∧ xs.length ≤ i⟩
theorem turn_enumT {P : Program} {w : World} {K : PySem.W.Frag} {elts : List Expr} {kk : Nat} {tpos : Pos} (a e it : Addr) :
    Turn P w K (.Tuple elts kk tpos) (IteT K a) [e, it] e (fun i h => (∃ prev, IsEnum h e it ((i : Nat) : Int) prev) ∧ h.IsTupleIter it a i ∧ e ≠ it) where
  mem := by simp
  obj := fun i h pos_ b hb => by
    obtain ⟨⟨prev, hen⟩, ⟨o, ho, hc, hd⟩, _⟩ := pos_
    have e' : b = e ∨ b = it := by simpa using hb
    rcases e' with z | z
    · rw [z]; exact ⟨_, hen, fun v q => nomatch q⟩
    · rw [z]; exact ⟨o, ho, fun v q => by rw [hd] at q; cases q⟩
  keep := fun i h h' pos_ k => let ⟨⟨prev, hen⟩, hi, hdf⟩ := pos_; ⟨⟨prev, k e (by simp) _ hen⟩, hi.at fun o q => k it (by simp) o q, hdf⟩
  item := by
    intro X hP hw hK hc i pins s σ H E I hfree pos_ hgo
    subst hP hw hK
    obtain ⟨⟨prev, hen⟩, hti, hdf⟩ := pos_
    obtain ⟨xs, x, hsq, hxi⟩ := hgo
    obtain ⟨vals, rvs, p, szs⟩ := I.tuple hsq
    obtain ⟨u, hu, rel⟩ := rvs.get hxi
    have ltE : e < s.heap.objs.size := Heap.lt_size hen
    have ltI : it < s.heap.objs.size := by obtain ⟨_, q, _⟩ := hti; exact Heap.lt_size q
    have pT : s.heap.IsTuple a vals.toArray := p
    have nai : a ≠ it := fun z => by
      obtain ⟨o1, one, q2, _⟩ := pT
      obtain ⟨o2, q3, q4, _⟩ := hti
      rw [z, q3] at one
      cases one
      rw [q4] at q2
      exact absurd (Value.type.inj q2) (by decide)
    have nea : e ≠ a := fun z => by
      obtain ⟨o1, one, q2, _⟩ := pT
      have he' : s.heap.get? e = _ := hen
      rw [z, one] at he'
      cases he'
      exact absurd (Value.type.inj q2) (by decide)
    have hi : i < vals.toArray.size := by
      rw [List.size_toArray]
      exact (List.getElem?_eq_some_iff.mp hu).1
    refine wpAny_pyNext_enum_itemC (fp := [it, a]) (Draws.tuple (A := X.A.in1) (show X.A.in1.handled = none from I.ok.hd hc) it a nai vals.toArray) hen ⟨hti, pT⟩ hi hdf (by simp [hdf, nea]) fun y h' tks hP ho hit' hT hgrow hkeep => ?_
    have hy : y = u := by
      have hu' : vals.toArray[i]? = some u := by simpa using hu
      rw [hu'] at hP
      exact (Option.some.inj hP).symm
    subst hy
    refine ⟨_, rfl, wpAny_letOwnedTupleGo_enum (s := { s with heap := h', toks := tks + 1 }) ho fun h'' he' same => ?_⟩
    have atT : h''.get? s.heap.objs.size = some { cls := .type "tuple", data := .seq #[.int i tks, y] } := (same.2 _ (Nat.ne_of_gt ltE)).trans hT
    have fresh : ObjOk X.prog X.w (upd H s.heap.objs.size (.tup [.int (i : Nat), x])) h'' s.heap.objs.size (.tup [.int (i : Nat), x]) :=
      ⟨by show 2 ≤ sizeLine; decide, [.int i tks, y], .cons ⟨_, rfl⟩ (.cons rel .nil), ⟨_, atT, rfl, _, rfl⟩⟩
    have I1 : Inv X pins σ (upd H s.heap.objs.size (.tup [.int (i : Nat), x])) { s with heap := h'', toks := tks + 1 } :=
      I.turnedNew (ch := [e, it]) (fun b ob hb q => (same.2 b (fun z => hb (by simp [z]))).trans (hkeep b ob (fun z => hb (by simp [z])) (fun z => hb (by simp [z])) q)) hfree (Nat.le_refl _) fresh
    refine ⟨.ref s.heap.objs.size, _, I1, rfl, ⟨_, x, rfl, I.hok.fresh (Nat.le_refl _), rfl, fun ys hy => by rw [I.tuple_inj hy hsq]; exact hxi⟩, ⟨⟨y, ?_⟩, hit'.1.at fun o q => (same.2 it (Ne.symm hdf)).trans q, hdf⟩, fun b hb => ?_⟩
    · have e1 : ((i + 1 : Nat) : Int) = (i : Int) + 1 := by omega
      rw [e1]; exact he'
    · have hb' : b < s.heap.objs.size := by
        have e' : b = e ∨ b = it := by simpa using hb
        rcases e' with z | z
        · rw [z]; exact ltE
        · rw [z]; exact ltI
      rw [upd_ne (Nat.ne_of_lt hb')]
      exact (hfree b hb).1
  done := by
    intro X hP hw hK hc i pins s σ H E I hfree pos_ hgo
    subst hP hw hK
    obtain ⟨⟨prev, hen⟩, hti, hdf⟩ := pos_
    obtain ⟨xs, hsq, hxi⟩ := hgo
    obtain ⟨vals, rvs, p, szs⟩ := I.tuple hsq
    obtain ⟨f0, f1, f2, f3, f4, f5⟩ := hfree it (by simp)
    have hl := rvs.length
    have pT : s.heap.IsTuple a vals.toArray := p
    have done : ∀ (n : Nat), vals.toArray.size ≤ n → s.heap.IsTupleIter it a n → wpAny (model X.prog X.w) X.A (pyNext (.ref e)) (fun r s' => r = none ∧ Inv X pins σ H s') E s := fun n hn hi => by
      have hT : s.TypeIs (.ref e) "enumerate" := ⟨_, hen, rfl⟩
      unfold pyNext
      refine wpAny_bind (wpAny_attempt (wpAny_callSpecial?_slot (name := Str.ofString "__next__") hT F.slot_enumerate_next
        (wpAny_call_entry F.slot_enumerate_next hT F.entry_enumerate_next ?_ (F.args_enumerate_next_1 _))))
      show wpAny _ _ (field (.ref e) 2 >>= _) _ _ _
      refine wpAny_bind (wpAny_field hen rfl (x := .ref it) rfl ?_)
      refine wpAny_bind (wpAny_nextOf_tuple_end (I.ok.hd hc) hi pT (Array.getElem?_eq_none hn) fun h' x he' hx' => ?_)
      obtain ⟨o, ho, hcs⟩ := hx'
      refine wpAny_bind (wpAny_isInstance (T := "StopIteration") (b := true) ⟨o, ho, hcs⟩ isSubtype_stop ?_)
      exact wpAny_pure ⟨rfl, I.turned (t' := s.toks) (fun b o hb q => he' b o hb q) f0 f1 f3 f4 f5⟩
    exact done i (by simp; omega) hti
  self := fun A i s Q E pos_ h => let ⟨⟨_, hen⟩, _⟩ := pos_; wpAny_pyIter_enum hen h
def iEnumT (K : PySem.W.Frag) (ta : TA) : TI := fun σ H R => ta σ H fun vs H1 => ∃ a xs, vs = [.ref a] ∧ SqT K H1 a xs ∧ R (IteT K a) H1
theorem pi_enumT {X : Cx} {e : Expr} {ta : TA} {p pos tpos : Pos} {elts : List Expr} {kk : Nat} (hgo : Gl X "enumerate") (hm : X.mg "enumerate" = none) (ha : PA X [e] ta) (hs : starEach [e] X.env = [(false, eval e X.env)] := by rfl) :
    PI X (.Tuple elts kk tpos) (.Call (.Name "enumerate" p) [e] [] pos) (iEnumT X.K ta) := by
  refine ⟨fun pins s σ H R I h => ?_⟩
  refine Call_ (ld_blt I hgo hm boot_enumerate (PyProof.Rows.callWith_type1 (thn (ha.run pos pins s σ H _ I h) fun us s1 ⟨vs, H1, I1, r1, one⟩ => ?_) hs rfl))
  obtain ⟨a, xs, ex, hsq, q⟩ := one
  subst ex
  cases r1 with
  | cons r rr =>
    cases rr
    cases r
    obtain ⟨vals, rvs, p', szs⟩ := I1.tuple hsq
    refine ls_enum_begins (begins_tuple a vals.toArray) p' fun h' hen hti hgrow hkeep => wpAny_pyIter_enum hen ?_
    have I2 : Inv X pins σ H1 { s1 with heap := h' } := I1.kept (t' := s1.toks) hkeep
    refine ⟨s1.heap.objs.size + 1, [s1.heap.objs.size + 1, s1.heap.objs.size], _, _, H1, rfl, I2, turn_enumT a (s1.heap.objs.size + 1) s1.heap.objs.size, ⟨⟨.none, hen⟩, ⟨_, hti, rfl, rfl⟩, Nat.succ_ne_self _⟩, fun b hb => ?_, q⟩
    have e' : b = s1.heap.objs.size + 1 ∨ b = s1.heap.objs.size := by simpa using hb
    have above : s1.heap.objs.size ≤ b := by
      rcases e' with z | z
      · rw [z]; exact Nat.le_add_right _ _
      · rw [z]; exact Nat.le_refl _
    exact I1.fpOk above (I1.hok.fresh above)
theorem walk_enumT {K : PySem.W.Frag} {a : Addr} {xs : List V} : Walk (IteT K a) xs.length (fun H => SqT K H a xs) (YPair (fun i => some (.int (i : Nat))) (fun i => xs[i]?)) := by
  refine ⟨fun i _ hi q => ⟨xs, xs[i], q, by simp [hi]⟩, fun _ q => ⟨xs, q, Nat.le_refl _⟩, fun i H v H' _ q y => ?_⟩
  obtain ⟨T, x, h1, h2, h3, h4⟩ := y
  exact ⟨T, .int (i : Nat), x, h1, h2, h3, rfl, h4 xs q⟩
end Ls
end
section
set_option Elab.async false
set_option linter.all false
set_option maxRecDepth 100000
set_option maxHeartbeats 4000000
namespace Ls
open PySem PySem.Spec PyProof.Rows L2 LamX
/-! ### a lambda as a value that is kept -/
abbrev lamObj (X : Cx) (ar : Arguments) (b : PySem.Expr) (sc : Scope) (pm : Value) (c' : Addr) (ctv : Value) : Obj :=
  PySem.W.kla_obj "<lambda>" (X.env.qual ++ "<lambda>") ar b sc (cloFrom X.env.cells sc.names []) pm c' ctv
/-- at f stands the lambda, its code object at c' -/
def LamO (X : Cx) (f c' : Addr) (ar : Arguments) (b : PySem.Expr) (sc : Scope) : HO := .ext fun h => ∃ pm ctv, h.get? f = some (lamObj X ar b sc pm c' ctv)
theorem lamO_ne {X : Cx} {f c' : Addr} {ar : Arguments} {b : PySem.Expr} {sc : Scope} (ps : Array Value) : LamO X f c' ar b sc ≠ .tbl ps := fun z => by
  unfold LamO at z
  cases z
section
variable {X : Cx} {pins : List (Addr × Obj)} {σ : L2.St} {H : Hp} {s : Shared}
/-- the newest object of the heap, a lambda, is tracked -/
theorem lam_tracked {h0 : Heap} {tk : Nat} {c' : Addr} {ar : Arguments} {b : PySem.Expr} {sc : Scope} {pm ctv : Value} {H1 : Hp} (I : Inv X pins σ H s) (le : s.heap.objs.size ≤ h0.objs.size)
    (J : Inv X pins σ H1 { s with heap := h0.push (lamObj X ar b sc pm c' ctv), toks := tk }) (hn : H1 h0.objs.size = none) :
    Inv X pins σ (upd H1 h0.objs.size (LamO X h0.objs.size c' ar b sc)) { s with heap := h0.push (lamObj X ar b sc pm c' ctv), toks := tk } := by
  have old : ∀ {g : Heap} {o : Obj}, g.get? h0.objs.size = some o → g.objs.size ≤ h0.objs.size → False := fun e z => Nat.lt_irrefl _ (Nat.lt_of_lt_of_le (Heap.lt_size e) z)
  have here : (h0.push (lamObj X ar b sc pm c' ctv)).get? h0.objs.size = some (lamObj X ar b sc pm c' ctv) := Heap.get?_push_size _ rfl
  refine inv_track J hn ?_ (Nat.ne_of_gt (Nat.lt_of_lt_of_le I.lt le)) (fun x c e z => ?_) (fun p hp z => ?_) ⟨⟨pm, ctv, here⟩, ⟨_, here⟩, fun h1 h2 ⟨a, b, e⟩ st => ⟨a, b, st _ e⟩⟩
  · cases q : X.s_0.heap.get? h0.objs.size with
    | none => rfl
    | some o => exact (old q (Nat.le_trans I.sz le)).elim
  · obtain ⟨v, o, ho, _⟩ := I.cell x c e
    rw [z] at ho
    exact old ho le
  · obtain ⟨q, _⟩ := I.pin p hp
    rw [z] at q
    exact old q le
theorem pe_lamV {T : List (Addr × Str)} {c P : Addr} {ar : Arguments} {b : PySem.Expr} {sc : Scope} {pos : Pos} (TB : TabB X.base X.mg c P) (hcode : X.env.code = .ref c) (hm : (P, X.env.qual ++ "<lambda>") ∈ T)
    (hu : ∀ p ∈ T, p.1 = P → p.2 = X.env.qual ++ "<lambda>") (hdef : defaultsOf ar X.env = ([], [])) (L : LamS X.env.scope sc) :
    PE X (.Lambda ar b sc pos) (fun σ H Q => Tabs T H ∧ ∀ (f c' : Addr) (H' : Hp), ExtN H H' → Tabs T H' → H f = none → H' f = some (LamO X f c' ar b sc) → H' c' = some (CodeO c' (X.env.qual ++ "<lambda>")) → Q (.ref f) H') := by
  refine ⟨fun pins s σ H Q I ⟨hT, h⟩ => ?_⟩
  have free := L.has I.ok
  have bP : s.heap.BuiltinsAt X.mg P := TB.bm.keeps I.bk
  obtain ⟨ps, hP, ht, ha⟩ := hT _ hm
  have oP : s.heap.get? P = some { cls := .none, data := .fields ps } := I.hok P _ hP
  refine PySem.W.kla_eval hdef ?_
  cases found : codeAmong pos ps.toList with
  | some cv =>
    obtain ⟨c', rfl, hco⟩ := ha pos cv found
    refine PySem.W.kla_makeFunctionHit (mg := X.mg) (c := c) (P := P) (ps := ps) (closure_ok free) I.ok.glob (I.mod.glob.keeps I.bk) hcode (TB.code.keeps I.bk) oP ht found bP fun ctv h' tk keep le => ?_
    have n : H h'.objs.size = none := I.hok.fresh le
    have J : Inv X pins σ H { s with heap := h'.push (lamObj X ar b sc ((X.mg "__name__").getD .none) c' ctv), toks := tk } := I.kept fun b o e => Heap.get?_push_of_some _ (keep b o e)
    have e0 : ∀ d o, H d = some o → upd H h'.objs.size (LamO X h'.objs.size c' ar b sc) d = some o := fun d o e => by
      rw [upd_ne (ne_of_none e n)]
      exact e
    exact ⟨.ref h'.objs.size, _, lam_tracked I le J n, rfl, h _ c' _ (ExtN.of e0) (hT.ext e0) n upd_same (e0 _ _ hco)⟩
  | none =>
    refine PySem.W.kla_makeFunction (mg := X.mg) (c := c) (P := P) (ps := ps) (closure_ok free) I.ok.glob (I.mod.glob.keeps I.bk) hcode (TB.code.keeps I.bk) oP ht found TB.gP bP fun c' ctv h' tk keep ge lt rec tab => ?_
    obtain ⟨_, oc, vs, t, e2, hoc, hd, hv⟩ := rec
    cases e2
    have le : s.heap.objs.size ≤ h'.objs.size := Nat.le_trans ge (Nat.le_of_lt lt)
    have nc : H c' = none := I.hok.fresh ge
    have n : H h'.objs.size = none := I.hok.fresh le
    have nf : h'.objs.size ≠ c' := Nat.ne_of_gt lt
    have nP : h'.objs.size ≠ P := Nat.ne_of_gt (Nat.lt_of_lt_of_le (Heap.lt_size oP) le)
    have cP : P ≠ c' := ne_of_none hP nc
    have J := inv_table (t' := tk) (q := X.env.qual ++ "<lambda>") (more := #[rawInt pos.line, rawInt pos.col, .ref c']) (h' := h'.push (lamObj X ar b sc ((X.mg "__name__").getD .none) c' ctv)) I hP
      (fun b o hb e => Heap.get?_push_of_some _ (keep b o hb e)) (Heap.get?_push_of_some _ tab) ge ⟨oc, vs, t, Heap.get?_push_of_some _ hoc, hd, hv⟩
    have n1 : upd (upd H P (.tbl (ps ++ #[rawInt pos.line, rawInt pos.col, .ref c']))) c' (CodeO c' (X.env.qual ++ "<lambda>")) h'.objs.size = none := by rw [upd_ne nf, upd_ne nP, n]
    have J2 := lam_tracked I le J n1
    generalize hH2 : upd (upd (upd H P (.tbl (ps ++ #[rawInt pos.line, rawInt pos.col, .ref c']))) c' (CodeO c' (X.env.qual ++ "<lambda>"))) h'.objs.size (LamO X h'.objs.size c' ar b sc) = H2 at J2
    have atP : H2 P = some (.tbl (ps ++ #[rawInt pos.line, rawInt pos.col, .ref c'])) := by rw [← hH2, upd_ne (Ne.symm nP), upd_ne cP, upd_same]
    have atc : H2 c' = some (CodeO c' (X.env.qual ++ "<lambda>")) := by rw [← hH2, upd_ne (Ne.symm nf), upd_same]
    have off : ∀ d, d ≠ h'.objs.size → d ≠ c' → d ≠ P → H2 d = H d := fun d a b c => by rw [← hH2, upd_ne a, upd_ne b, upd_ne c]
    have grow : ExtN H H2 := fun d o e nt => by
      rw [off d (ne_of_none e n) (ne_of_none e nc) (fun z => ?_)]
      · exact e
      · rw [z, hP] at e
        exact nt ps (Option.some.inj e).symm
    have tabs : Tabs T H2 := fun p hp => by
      by_cases hb : p.1 = P
      · rw [hu p hp hb, hb]
        have eL : (ps ++ #[rawInt pos.line, rawInt pos.col, .ref c']).toList = ps.toList ++ [rawInt pos.line, rawInt pos.col, .ref c'] := by simp
        refine ⟨_, atP, by rw [eL]; exact PySem.TriplesOk_snoc _ _ _ _ ht, fun p' cv q => ?_⟩
        rw [eL] at q
        rcases among_app _ ht q with z | z
        · obtain ⟨d, e1, e2⟩ := ha p' cv z
          exact ⟨d, e1, grow _ _ e2 codeO_ne⟩
        · exact ⟨c', z, atc⟩
      · obtain ⟨qs, a1, a2, a3⟩ := hT p hp
        refine ⟨qs, (off _ (ne_of_none a1 n) (ne_of_none a1 nc) hb).trans a1, a2, fun p' cv q => ?_⟩
        obtain ⟨d, e1, e2⟩ := a3 p' cv q
        exact ⟨d, e1, grow _ _ e2 codeO_ne⟩
    exact ⟨.ref h'.objs.size, _, J2, rfl, h _ c' H2 grow tabs n (by rw [← hH2]; exact upd_same) atc⟩
/-- v(): a kept lambda under a local name, in the def that made it -/
theorem pe_callV {ar : Arguments} {b : PySem.Expr} {sc : Scope} {k i : Nat} {a : Str} {E : XK} {tb : TE} {p1 p2 : Pos} (L : LamS X.env.scope sc)
    (hbind : ∀ (q : Str) (cl : List (Str × Addr)) (pm cv ctv : Value), bindArgs (PySem.W.kla_fn "<lambda>" q ar b sc cl pm cv ctv) ⟨[], []⟩ = pure [])
    (hx : Passes (L2.CX X.prog X.w) X E) (hr : Room (k + 1) X.A)
    (hbody : ∀ (A : Around) (outer : List Env) (s : Shared) (H : Hp) (f c' : Addr), Room k (A.deeper (lamEnv X sc s.heap.objs.size f c')) → PE (lamCx X A outer s H E sc f c') b tb)
    (hN : X.N[i]? = some a) (hv : Vis X.env.scope a) (hd : (a == ("__debug__" : Str)) = false := by decide) (hcd : (a == ("__classdict__" : Str)) = false := by decide) :
    PE X (.Call (.Name a p1) [] [] p2) (fun σ H Q => ∃ f c', σ[i]? = some (some (.ref f)) ∧ H f = some (LamO X f c' ar b sc) ∧ H c' = some (CodeO c' (X.env.qual ++ "<lambda>")) ∧ tb σ H Q) := by
  refine ⟨fun pins s σ H Q I ⟨f, c', hs, hf, hc, ht⟩ => ?_⟩
  refine wpAny_Call_Name_kw (thn ((pe_var (pos := p1) (i := i) hN hv hd hcd).run pins s σ H (fun v H1 => v = .ref f ∧ H1 = H) I ⟨.ref f, hs, rfl, rfl⟩) fun u s1 ⟨v, H1, I1, r1, ev, eH⟩ => ?_)
  subst ev eH
  obtain rfl : u = Value.ref f := r1
  obtain ⟨⟨pm, ctv, of1⟩, _, _⟩ := I1.hok f _ hf
  obtain ⟨⟨oc, vs, t, hoc, hdc, hvc⟩, _, _⟩ := I1.hok c' _ hc
  refine PySem.W.callWith_F0 ⟨_, _, _, _, of1⟩ ?_
  have rc : codeAny (model X.prog X.w) X.A (.call (.ref f) ⟨[], []⟩) (CR (L2.CX X.prog X.w) X.stack X.prog X.w H1 s1 Q E) s1 := by
    refine PySem.W.kla_callFunE hr.depth of1 rfl L.co L.gen rfl ⟨c', oc, vs, t, rfl, hoc, hdc, hvc⟩ ?_
    rw [hbind]
    refine wpAny_pure (wpAny_newFunctionEnv (fun y hy => (L.own y hy).2) (fun y hy => absurd hy (by simp)) (fun h₁ hns hsb => ⟨I1.nolimit.fresh _ hsb, ?_⟩) L.kind)
    show codeAny _ _ (.expr b (lamEnv X sc s1.heap.objs.size f c')) _ _
    have J := lam_start2 (E := E) (f := f) (c' := c') (tk := s1.toks + ([] : List (Str × Value)).length) I1 L I1.env0 hr.hd (Un.kept fun b o e => e) hns fun b o e => hsb.extBut b o (Nat.ne_of_lt (Heap.lt_size e)) (Heap.get?_push_of_some _ e)
    refine PySem.W.kla_codeExpr (wpAny_mono ((hbody _ _ s1 H1 _ _ (hr.deeper _)).run [] _ _ H1 Q J ht) (fun v s' hq => ?_) fun e s' hq => hq)
    obtain ⟨w', H', J', rv, q⟩ := hq
    exact ⟨w', H', J'.os, J'.bare, J'.base, J'.hok, rv, q⟩
  refine wpAny_call (codeAny_mono rc fun r s' hq => ?_)
  match r, hq with
  | .error e, hq => exact hx pins σ H1 s1 e s' I1 hq
  | .ok (.ret u), hq => exact I1.after hq
/-- one promise or another -/
theorem pe_or {e : PySem.Expr} {t1 t2 : TE} (h1 : PE X e t1) (h2 : PE X e t2) : PE X e (fun σ H Q => t1 σ H Q ∨ t2 σ H Q) := ⟨fun pins s σ H Q I h => h.elim (h1.run pins s σ H Q I) (h2.run pins s σ H Q I)⟩
end
/-- a def whose walk must know its code object -/
theorem okC {P : Program} {w : World} {K : PySem.W.Frag} {mg : Str → Option Value} {base : Heap} {CX : CXT} {x qual : Str} {st : Stmt} {f : Addr} {fd : FuncData} {N ps : List Str} {k : Nat} {sp : Sp} (F : Fun K x qual st f fd) (S : FnScope N ps (defScope st)) (len : ∀ vs H Q E, sp vs H Q E → vs.length = ps.length)
    (walk : ∀ (A : Around) (outer : List Env) (s : Shared) (H : Hp) (vs : List V) (Q : VK) (E : XK), Room k (A.deeper (envOfC qual (defScope st) s.heap.objs.size f fd.code)) → sp vs H Q E →
      ∃ t, PSs (cxOf CX P w K mg base N qual (defScope st) f fd.code A outer s H E) (defBody st) t ∧ t { nx := fun _ H' => Q .non H', rt := Q } (start N vs) H) : FnOk P w K mg base CX (k + 1) f fd ps sp := by
  obtain ⟨_, _, _, _, _, _, _, _, _, rfl, lk, hcd⟩ := F.ex
  exact fn_of lk hcd S len walk
end Ls
end
section
set_option Elab.async false
set_option linter.all false
set_option maxRecDepth 100000
set_option maxHeartbeats 4000000
namespace Ls
open PySem PySem.Spec PyProof.Rows L2
/-! ### def f(a, *ws, z = ..): made by C(x, .., z = v), C(z = v), C(x, ..) -/
/-- a promise of the first value, those left over, the keyword's -/
abbrev SpK := V → List V → V → Hp → VK → XK → Prop
def FnSK (P : Program) (w : World) (K : PySem.W.Frag) (mg : Str → Option Value) (base : Heap) (CX : CXT) (k : Nat) (f : Addr) (z : Str) (sp : SpK) : Prop :=
  ∀ (A : Around) (outer : List Env) (s : Shared) (H : Hp) (u0 u : Value) (us : List Value) (v0 v : V) (vs : List V) (Q : VK) (E : XK), Room k A → Env0 P w K mg base A outer s H → RelV v0 u0 → Vals vs us → RelV v u → sp v0 vs v H Q E →
    codeAny (model P w) A (.call (.ref f) ⟨u0 :: us, [(z, u)]⟩) (CR CX outer P w H s Q E) s
section
variable {CX : CXT} {P : Program} {w : World} {K : PySem.W.Frag} {mg : Str → Option Value} {base : Heap} {k : Nat} {f : Addr} {name qual : Str} {params : Arguments} {body : List Stmt} {scope : Scope} {dV kV doc pm cdv ct oc : Value} {an od : Option Addr}
  {osl : Array (Option Value)} {N : List Str} {a z pv : Str} {sp : Sp}
/-- what the body is promised: the values in the order of the parameters, the tuple last -/
def spKt (sp : Sp) : SpK := fun v0 vs v H Q E => vs.length ≤ sizeLine ∧ ∀ p, H p = none → sp [v0, v, .ref p] (upd H p (.tup vs)) Q E
theorem bnd_tup {A : Around} {outer : List Env} {s : Shared} {H : Hp} {E : XK} {fd : FuncData} {args : Args} {u0 u : Value} {us : List Value} {v0 v : V} {vs : List V} (hCX : StX.CXUp CX) (e0 : Env0 P w K mg base A outer s H) (r0 : RelV v0 u0) (rs : Vals vs us) (r : RelV v u) (hz : vs.length ≤ sizeLine)
    (hb : ∀ (A' : Around) (Ex : Value → Shared → Prop) (Q : List (Str × Value) → Shared → Prop), wpAny (model P w) A' (newTuple us >>= fun t => pure [(a, u0), (z, u), (pv, t)]) Q Ex s → wpAny (model P w) A' (bindArgs fd args) Q Ex s) :
    StX.Bnd CX P w K mg base fd args [a, z, pv] A outer s H E (fun xs H2 => ∃ p, H p = none ∧ xs = [v0, v, .ref p] ∧ H2 = upd H p (.tup vs)) := fun A' Ex Q h => by
  have hn : H s.heap.objs.size = none := e0.hok.fresh (Nat.le_refl _)
  refine hb _ _ _ (wpAny_bind (wpAny_newTuple (wpAny_pure ?_) (by rw [← rs.length]; exact hz)))
  have un := StX.un_laid (fs := frs outer) (s := s) (o := ({ cls := .type "tuple", data := .seq us.toArray } : Obj)) (u := .tup vs) hn
  have new : ObjOk P w (upd H s.heap.objs.size (.tup vs)) (s.heap.push ({ cls := .type "tuple", data := .seq us.toArray } : Obj)) s.heap.objs.size (.tup vs) := ⟨hz, us, rs, ⟨_, Heap.get?_push_size _ rfl, rfl, _, rfl⟩⟩
  exact h _ _ [v0, v, V.ref s.heap.objs.size] [u0, u, Value.ref s.heap.objs.size] (StX.env0_laid e0 new) un rfl
    (fun e s' => hCX outer s H _ _ E e s' un (fun b o q => Heap.get?_push_of_some _ q) rfl) (.cons r0 (.cons r (.cons rfl .nil))) rfl ⟨_, hn, rfl, rfl⟩
theorem fn_sk (lk : K.lookup f = some ⟨oc, od, .func (PySem.W.fnOf name qual params body scope dV kV doc pm an cdv ct), osl⟩) (hcd : PySem.W.codeIn K cdv qual = true) (S : FnScope N [a, z, pv] scope) (hCX : StX.CXUp CX)
    (hb0 : ∀ u0 u, bindArgs (PySem.W.fnOf name qual params body scope dV kV doc pm an cdv ct) ⟨[u0], [(z, u)]⟩ = (newTuple [] >>= fun t => pure [(a, u0), (z, u), (pv, t)]))
    (hb1 : ∀ u0 u x xs, bindArgs (PySem.W.fnOf name qual params body scope dV kV doc pm an cdv ct) ⟨u0 :: x :: xs, [(z, u)]⟩ = (newTuple (x :: xs) >>= fun t => pure [(a, u0), (z, u), (pv, t)]))
    (hbody : ∀ (A : Around) (outer : List Env) (s : Shared) (H : Hp) (vs : List V) (Q : VK) (E : XK), Room k (A.deeper (envOfC qual scope s.heap.objs.size f cdv)) → sp vs H Q E →
      ∃ t, PSs (cxOf CX P w K mg base N qual scope f cdv A outer s H E) body t ∧ t { nx := fun _ H' => Q .non H', rt := Q } (start N vs) H) : FnSK P w K mg base CX (k + 1) f z (spKt sp) := by
  intro A outer s H u0 u us v0 v vs Q E hr e0 r0 rs r ⟨hz, q⟩
  have hb : bindArgs (PySem.W.fnOf name qual params body scope dV kV doc pm an cdv ct) ⟨u0 :: us, [(z, u)]⟩ = (newTuple us >>= fun t => pure [(a, u0), (z, u), (pv, t)]) := by
    match us with
    | [] => exact hb0 u0 u
    | x :: xs => exact hb1 u0 u x xs
  refine StX.run_bnd lk hcd S hr e0 (bnd_tup (a := a) (z := z) (pv := pv) hCX e0 r0 rs r hz fun A' Ex Q h => by rw [hb]; exact h) fun s2 H2 xs g hr' => ?_
  obtain ⟨p, hp, rfl, rfl⟩ := g
  exact hbody A outer s2 _ _ Q E hr' (q p hp)
/-- without the keyword: its default, out of the dict at D -/
theorem fn_sd {D : Addr} {d : Value} {v : V} (lk : K.lookup f = some ⟨oc, od, .func (PySem.W.fnOf name qual params body scope dV (.ref D) doc pm an cdv ct), osl⟩) (hcd : PySem.W.codeIn K cdv qual = true) (S : FnScope N [a, z, pv] scope) (hCX : StX.CXUp CX)
    (hd : PySem.W.nsIn K D z = some (some d)) (rd : RelV v d)
    (hb : ∀ u0 x xs, ∃ (β γ : Type) (k1 : Option Value → Sem β) (k2 : β → Sem γ) (k3 : γ → Sem (List (Str × Value))) (y : β), bindArgs (PySem.W.fnOf name qual params body scope dV (.ref D) doc pm an cdv ct) ⟨u0 :: x :: xs, []⟩ = ((nsGet D z >>= k1) >>= k2) >>= k3 ∧ k1 (some d) = pure y ∧
      (k2 y >>= k3) = (newTuple (x :: xs) >>= fun t => pure [(a, u0), (z, d), (pv, t)]))
    (hbody : ∀ (A : Around) (outer : List Env) (s : Shared) (H : Hp) (vs : List V) (Q : VK) (E : XK), Room k (A.deeper (envOfC qual scope s.heap.objs.size f cdv)) → sp vs H Q E →
      ∃ t, PSs (cxOf CX P w K mg base N qual scope f cdv A outer s H E) body t ∧ t { nx := fun _ H' => Q .non H', rt := Q } (start N vs) H) : FnR P w K mg base CX (k + 1) f (fun vs H Q E => ∃ v0 x xs, vs = v0 :: x :: xs ∧ spKt sp v0 (x :: xs) v H Q E) := by
  intro A outer s H us vs Q E hr e0 r ⟨v0, x, xs, ev, hz, q⟩
  subst ev
  obtain ⟨u0, y, ys, rfl, r0, ry, rs⟩ : ∃ u0 y ys, us = u0 :: y :: ys ∧ RelV v0 u0 ∧ RelV x y ∧ Vals xs ys := by
    cases r with
    | cons a b => cases b with
      | cons b c => exact ⟨_, _, _, rfl, a, b, c⟩
  refine StX.run_bnd lk hcd S hr e0 (bnd_tup (a := a) (z := z) (pv := pv) (u := d) (us := y :: ys) hCX e0 r0 (.cons ry rs) rd hz fun A' Ex Q h => ?_) fun s2 H2 xs g hr' => ?_
  · obtain ⟨β, γ, k1, k2, k3, y1, e1, e2, e3⟩ := hb u0 y ys
    have X : K.In s.heap := e0.mod.kin.keeps fun b o e => (e0.bs b o e).1
    have l1 : PySem.W.Looks (model P w) s.heap (nsGet D z >>= k1) y1 := (PySem.W.looks_nsIn X hd).andThen (.of_pure e2)
    rw [e1, bind_assoc]
    exact wpAny_bind (l1.here (by rw [e3]; exact h))
  · obtain ⟨p, hp, rfl, rfl⟩ := g
    exact hbody A outer s2 _ _ Q E hr' (q p hp)
end
section
variable {X : Cx} {CX : CXT} {k : Nat} {f C : Addr} {sp : SpK} {E : XK} {x z : Str} {e : Expr} {es : List Expr} {kws : List Keyword} {t tk : TA} {p pos : Pos}
/-- the class under the module's name x whose __init__ takes *ws and the keyword z -/
structure MkSK (P : Program) (w : World) (K : PySem.W.Frag) (mg : Str → Option Value) (base : Heap) (CX : CXT) (k : Nat) (C : Addr) (x z : Str) (sp : SpK) : Prop where
  ex : ∃ f, mg x = some (.ref C) ∧ Mk K C f ∧ FnSK P w K mg base CX k f z sp
def tMkSK (C : Addr) (sp : SpK) (E : XK) (t tk : TA) : TE := fun σ H Q => t σ H fun vs H1 => tk σ H1 fun zs H2 => ∃ v, zs = [v] ∧ ∀ a dx, H2 a = none → H2 dx = none → dx ≠ a →
  sp (.ref a) vs v (upd (upd H2 dx (.own a)) a (.ins C dx [])) (fun y H3 => y = .non ∧ Q (.ref a) H3) E
theorem run_makeSK {pins : List (Addr × Obj)} {σ : L2.St} {H : Hp} {s : Shared} {Q : VK} {us : List Value} {u : Value} {vs : List V} {v : V} (M : Mk X.K C f) (F : FnSK X.prog X.w X.K X.mg X.base CX k f z sp) (hr : Room (k + 1) X.A) (hx : Passes CX X E) (I : Inv X pins σ H s) (rs : Vals vs us) (r : RelV v u)
    (h : ∀ a dx, H a = none → H dx = none → dx ≠ a → sp (.ref a) vs v (upd (upd H dx (.own a)) a (.ins C dx [])) (fun y H2 => y = .non ∧ Q (.ref a) H2) E) :
    wpAny (model X.prog X.w) X.A (call (.ref C) us [(z, u)]) (EP X pins σ Q) X.xe s := by
  have I2 := Inv.made (C := C) I
  have q := h (s.heap.objs.size + 1) s.heap.objs.size (I.hok.fresh (Nat.le_succ _)) (I.hok.fresh (Nat.le_refl _)) (Nat.ne_of_lt (Nat.lt_succ_self _))
  refine wpAny_call (make_map (f := f) I.kIn M.makes M.init (beq_iff_eq.mp M.fn) (codeAny_mono (F _ X.stack _ _ (Value.ref (s.heap.objs.size + 1)) u us (V.ref (s.heap.objs.size + 1)) v vs _ E (hr.make C us [(z, u)]) (I2.env0.make C us [(z, u)]) rfl rs r q) fun y s' hq => ?_))
  match y, hq with
  | .error e, hq => exact hx pins σ _ _ e s' I2 hq
  | .ok (.ret u), hq =>
    obtain ⟨v, H', I3, rv, rfl, q3⟩ := I2.after hq
    exact ⟨rv, .ref (s.heap.objs.size + 1), H', I3, rfl, q3⟩
theorem pe_makeSK (c : MkSK X.prog X.w X.K X.mg X.base CX k C x z sp) (hr : Room (k + 1) X.A) (hg : Gl X x) (hx : Passes CX X E) (ha : PA X (e :: es) t) (hkw : PK X kws tk) (hall : (backToKw pos (keywordEach kws X.env)).all (·.1.isSome) = true := by rfl)
    (hks : (backToKw pos (keywordEach kws X.env)).filterMap (·.1) = [z] := by rfl) (hdb : (x == ("__debug__" : Str)) = false := by decide) (he : starEach (e :: es) X.env = (false, eval e X.env) :: starEach es X.env := by rfl)
    (hpl : ((backTo pos (starEach (e :: es) X.env)).any (·.1) || (backToKw pos (keywordEach kws X.env)).any (·.1.isNone)) = false := by rfl) : PE X (.Call (.Name x p) (e :: es) kws pos) (tMkSK C sp E t tk) := by
  obtain ⟨f, hm, M, F⟩ := c.ex
  refine ⟨fun pins s σ H Q I h => wpAny_Call_Name_kw (ld_glob I hg hm ?_ hdb)⟩
  refine PySem.W.callWith_KW (h₀ := X.base) I.ok.mod.kin M.kp hall (thn (ha.run pos pins s σ H _ I h) fun us s1 ⟨vs, H1, I1, r, q⟩ => ?_) hpl he
  refine thn (hkw.run pos pins s1 σ H1 _ I1 q) fun ws s2 ⟨zs, H2, I2, rz, v, ez, q2⟩ => ⟨I2.kIn, ?_⟩
  subst ez
  obtain ⟨u, rfl, ru⟩ := rz.one
  rw [hks]
  exact run_makeSK M F hr hx I2 r ru q2
theorem pe_makeSK0 (c : MkSK X.prog X.w X.K X.mg X.base CX k C x z sp) (hr : Room (k + 1) X.A) (hg : Gl X x) (hx : Passes CX X E) (hkw : PK X kws tk) (hall : (backToKw pos (keywordEach kws X.env)).all (·.1.isSome) = true := by rfl)
    (hks : (backToKw pos (keywordEach kws X.env)).filterMap (·.1) = [z] := by rfl) (hdb : (x == ("__debug__" : Str)) = false := by decide)
    (hpl : ((backTo pos (starEach [] X.env)).any (·.1) || (backToKw pos (keywordEach kws X.env)).any (·.1.isNone)) = false := by rfl) : PE X (.Call (.Name x p) [] kws pos) (tMkSK C sp E tNil tk) := by
  obtain ⟨f, hm, M, F⟩ := c.ex
  refine ⟨fun pins s σ H Q I h => wpAny_Call_Name_kw (ld_glob I hg hm ?_ hdb)⟩
  refine PySem.W.callWith_KW0 (h₀ := X.base) I.ok.mod.kin M.kp hall (thn (hkw.run pos pins s σ H _ I h) fun ws s2 ⟨zs, H2, I2, rz, v, ez, q2⟩ => ⟨I2.kIn, ?_⟩) hpl
  subst ez
  obtain ⟨u, rfl, ru⟩ := rz.one
  rw [hks]
  exact run_makeSK (us := []) (vs := []) M F hr hx I2 .nil ru q2
end
end Ls
end
section
set_option Elab.async false
set_option linter.all false
set_option maxRecDepth 100000
set_option maxHeartbeats 4000000
namespace Ls
open PySem PySem.Spec PyProof.Rows L2
/-! ### x in t, x not in t: t a tuple of plain data, x plain data of any kind -/
def rInTV (neg : Bool) : R2 := fun x y H Q => ∃ d ds, TV H x d ∧ TV H y (.tuple ds) ∧ PyData.canLayAll0 ds = true ∧ d.canLay0 = true ∧ PyData.depthAll ds ≤ 50 ∧ Q (.bl (if neg then !ds.any fun z => PyData.eqv z d else ds.any fun z => PyData.eqv z d)) H
section
variable {X : Cx} {k : Nat}
theorem room_in {A : Around} {ds : List PyData} {d : PyData} (hr : Room k A) (h : PyData.depthAll ds ≤ 50) : A.units + 1 + min (PyData.depthAll ds) d.depth < cLine := by
  have h1 := Nat.min_le_left (PyData.depthAll ds) d.depth
  have h2 := hr.units
  omega
theorem no_sys {pins : List (Addr × Obj)} {σ : L2.St} {H : Hp} {s : Shared} (hb : (X.base.get? sysModules).isSome = true) (I : Inv X pins σ H s) : H sysModules = none := by
  obtain ⟨o, e⟩ := Option.isSome_iff_exists.mp hb
  exact (I.bs _ _ e).2
theorem op_inTV (hb : (X.base.get? sysModules).isSome = true) (hr : Room k X.A) : OpR X (compareOp .In) (rInTV false) := by
  intro pins s σ H x y v u Q I rx ry ⟨d, ds, hd, he, h1, h2, h3, q⟩
  obtain ⟨as, r1, _⟩ := reads_of I (no_sys hb I) hd rx
  obtain ⟨bs, r2, _⟩ := reads_of I (no_sys hb I) he ry
  exact SeqAt.in_tuple_reads r2 r1 h1 h2 (room_in hr h3) ⟨.bl _, H, I, rfl, q⟩
theorem op_notInTV (hb : (X.base.get? sysModules).isSome = true) (hr : Room k X.A) : OpR X (compareOp .NotIn) (rInTV true) := by
  intro pins s σ H x y v u Q I rx ry ⟨d, ds, hd, he, h1, h2, h3, q⟩
  obtain ⟨as, r1, _⟩ := reads_of I (no_sys hb I) hd rx
  obtain ⟨bs, r2, _⟩ := reads_of I (no_sys hb I) he ry
  exact SeqAt.notIn_tuple_reads r2 r1 h1 h2 (room_in hr h3) ⟨.bl _, H, I, rfl, q⟩
end
theorem depth_strs : ∀ us : List Str, PyData.depthAll (us.map .str) ≤ 1
  | [] => by simp [PyData.depthAll]
  | u :: r => by
    have h := depth_strs r
    simp only [List.map_cons, PyData.depthAll, PyData.depth]
    omega
end Ls
end
section
set_option Elab.async false
set_option autoImplicit false
set_option linter.all false
set_option maxRecDepth 100000
set_option maxHeartbeats 4000000
namespace Ls
open PySem PySem.Spec PyProof.Rows L2
/-! ### cuts of lists -/
theorem sIx_pos {n d : Nat} {i : Int} (h : 0 ≤ i) : HT.sIx n d (some i) = min i.toNat n := by
  show (if i < 0 then (i + (n : Int)).toNat else min i.toNat n) = _
  rw [if_neg (by omega)]
theorem cutV_to (xs : List V) {i : Int} (h : 0 ≤ i) : cutV xs none (some i) = xs.take i.toNat := by
  unfold cutV
  rw [sIx_pos h, HT.sIx_none, List.drop_zero, Nat.sub_zero]
  rcases Nat.le_total i.toNat xs.length with h1 | h1
  · rw [Nat.min_eq_left h1]
  · rw [Nat.min_eq_right h1, List.take_of_length_le (Nat.le_refl _), List.take_of_length_le h1]
theorem cutV_from (xs : List V) {i : Int} (h : 0 ≤ i) : cutV xs (some i) none = xs.drop i.toNat := by
  unfold cutV
  rw [sIx_pos h, HT.sIx_none]
  rcases Nat.le_total i.toNat xs.length with h1 | h1
  · rw [Nat.min_eq_left h1]
    exact List.take_of_length_le (by rw [List.length_drop]; omega)
  · rw [Nat.min_eq_right h1, List.drop_of_length_le (Nat.le_refl _), List.drop_of_length_le h1]
    simp
theorem cutM_to (ws : List Str) {i : Int} (h : 0 ≤ i) : cutV (ws.map V.str) none (some i) = (ws.take i.toNat).map V.str := by rw [cutV_to _ h, List.map_take]
theorem cutM_from (ws : List Str) {i : Int} (h : 0 ≤ i) : cutV (ws.map V.str) (some i) none = (ws.drop i.toNat).map V.str := by rw [cutV_from _ h, List.map_drop]
end Ls
end
section
set_option Elab.async false
set_option autoImplicit false
set_option linter.all false
set_option maxRecDepth 100000
set_option maxHeartbeats 4000000
namespace Ls
open PySem PySem.Spec PyProof.Rows L2
/-! ### lists of plain data: new ones, joined, cut, put in between -/
mutual
/-- all of it is new -/
theorem tv_new {S : List Addr} {H H' : Hp} (h : ∀ b ∈ S, H b ≠ none) : ∀ {v : V} {d : PyData}, TV (nw H H') v d → TV (vis S H') v d
  | _, _, .non => .non
  | _, _, .bl b => .bl b
  | _, _, .int i => .int i
  | _, _, .str x => .str x
  | _, _, .lst q t => .lst (vis_new h q fun _ z => by cases z) (tvs_new h t)
  | _, _, .tup q t => .tup (vis_new h q fun _ z => by cases z) (tvs_new h t)
  | _, _, .dct q t1 t2 => .dct (vis_new h q fun _ z => by cases z) (tvs_new h t1) (tvs_new h t2)
theorem tvs_new {S : List Addr} {H H' : Hp} (h : ∀ b ∈ S, H b ≠ none) : ∀ {vs : List V} {ds : List PyData}, TVs (nw H H') vs ds → TVs (vis S H') vs ds
  | _, _, .nil => .nil
  | _, _, .cons t ts => .cons (tv_new h t) (tvs_new h ts)
end
theorem TVs.app {H : Hp} : ∀ {xs ys : List V} {ds es : List PyData}, TVs H xs ds → TVs H ys es → TVs H (xs ++ ys) (ds ++ es)
  | _, _, _, _, .nil, k => k
  | _, _, _, _, .cons h hs, k => .cons h (TVs.app hs k)
theorem TVs.cut {H : Hp} : ∀ {xs : List V} {ds : List PyData} (i : Nat), TVs H xs ds → TVs H (xs.take i) (ds.take i)
  | _, _, _, .nil => by simp only [List.take_nil]; exact .nil
  | _, _, 0, .cons h hs => .nil
  | _, _, i + 1, .cons h hs => .cons h (TVs.cut i hs)
theorem TVs.from {H : Hp} : ∀ {xs : List V} {ds : List PyData} (i : Nat), TVs H xs ds → TVs H (xs.drop i) (ds.drop i)
  | _, _, _, .nil => by simp only [List.drop_nil]; exact .nil
  | _, _, 0, .cons h hs => .cons h hs
  | _, _, i + 1, .cons h hs => TVs.from i hs
theorem TVs.put {H : Hp} {xs : List V} {ds : List PyData} {v : V} {d : PyData} (i : Nat) (h : TVs H xs ds) (hv : TV H v d) : TVs H (xs.take i ++ [v] ++ xs.drop i) (ds.take i ++ [d] ++ ds.drop i) :=
  ((h.cut i).app (.cons hv .nil)).app (h.from i)
theorem TVs.mem {H : Hp} : ∀ {xs : List V} {ds : List PyData} {v : V}, TVs H xs ds → v ∈ xs → ∃ d, d ∈ ds ∧ TV H v d
  | _, _, _, .nil, h => by cases h
  | _, _, v, .cons (d := d) h hs, hm => by
    rcases List.mem_cons.mp hm with rfl | hm
    · exact ⟨d, by simp, h⟩
    · obtain ⟨d', h1, h2⟩ := TVs.mem hs hm
      exact ⟨d', by simp [h1], h2⟩
theorem put_len {α : Type} (xs : List α) (y : α) (i : Nat) : (xs.take i ++ [y] ++ xs.drop i).length = xs.length + 1 := by
  rw [List.length_append, List.length_append, List.length_take, List.length_drop]
  simp
  omega
theorem put_mem {α : Type} {xs : List α} {y z : α} {i : Nat} (h : z ∈ xs.take i ++ [y] ++ xs.drop i) : z ∈ xs ∨ z = y := by
  rcases List.mem_append.mp h with h | h
  · rcases List.mem_append.mp h with h | h
    · exact .inl (List.mem_of_mem_take h)
    · exact .inr (by simpa using h)
  · exact .inl (List.mem_of_mem_drop h)
/-- a place out of sight may be written -/
theorem vis_upd {S : List Addr} {H : Hp} {a : Addr} {o : HO} (h : a ∈ S) : vis S (upd H a o) = vis S H := by
  funext b
  unfold vis
  by_cases hb : b ∈ S
  · rw [if_pos hb, if_pos hb]
  · rw [if_neg hb, if_neg hb, upd_ne fun z => hb (by rw [z]; exact h)]
/-- a place that is not yet there may be put out of sight -/
theorem vis_add {S : List Addr} {H : Hp} {a : Addr} (h : H a = none) : Ext (vis S H) (vis (S ++ [a]) H) := fun b o e => by
  obtain ⟨h1, h2, h3⟩ := vis_some e
  refine vis_at (fun z => ?_) h2 h3
  rcases List.mem_append.mp z with z | z
  · exact h1 z
  · have : b = a := by simpa using z
    rw [this, h] at h2
    cases h2
end Ls
end
section
set_option Elab.async false
set_option linter.all false
set_option maxRecDepth 100000
set_option maxHeartbeats 4000000
namespace K71
open PySem PySem.Spec PyProof.Rows L2 Ls
open C8 (pss_cut tCut)
open TL
def top (i : Nat) : Stmt := PySem.Challenge.pw_loopstow_k71_rules_made.main.body.getD i (.Pass ⟨0, 0, 0, 0⟩)
def bns : List Str := ["len", "int", "abs", "list", "isinstance", "all", "range", "tuple", "super", "repr", "enumerate", "ValueError", "str"]
def lettersS : Str := "abcdefghijklmnopqrstuvwxyz"
/-- what the top has left, for the defs -/
structure Tx (K : PySem.W.Frag) (mg : Str → Option Value) (CE CN CB CW CR : Addr) (tL tN : Tok) : Prop where
  bn : ∀ x ∈ bns, mg x = none
  m_LETTERS : mg "LETTERS" = some (.str lettersS tL)
  m_LONGEST_NAME : mg "LONGEST_NAME" = some (.int 6 tN)
  m_StowError : mg "StowError" = some (.ref CE)
  m_BadName : mg "BadName" = some (.ref CN)
  m_BadRule : mg "BadRule" = some (.ref CB)
  m_Twice : mg "Twice" = some (.ref CW)
  m_Rule : mg "Rule" = some (.ref CR)
/-! ### the pen -/
abbrev kC : Key := Sum.inr "cells"
abbrev kR : Key := Sum.inr "rest"
abbrev kS : Key := Sum.inr "seed"
abbrev kN : Key := Sum.inr "count"
structure PenS (kvs : List (Key × V)) (c : Addr) (r sd ct : Int) : Prop where
  len : kvs.length ≤ 4
  vc : valV kvs kC = some (.ref c)
  vr : valV kvs kR = some (.int r)
  vs : valV kvs kS = some (.int sd)
  vn : valV kvs kN = some (.int ct)
theorem PenS.putR {kvs : List (Key × V)} {c : Addr} {r sd ct : Int} (h : PenS kvs c r sd ct) (r' : Int) : PenS (putK kvs kR (.int r')) c r' sd ct :=
  ⟨by rw [len_put h.vr]; exact h.len, val_other (by decide +kernel) h.vc, val_same, val_other (by decide +kernel) h.vs, val_other (by decide +kernel) h.vn⟩
theorem PenS.putS {kvs : List (Key × V)} {c : Addr} {r sd ct : Int} (h : PenS kvs c r sd ct) (r' : Int) : PenS (putK kvs kS (.int r')) c r r' ct :=
  ⟨by rw [len_put h.vs]; exact h.len, val_other (by decide +kernel) h.vc, val_other (by decide +kernel) h.vr, val_same, val_other (by decide +kernel) h.vn⟩
theorem PenS.putN {kvs : List (Key × V)} {c : Addr} {r sd ct : Int} (h : PenS kvs c r sd ct) (r' : Int) : PenS (putK kvs kN (.int r')) c r sd r' :=
  ⟨by rw [len_put h.vn]; exact h.len, val_other (by decide +kernel) h.vc, val_other (by decide +kernel) h.vr, val_other (by decide +kernel) h.vs, val_same⟩
theorem PenS.small {kvs : List (Key × V)} {c : Addr} {r sd ct : Int} (h : PenS kvs c r sd ct) : kvs.length < sizeLine := small1000 (Nat.le_trans h.len (by decide))
/-- a pen stands at p, its cells at c -/
def PenAt (H : Hp) (p c : Addr) : Prop := ∃ (kvs : List (Key × V)) (ns : List Int) (r sd ct : Int), H p = some (.dK kvs) ∧ PenS kvs c r sd ct ∧ H c = some (.lst (ns.map V.int)) ∧ 0 ≤ r
theorem dg {H : Hp} {p : Addr} {kvs : List (Key × V)} {k : Key} {v : V} (hp : H p = some (.dK kvs)) (hv : valV kvs k = some v) : DGet H p (kV k) (some v) := hv ▸ DGet.k hp
def spDraw : Sp := fun vs H Q _ => ∃ (p c : Addr) (many : Int), vs = [.ref p, .int many] ∧ PenAt H p c ∧ 0 < many ∧ many < 1073741824 ∧
  ∀ (j : Int) (H' : Hp), 0 ≤ j → j < many → PenAt H' p c → Keep p c H H' → Q (.int j) H'
section
variable {P : Program} {w : World} {K : PySem.W.Frag} {mg : Str → Option Value} {base : Heap} {CE CN CB CW CR : Addr} {tL tN : Tok}
abbrev s__law_draw : Stmt := top 14
abbrev N__law_draw : List Str := ["_law_pen_here", "_law_many", "_law_cell", "_law_digit"]
theorem sc__law_draw : FnScope N__law_draw ["_law_pen_here", "_law_many"] (defScope s__law_draw) := ⟨rfl, rfl, rfl, by decide +kernel, rfl, by decide +kernel, by decide +kernel⟩
theorem ok_draw {f : Addr} {fd : FuncData} (F : Fun K "_law_draw" "_law_draw" s__law_draw f fd) (T : Tx K mg CE CN CB CW CR tL tN) : FnOk P w K mg base CX0 1 f fd ["_law_pen_here", "_law_many"] spDraw := by
  refine F.ok sc__law_draw (fun vs H Q E h => ?_) (fun cdv A outer s H vs Q E hr h => ?_)
  · obtain ⟨p, c, many, rfl, _⟩ := h
    rfl
  · obtain ⟨p, c, many, rfl, hpen, m0, m1, k⟩ := h
    have hu := hu_of hr
    refine ⟨_, (pss_cut (ps_if ((pw_and (pt_cmpR op_eq (pe_dget hu (pv 0) pe_str (fun _ _ => rfl)) pe_int (nomark _)) (pw_and1 (pt_cmpR (op_neNil hr) (pe_dget hu (pv 0) pe_str (fun _ _ => rfl)) (pe_lst pa_nil) (nomark _))))).pt (pss_cons (ps_set (i := 2) sc__law_draw.nd rfl (by first | exact Or.inl rfl | exact Or.inr rfl) (pe_callB call_abs (by rfl) (T.bn _ (by decide +kernel)) (by decide +kernel) (pa_cons (pe_callTy call_int1 (by rfl) (T.bn _ (by decide +kernel)) (by decide +kernel) (pa_cons (pe_bm PySem.F.plainAttrs_list PySem.F.slot_list_pop PySem.F.type_list_pop mt_popAt (pe_dget hu (pv 0) pe_str (fun _ _ => rfl)) (pa_cons pe_int pa_nil)) pa_nil)) pa_nil)))
      (pss_cons (ps_dput hu (pv 0) pe_str (pv 2) rfl)
      (pss_one (ps_dput hu (pv 0) pe_str (pe_op op_mod (pe_callTy call_int1 (by rfl) (T.bn _ (by decide +kernel)) (by decide +kernel) (pa_cons (pe_op op_add (pe_op op_mul (pe_callTy call_int1 (by rfl) (T.bn _ (by decide +kernel)) (by decide +kernel) (pa_cons (pe_dget hu (pv 0) pe_str (fun _ _ => rfl)) pa_nil)) pe_int) (pv 2)) pa_nil)) pe_int) rfl)))) pss_nil)
      (pss_cons (ps_if (pt_cmpR op_gt (pe_dget hu (pv 0) pe_str (fun _ _ => rfl)) pe_int (nomark _)) (pss_cons (ps_set (i := 3) sc__law_draw.nd rfl (by first | exact Or.inl rfl | exact Or.inr rfl) (pe_op op_mod (pe_callTy call_int1 (by rfl) (T.bn _ (by decide +kernel)) (by decide +kernel) (pa_cons (pe_dget hu (pv 0) pe_str (fun _ _ => rfl)) pa_nil)) (pv 1)))
      (pss_cons (ps_dput hu (pv 0) pe_str (pe_op op_fdiv (pe_callTy call_int1 (by rfl) (T.bn _ (by decide +kernel)) (by decide +kernel) (pa_cons (pe_dget hu (pv 0) pe_str (fun _ _ => rfl)) pa_nil)) (pv 1)) rfl)
      (pss_one (ps_ret (pv 3))))) pss_nil)
      (pss_cons (ps_dput hu (pv 0) pe_str (pe_op op_add (pe_callTy call_int1 (by rfl) (T.bn _ (by decide +kernel)) (by decide +kernel) (pa_cons (pe_dget hu (pv 0) pe_str (fun _ _ => rfl)) pa_nil)) pe_int) rfl)
      (pss_cons (ps_dput hu (pv 0) pe_str (pe_op op_mod (pe_callTy call_int1 (by rfl) (T.bn _ (by decide +kernel)) (by decide +kernel) (pa_cons (pe_op op_add (pe_op op_mul (pe_callTy call_int1 (by rfl) (T.bn _ (by decide +kernel)) (by decide +kernel) (pa_cons (pe_dget hu (pv 0) pe_str (fun _ _ => rfl)) pa_nil)) pe_int) (pe_op op_mul pe_int (pe_callTy call_int1 (by rfl) (T.bn _ (by decide +kernel)) (by decide +kernel) (pa_cons (pe_dget hu (pv 0) pe_str (fun _ _ => rfl)) pa_nil)))) pa_nil)) pe_int) rfl)
      (pss_one (ps_ret (pe_op op_mod (pe_callTy call_int1 (by rfl) (T.bn _ (by decide +kernel)) (by decide +kernel) (pa_cons (pe_op op_fdiv (pe_callTy call_int1 (by rfl) (T.bn _ (by decide +kernel)) (by decide +kernel) (pa_cons (pe_dget hu (pv 0) pe_str (fun _ _ => rfl)) pa_nil)) pe_int) pa_nil)) (pv 1)))))))), ?_⟩
    obtain ⟨kvs, ns, r, sd, ct, hp, S, hc, hr0⟩ := hpen
    have npc : p ≠ c := ne_of hp hc (by intro z; cases z)
    -- behind the first if: the pen again, with the same cells' place
    refine ⟨fun σ' H' => ∃ x, σ' = [some (.ref p), some (.int many), x, none] ∧ PenAt H' p c ∧ Keep p c H H', ?_, ?_⟩
    · refine ⟨_, rfl, p, _, rfl, dg (k := kR) hp S.vr, rfl, _, rfl, ?_⟩
      refine ite2 (fun _ => ?_) (fun _ => ?_)
      · refine ⟨_, rfl, p, _, rfl, dg (k := kC) hp S.vc, (by show 0 ≤ sizeLine; decide), fun l hl => ?_⟩
        have npl : p ≠ l := ne_of_none hp hl
        have ncl : c ≠ l := ne_of_none hc hl
        refine ⟨c, l, _, rfl, rfl, by rw [upd_ne ncl]; exact hc, upd_same, _, rfl, ?_⟩
        have hp1 : (upd H l (.lst [])) p = some (.dK kvs) := by rw [upd_ne npl]; exact hp
        have hc1 : (upd H l (.lst [])) c = some (.lst (ns.map V.int)) := by rw [upd_ne ncl]; exact hc
        cases ns with
        | nil =>
          refine iteF ?_
          exact ⟨_, rfl, ⟨kvs, [], r, sd, ct, hp1, S, hc1, hr0⟩, Keep.new hl⟩
        | cons n ns =>
          refine iteT ?_
          refine ⟨_, rfl, p, _, rfl, dg (k := kC) hp1 S.vc, .inl ⟨rfl, _, SqL.of hc1⟩, c, _, 0, 0, .int n, rfl, rfl, hc1, by decide, by decide, by simp [seqIndex?], rfl, ?_⟩
          refine .inl ⟨n, rfl, n, rfl, ?_⟩
          have hp2 : (upd (upd H l (.lst [])) c (.lst (ns.map V.int))) p = some (.dK kvs) := by rw [upd_ne npc]; exact hp1
          have hn : 0 ≤ (if n < 0 then -n else n) := by split <;> omega
          refine ⟨_, rfl, _, rfl, p, _, rfl, DPut.k (k := kR) hp2 S.small, ?_⟩
          have S3 := S.putR (if n < 0 then -n else n)
          refine ⟨_, rfl, p, _, rfl, dg (k := kS) upd_same S3.vs, .inl ⟨_, rfl, _, _, rfl, rfl, .inr ⟨by decide, by decide⟩, _, rfl, _, _, rfl, rfl, .inl ⟨_, rfl, _, _, rfl, rfl, (by show (0 : Int) < 2147483587; decide), ?_⟩⟩⟩
          refine ⟨_, rfl, p, _, rfl, DPut.k (k := kS) upd_same S3.small, ?_⟩
          refine ⟨_, rfl, ⟨_, ns, _, _, ct, upd_same, S3.putS _, ?_, hn⟩, ?_⟩
          · rw [upd_ne npc.symm, upd_ne npc.symm, upd_same]; rfl
          · intro b o e h1 h2
            rw [upd_ne h1, upd_ne h1, upd_ne h2, upd_ne (ne_of_none e hl)]
            exact e
      · exact ⟨_, rfl, ⟨kvs, ns, r, sd, ct, hp, S, hc, hr0⟩, Keep.refl⟩
    · rintro σ' H1 ⟨x, rfl, ⟨kvs, ns, r, sd, ct, hp, S, hc, hr0⟩, kp⟩
      refine ⟨_, rfl, p, _, rfl, dg (k := kR) hp S.vr, _, _, rfl, rfl, _, rfl, ?_⟩
      refine ite2 (fun hpos => ?_) (fun _ => ?_)
      · have hpos' : 0 < r := by simpa using hpos
        refine ⟨_, rfl, p, _, rfl, dg (k := kR) hp S.vr, .inl ⟨_, rfl, _, rfl, _, _, rfl, rfl, m0, ?_⟩⟩
        refine ⟨_, rfl, p, _, rfl, dg (k := kR) hp S.vr, .inl ⟨_, rfl, _, rfl, _, _, rfl, rfl, ⟨m0, m1⟩, ?_⟩⟩
        refine ⟨_, rfl, p, _, rfl, DPut.k (k := kR) hp S.small, ?_⟩
        refine ⟨_, rfl, k _ _ (Int.emod_nonneg _ (by omega)) (Int.emod_lt_of_pos _ m0) ⟨_, ns, _, sd, ct, upd_same, S.putR _, by rw [upd_ne npc.symm]; exact hc, Int.ediv_nonneg (by omega) (by omega)⟩ (kp.trans Keep.upd1)⟩
      · refine ⟨_, rfl, p, _, rfl, dg (k := kN) hp S.vn, .inl ⟨_, rfl, _, _, rfl, rfl, ?_⟩⟩
        refine ⟨_, rfl, p, _, rfl, DPut.k (k := kN) hp S.small, ?_⟩
        have S1 := S.putN (ct + 1)
        refine ⟨_, rfl, p, _, rfl, dg (k := kS) upd_same S1.vs, .inl ⟨_, rfl, _, _, rfl, rfl, .inr ⟨by decide, by decide⟩, ?_⟩⟩
        refine ⟨_, rfl, p, _, rfl, dg (k := kN) upd_same S1.vn, .inl ⟨_, rfl, _, _, rfl, rfl, .inl ⟨by decide, by decide⟩, _, _, rfl, rfl, .inl ⟨_, rfl, _, _, rfl, rfl, (by show (0 : Int) < 2147483587; decide), ?_⟩⟩⟩
        refine ⟨_, rfl, p, _, rfl, DPut.k (k := kS) upd_same S1.small, ?_⟩
        refine ⟨_, rfl, p, _, rfl, dg (k := kS) upd_same (S1.putS _).vs, .inl ⟨_, rfl, _, _, rfl, rfl, ⟨by decide, by decide⟩, .inl ⟨_, rfl, _, rfl, _, _, rfl, rfl, m0, ?_⟩⟩⟩
        refine k _ _ (Int.emod_nonneg _ (by omega)) (Int.emod_lt_of_pos _ m0) ⟨_, ns, r, _, _, upd_same, S1.putS _, ?_, hr0⟩ (kp.trans (Keep.upd1.trans Keep.upd1))
        rw [upd_ne npc.symm, upd_ne npc.symm]
        exact hc
end
section
variable {P : Program} {w : World} {K : PySem.W.Frag} {mg : Str → Option Value} {base : Heap} {CE CN CB CW CR : Addr} {tL tN : Tok}
/-! ### the pen made; a pick -/
def spPen (K : PySem.W.Frag) : Sp := fun vs H Q _ => ∃ (a : Addr) (ns : List Int), vs = [.ref a] ∧ SqL K H a (ns.map V.int) ∧ ns.length ≤ 1000 ∧ ∀ p c H', PenAt H' p c → Ext H H' → Q (.ref p) H'
abbrev s__law_pen : Stmt := top 13
abbrev N__law_pen : List Str := ["_law_script"]
theorem sc__law_pen : FnScope N__law_pen ["_law_script"] (defScope s__law_pen) := ⟨rfl, rfl, rfl, by decide +kernel, rfl, by decide +kernel, by decide +kernel⟩
theorem ok_pen {f : Addr} {fd : FuncData} (F : Fun K "_law_pen" "_law_pen" s__law_pen f fd) (T : Tx K mg CE CN CB CW CR tL tN) : FnOk P w K mg base CX0 1 f fd ["_law_script"] (spPen K) := by
  refine F.ok sc__law_pen (fun vs H Q E h => ?_) (fun cdv A outer s H vs Q E hr h => ?_)
  · obtain ⟨a, ns, rfl, _⟩ := h
    rfl
  · obtain ⟨a, ns, rfl, ha, hn, k⟩ := h
    refine ⟨_, (pss_one (ps_ret (pe_disp (pps_cons pe_str (pe_callTy call_list_of (by rfl) (T.bn _ (by decide +kernel)) (by decide +kernel) (pa_cons (pe_slice sl_list (pv 0) po_none (po_some pe_int)) pa_nil)) (pps_cons pe_str pe_int (pps_cons pe_str pe_int (pps_cons pe_str pe_int pps_nil)))) (by rfl) (by rfl) (fun z => by cases z) (by decide)))), ?_⟩
    intro p hp
    refine ⟨_, rfl, 60, rfl, a, _, rfl, ha.ext (Ext.upd hp), fun q hq => ?_⟩
    have npq : p ≠ q := ne_of_none upd_same hq
    refine ⟨q, _, rfl, .inl (SqL.of upd_same), fun c hc => ?_⟩
    have nqc : q ≠ c := ne_of_none upd_same hc
    have npc : p ≠ c := ne_of_none (by rw [upd_ne npq]; exact upd_same) hc
    refine ⟨by rw [upd_ne npc, upd_ne npq]; exact upd_same, [(kC, .ref c), (kR, .int 0), (kS, .int 29), (kN, .int 0)], rfl, by show 4 ≤ 15; decide, ?_⟩
    refine k p c _ ⟨_, (ns.drop (HT.sIx (ns.map V.int).length 0 none)).take (HT.sIx (ns.map V.int).length (ns.map V.int).length (some 60) - HT.sIx (ns.map V.int).length 0 none), 0, 29, 0, upd_same, ?_, ?_, by decide⟩ fun b o e => ?_
    · exact ⟨Nat.le_of_eq (by kernel_rfl), by kernel_rfl, by kernel_rfl, by kernel_rfl, by kernel_rfl⟩
    · rw [upd_ne npc.symm, upd_same, List.map_take, List.map_drop]
      rfl
    · have h1 : b ≠ p := ne_of_none e hp
      have h2 : b ≠ q := ne_of_none (show (upd H p (.dK [])) b = some o by rw [upd_ne h1]; exact e) hq
      have h3 := ne_of_none (show _ = some o by rw [upd_ne h2, upd_ne h1]; exact e) hc
      rw [upd_ne h1, upd_ne h3, upd_ne h2, upd_ne h1]
      exact e
theorem PenAt.upd {H : Hp} {p c a : Addr} {o : HO} (h : PenAt H p c) (np : p ≠ a) (nc : c ≠ a) : PenAt (upd H a o) p c := by
  obtain ⟨kvs, ns, r, sd, ct, h1, h2, h3, h4⟩ := h
  exact ⟨kvs, ns, r, sd, ct, by rw [upd_ne np]; exact h1, h2, by rw [upd_ne nc]; exact h3, h4⟩
theorem PenAt.ext {H H' : Hp} {p c : Addr} (h : PenAt H p c) (e : Ext H H') : PenAt H' p c := by
  obtain ⟨kvs, ns, r, sd, ct, h1, h2, h3, h4⟩ := h
  exact ⟨kvs, ns, r, sd, ct, e _ _ h1, h2, e _ _ h3, h4⟩
theorem PenAt.extN {H H' : Hp} {p c : Addr} (h : PenAt H p c) (e : LamX.ExtN H H') : PenAt H' p c := by
  obtain ⟨kvs, ns, r, sd, ct, h1, h2, h3, h4⟩ := h
  exact ⟨kvs, ns, r, sd, ct, e _ _ h1 (fun ps z => nomatch z), h2, e _ _ h3 (fun ps z => nomatch z), h4⟩
theorem PenAt.ne {H : Hp} {p c a : Addr} (h : PenAt H p c) (ha : H a = none) : p ≠ a ∧ c ≠ a := by
  obtain ⟨kvs, ns, r, sd, ct, h1, h2, h3, h4⟩ := h
  exact ⟨ne_of_none h1 ha, ne_of_none h3 ha⟩
theorem PenAt.tabs {T : List (Addr × Str)} {p c : Addr} {H H' : Hp} (h : PenAt H p c) (t : LamX.Tabs T H) (k : Keep p c H H') : LamX.Tabs T H' := fun q hq => by
  obtain ⟨kvs, ns, r, sd, ct, hp, _, hc, _⟩ := h
  obtain ⟨ps, h1, h2, h3⟩ := t q hq
  have n : ∀ {b : Addr} {o : HO}, H b = some o → (∀ zs, o ≠ .lst zs) → (∀ zs, o ≠ .dK zs) → H' b = some o := fun {b o} e n m => k b o e (fun z => by
      rw [z, hp] at e
      exact m kvs (Option.some.inj e).symm) fun z => by
      rw [z, hc] at e
      exact n _ (Option.some.inj e).symm
  refine ⟨ps, n h1 (fun zs z => by cases z) (fun zs z => by cases z), h2, fun pos cv hcv => ?_⟩
  obtain ⟨c', e1, e2⟩ := h3 pos cv hcv
  exact ⟨c', e1, n e2 (fun zs z => by unfold LamX.CodeO at z; cases z) (fun zs z => by unfold LamX.CodeO at z; cases z)⟩
def spPick (K : PySem.W.Frag) : Sp := fun vs H Q _ => ∃ (p c l : Addr) (xs : List V), vs = [.ref p, .ref l] ∧ PenAt H p c ∧ l ≠ p ∧ l ≠ c ∧ H l = some (.lst xs) ∧ 0 < xs.length ∧ xs.length ≤ 1000 ∧
  ∀ x H', x ∈ xs → PenAt H' p c → Keep p c H H' → Q x H'
abbrev s__law_pick : Stmt := top 15
abbrev N__law_pick : List Str := ["_law_pen_here", "_law_some"]
theorem sc__law_pick : FnScope N__law_pick ["_law_pen_here", "_law_some"] (defScope s__law_pick) := ⟨rfl, rfl, rfl, by decide +kernel, rfl, by decide +kernel, by decide +kernel⟩
theorem ok_pick {f : Addr} {fd : FuncData} (F : Fun K "_law_pick" "_law_pick" s__law_pick f fd) (T : Tx K mg CE CN CB CW CR tL tN) (c__law_draw : Cal P w K mg base CX0 1 "_law_draw" spDraw) : FnOk P w K mg base CX0 2 f fd ["_law_pen_here", "_law_some"] (spPick K) := by
  refine F.ok sc__law_pick (fun vs H Q E h => ?_) (fun cdv A outer s H vs Q E hr h => ?_)
  · obtain ⟨p, c, l, xs, rfl, _⟩ := h
    rfl
  · obtain ⟨p, c, l, xs, rfl, hp, n1, n2, hl, h0, h1, k⟩ := h
    refine ⟨_, (pss_one (ps_ret (pe_ix ix_list (pv 1) (pe_cal c__law_draw (hr.mono (by decide)) (by rfl) pass0 (pa_cons (pv 0) (pa_cons (pe_callB call_len_seq (by rfl) (T.bn _ (by decide +kernel)) (by decide +kernel) (pa_cons (pv 1) pa_nil)) pa_nil))) (fun _ _ => rfl)))), ?_⟩
    refine ⟨_, rfl, _, rfl, _, rfl, l, _, rfl, .inl (SqL.of hl), p, c, _, rfl, hp, by omega, by omega, fun j H1 j0 j1 hp1 kp => ?_⟩
    have hl1 := kp l _ hl n1 n2
    have hj : j.toNat < xs.length := by omega
    exact ⟨l, xs, j, xs[j.toNat], rfl, rfl, SqL.of hl1, atI_at (j := j.toNat) (by omega) (List.getElem?_eq_getElem hj), k _ H1 (List.getElem_mem hj) hp1 kp⟩
end
end K71
end
section
set_option Elab.async false
set_option autoImplicit false
set_option linter.all false
set_option maxRecDepth 100000
set_option maxHeartbeats 4000000
namespace K71
open PySem PySem.Spec PyProof.Rows L2 Ls
open C8 (pss_cut tCut)
open TL
/-! ### the data -/
def isName (z : Str) : Bool := decide (1 ≤ z.length) && (decide (z.length ≤ 6) && (tl z).all fun c => decide (c ∈ tl lettersS))
/-- the name that a value is -/
def nameOf : PyData → Option Str
  | .str z => if isName z = true then some z else none
  | _ => none
theorem nameOf_some {d : PyData} {n : Str} (h : nameOf d = some n) : d = .str n ∧ isName n = true := by
  cases d with
  | str z =>
    have h : (if isName z = true then some z else none) = some n := h
    by_cases e : isName z = true
    · rw [if_pos e] at h
      cases h
      exact ⟨rfl, e⟩
    · rw [if_neg e] at h
      cases h
  | _ => cases h
theorem nameOf_str {z : Str} (h : isName z = true) : nameOf (.str z) = some z := if_pos h
theorem nameOf_no {z : Str} (h : isName z = false) : nameOf (.str z) = none := if_neg (by rw [h]; exact Bool.false_ne_true)
theorem name_len {z : Str} (h : isName z = true) : 1 ≤ z.length ∧ z.length ≤ 6 := by
  unfold isName at h
  simp only [Bool.and_eq_true, decide_eq_true_eq] at h
  exact ⟨h.1, h.2.1⟩
theorem name_sub {z : Str} (h : isName z = true) : ∀ c ∈ tl z, c ∈ tl lettersS := by
  unfold isName at h
  simp only [Bool.and_eq_true, decide_eq_true_eq, List.all_eq_true] at h
  exact h.2.2
theorem name_no {z : Str} (h : isName z = true) {c : Nat} (hc : c ∉ tl lettersS) : c ∉ tl z := fun hm => hc (name_sub h c hm)
section
variable {P : Program} {w : World} {K : PySem.W.Frag} {mg : Str → Option Value} {base : Heap} {CE CN CB CW CR : Addr} {tL tN : Tok}
/-! ### is_name -/
def spName : Sp := fun vs H Q _ => ∃ (v : V) (d : PyData), vs = [v] ∧ TV H v d ∧ SmD d ∧ ∀ H', Ext H H' → Q (.bl (nameOf d).isSome) H'
abbrev s_is_name : Stmt := top 8
abbrev N_is_name : List Str := ["value", "letter"]
theorem sc_is_name : FnScope N_is_name ["value"] (defScope s_is_name) := ⟨rfl, rfl, rfl, by decide +kernel, rfl, by decide +kernel, by decide +kernel⟩
theorem ok_name {f : Addr} {fd : FuncData} (F : Fun K "is_name" "is_name" s_is_name f fd) (T : Tx K mg CE CN CB CW CR tL tN) : FnOk P w K mg base CX0 1 f fd ["value"] spName := by
  refine F.ok sc_is_name (fun vs H Q E h => ?_) (fun cdv A outer s H vs Q E hr h => ?_)
  · obtain ⟨v, d, rfl, _⟩ := h
    rfl
  · obtain ⟨v, d, rfl, hv, sm, k⟩ := h
    refine ⟨_, (pss_cons (ps_if ((pw_or (pt_not (pt_val (pe_callB call_isi (by rfl) (T.bn _ (by decide +kernel)) (by decide +kernel) (pa_cons (pv 0) (pa_cons (pe_gty (T := "str") (by rfl) (T.bn _ (by decide +kernel)) (by decide +kernel)) pa_nil))))) (pw_or1 (pt_not (pt_chain op_le op_le pe_int (pe_callB call_len_str (by rfl) (T.bn _ (by decide +kernel)) (by decide +kernel) (pa_cons (pv 0) pa_nil)) (pe_gint (by rfl) T.m_LONGEST_NAME)))))).pt (pss_one (ps_ret pe_bl)) pss_nil)
      (pss_one (ps_ret (pe_callB (cr_all rfl) (by rfl) (T.bn _ (by decide +kernel)) (by decide +kernel) (pa_cons (pe_lc (own := [("letter", 1)]) rfl sc_is_name.nd (pi_str (pv 0)) (blkOk_by (own := [("letter", 1)]) (N := N_is_name) (sc := defScope s_is_name) (by decide +kernel)) (fun _ _ _ _ _ => (pg_name (i := 1) sc_is_name.nd rfl (by first | exact Or.inl rfl | exact Or.inr rfl))) (fun _ _ _ _ _ => pts_nil) (fun _ _ _ _ _ => (pe_cmpR op_in_sign (pv 1) (pe_gstr (by rfl) T.m_LETTERS) rfl))) pa_nil))))), ?_⟩
    refine ⟨_, rfl, _, _, _, _, isStrD d, rfl, .ty "str", tyX_of hv, kit_str d, _, rfl, ?_⟩
    cases hd : isStrD d with
    | false =>
      refine iteT ?_
      have e1 : (nameOf d).isSome = false := by
        cases d <;> first | rfl | cases hd
      have := k H Ext.rfl'
      rw [e1] at this
      exact this
    | true =>
    obtain ⟨z, rfl⟩ := strD hd
    cases tv_str hv
    have hz : z.length ≤ 1000 := sm z rfl
    refine iteF ?_
    have hzl : z.length ≤ sizeLine := Nat.le_of_lt (small1000 hz)
    have eN : ∀ b, isName z = b → (nameOf (.str z)).isSome = b := fun b h => by
      show (if isName z = true then some z else none).isSome = b
      cases b with
      | true => rw [if_pos h]; rfl
      | false => rw [if_neg (by rw [h]; exact Bool.false_ne_true)]; rfl
    refine ⟨_, rfl, z, rfl, hzl, _, _, rfl, rfl, ?_⟩
    by_cases h1 : 1 ≤ z.length
    · refine ⟨true, by simp; omega, ?_⟩
      refine iteT ?_
      refine ⟨_, _, rfl, rfl, ?_⟩
      by_cases h6 : z.length ≤ 6
      · refine ⟨true, by simp; omega, ?_⟩
        refine iteF ?_
        -- the signs
        refine ⟨_, rfl, z, rfl, fun D hD => ?_⟩
        refine lc_map walk_str [D] (by simp) (fun _ => True) (fun i y _ => ∃ c, z.cps[i]? = some c ∧ y = .bl (decide (c ∈ tl lettersS))) (by have : z.length = z.cps.size := rfl; omega) (fun _ _ _ _ _ h => h) (fun _ _ _ => trivial) trivial (fun _ _ _ => trivial) ?_ ?_
        · rintro i x H1 H2 acc C hi e _ hD1 ⟨rfl, c, hc, rfl⟩ hC
          refine ⟨rfl, _, rfl, c, _, rfl, rfl, hC _ _ hD1 Ext.rfl' trivial ⟨c, hc, rfl⟩⟩
        · intro H1 ys e _ hD1 hl hy
          have hys : ys = ((tl z).map fun c => decide (c ∈ tl lettersS)).map V.bl := by
            refine List.ext_getElem? fun j => ?_
            cases q : ys[j]? with
            | none =>
              have : ys.length ≤ j := List.getElem?_eq_none_iff.mp q
              symm
              rw [List.getElem?_eq_none_iff]
              simp
              have : z.cps.size ≤ j := by omega
              exact this
            | some y =>
              obtain ⟨c, hc, rfl⟩ := hy j y q
              have hc' : (tl z)[j]? = some c := by rw [← hc]; simp [tl]
              simp [List.getElem?_map, hc']
          subst hys
          refine ⟨D, _, rfl, SqL.of hD1, ?_⟩
          have e1 : isName z = (((tl z).map fun c => decide (c ∈ tl lettersS)).all id) := by
            unfold isName
            rw [decide_eq_true h1, decide_eq_true h6, Bool.true_and, Bool.true_and, List.all_map]
            rfl
          rw [← eN _ e1]
          refine k _ fun b o q => ?_
          have := e b o (by rw [hid_at (by simpa using ne_of_none q hD)]; exact q)
          exact (hid_some this).2
      · refine ⟨false, by simp; omega, ?_⟩
        refine iteT ?_
        have e1 : isName z = false := by unfold isName; rw [decide_eq_false h6, Bool.false_and, Bool.and_false]
        have := k H Ext.rfl'
        rw [eN _ e1] at this
        exact this
    · refine ⟨false, by simp; omega, ?_⟩
      refine iteF ?_
      refine ⟨false, rfl, ?_⟩
      refine iteT ?_
      have e1 : isName z = false := by unfold isName; rw [decide_eq_false h1, Bool.false_and]
      have := k H Ext.rfl'
      rw [eN _ e1] at this
      exact this
end
end K71
end
section
set_option Elab.async false
set_option autoImplicit false
set_option linter.all false
set_option maxRecDepth 100000
set_option maxHeartbeats 4000000
namespace K71
open PySem PySem.Spec PyProof.Rows L2 Ls
open C8 (pss_cut tCut)
open TL
/-! ### what is due, in plain Lean -/
def badOf : List PyData → Option PyData
  | [] => none
  | d :: r => if nameOf d = none then some d else badOf r
def namesOf (ds : List PyData) : List Str := ds.filterMap nameOf
/-- the first that stood before -/
def twi : List Str → List Str → Option Str
  | _, [] => none
  | seen, z :: r => if z ∈ seen then some z else twi (seen ++ [z]) r
theorem bad_none : ∀ {ds : List PyData}, badOf ds = none → ds = (namesOf ds).map .str ∧ ∀ z ∈ namesOf ds, isName z = true
  | [], _ => ⟨rfl, by simp [namesOf]⟩
  | d :: r, h => by
    have h : (if nameOf d = none then some d else badOf r) = none := h
    by_cases q : nameOf d = none
    · rw [if_pos q] at h
      cases h
    · rw [if_neg q] at h
      obtain ⟨h1, h2⟩ := bad_none h
      cases hn : nameOf d with
      | none => exact absurd hn q
      | some n =>
        obtain ⟨e, g⟩ := nameOf_some hn
        have en : namesOf (d :: r) = n :: namesOf r := by
          show List.filterMap nameOf (d :: r) = _
          rw [List.filterMap_cons, hn]
          rfl
        rw [en]
        refine ⟨?_, fun z hz => ?_⟩
        · rw [List.map_cons, ← h1, e]
        · rcases List.mem_cons.mp hz with rfl | hz
          · exact g
          · exact h2 z hz
theorem bad_at : ∀ {ds : List PyData} {i : Nat} {d : PyData}, (∀ (j : Nat) d', j < i → ds[j]? = some d' → nameOf d' ≠ none) → ds[i]? = some d → nameOf d = none → badOf ds = some d
  | [], i, d, _, h, _ => by simp at h
  | x :: r, 0, d, _, h, hn => by
    have : x = d := by simpa using h
    subst this
    show (if nameOf x = none then some x else badOf r) = _
    rw [if_pos hn]
  | x :: r, i + 1, d, hb, h, hn => by
    show (if nameOf x = none then some x else badOf r) = _
    rw [if_neg (hb 0 x (by omega) rfl)]
    exact bad_at (i := i) (fun j d' hj hd => hb (j + 1) d' (by omega) (by simpa using hd)) (by simpa using h) hn
theorem bad_all : ∀ {ds : List PyData}, (∀ (j : Nat) d', ds[j]? = some d' → nameOf d' ≠ none) → badOf ds = none
  | [], _ => rfl
  | x :: r, h => by
    show (if nameOf x = none then some x else badOf r) = _
    rw [if_neg (h 0 x rfl)]
    exact bad_all fun j d' hd => h (j + 1) d' (by simpa using hd)
theorem names_str (zs : List Str) (h : ∀ z ∈ zs, isName z = true) : namesOf (zs.map .str) = zs := by
  induction zs with
  | nil => rfl
  | cons z r ih =>
    show List.filterMap nameOf (.str z :: r.map .str) = _
    rw [List.filterMap_cons, nameOf_str (h z (by simp))]
    exact congrArg (z :: ·) (ih fun x hx => h x (List.mem_cons_of_mem _ hx))
/-! ### errors, from a heap that has grown -/
def Errs (C : Addr) (f : Str) (v : V) (H : Hp) (E : XK) : Prop := ∀ dd H', Ext H H' → nw H H' dd = some (.xd [(f, v)]) → E (.ref C) (some dd) H'
theorem Errs.ext {C : Addr} {f : Str} {v : V} {H H1 : Hp} {E : XK} (h : Errs C f v H E) (e : Ext H H1) : Errs C f v H1 E := fun dd H' e' q => h dd H' (e.trans e') (nw_back e _ _ q)
theorem Errs.at {C : Addr} {f : Str} {v : V} {H H1 : Hp} {E : XK} (h : Errs C f v H E) (e : Ext H H1) {dd : Addr} (nd : H1 dd = none) : E (.ref C) (some dd) (upd H1 dd (.xd [(f, v)])) :=
  h dd _ (e.trans (Ext.upd nd)) (by rw [nw_at (ext_free e nd)]; exact upd_same)
/-- values that are handed in -/
structure ArgsAt (H : Hp) (xs : List V) (ds : List PyData) : Prop where
  tv : TVs H xs ds
  sm : ∀ d ∈ ds, SmD d
  ln : xs.length ≤ 100
theorem ArgsAt.ext {H H' : Hp} {xs : List V} {ds : List PyData} (h : ArgsAt H xs ds) (e : Ext H H') : ArgsAt H' xs ds := ⟨h.tv.ext e, h.sm, h.ln⟩
theorem ArgsAt.at_ {H : Hp} {xs : List V} {ds : List PyData} {i : Nat} {v : V} (h : ArgsAt H xs ds) (q : xs[i]? = some v) : ∃ d, ds[i]? = some d ∧ TV H v d ∧ SmD d := by
  obtain ⟨d, h1, h2⟩ := h.tv.at_ q
  exact ⟨d, h1, h2, h.sm d (List.mem_of_getElem? h1)⟩
theorem ArgsAt.names {H : Hp} {xs : List V} {ds : List PyData} (h : ArgsAt H xs ds) (hb : badOf ds = none) : xs = (namesOf ds).map V.str := by
  have e := (bad_none hb).1
  refine List.ext_getElem? fun j => ?_
  have hl := h.tv.len
  have hl2 : ds.length = (namesOf ds).length := by
    have := congrArg List.length e
    rw [List.length_map] at this
    exact this
  cases q : xs[j]? with
  | none =>
    have := List.getElem?_eq_none_iff.mp q
    symm
    rw [List.getElem?_eq_none_iff, List.length_map]
    omega
  | some v =>
    obtain ⟨d, h1, h2⟩ := h.tv.at_ q
    rw [e, List.getElem?_map] at h1
    obtain ⟨z, g1, rfl⟩ := Option.map_eq_some_iff.mp h1
    rw [List.getElem?_map, g1, tv_str h2]
    rfl
theorem eqV_str (a b : Str) : eqV (.str a) (.str b) = decide (b = a) := by
  show (a == b) = _
  by_cases h : b = a
  · subst h
    simp
  · rw [decide_eq_false h]
    exact beq_eq_false_iff_ne.mpr fun e => h e.symm
theorem inV_strs (z : Str) : ∀ l : List Str, inV (.str z) (l.map V.str) = decide (z ∈ l)
  | [] => rfl
  | a :: l => by
    have ih := inV_strs z l
    show (eqV (.str a) (.str z) || inV (.str z) (l.map V.str)) = _
    rw [eqV_str, ih]
    simp only [List.mem_cons, Bool.decide_or]
theorem flat_strs (l : List Str) : (l.map V.str).all flatV = true := by
  rw [List.all_map]
  exact List.all_eq_true.mpr fun _ _ => rfl
/-- a promise or another one -/
theorem fn_or {P : Program} {w : World} {K : PySem.W.Frag} {mg : Str → Option Value} {base : Heap} {CX : CXT} {k : Nat} {f : Addr} {fd : FuncData} {ps : List Str} {s1 s2 : Sp} (h1 : FnOk P w K mg base CX k f fd ps s1) (h2 : FnOk P w K mg base CX k f fd ps s2) :
    FnOk P w K mg base CX k f fd ps (fun vs H Q E => s1 vs H Q E ∨ s2 vs H Q E) :=
  ⟨fun vs H Q E h => h.elim (h1.len vs H Q E) (h2.len vs H Q E), fun A outer s H args us vs Q E hr e0 hb r h => h.elim (h1.run A outer s H args us vs Q E hr e0 hb r) (h2.run A outer s H args us vs Q E hr e0 hb r)⟩
section
variable {P : Program} {w : World} {K : PySem.W.Frag} {mg : Str → Option Value} {base : Heap} {CE CN CB CW CR : Addr} {tL tN : Tok}
/-! ### need_names -/
def spNNT (K : PySem.W.Frag) (CN CW : Addr) : Sp := fun vs H Q E => ∃ (l : Addr) (xs : List V) (ds : List PyData), vs = [.ref l] ∧ SqT K H l xs ∧ ArgsAt H xs ds ∧
  (∀ d, badOf ds = some d → ∀ v H1, Ext H H1 → TV H1 v d → Errs CN "value" v H1 E) ∧
  (badOf ds = none → ∀ z, twi [] (namesOf ds) = some z → Errs CW "name" (.str z) H E) ∧
  (badOf ds = none → twi [] (namesOf ds) = none → ∀ a H', Ext H H' → nw H H' a = some (.lst ((namesOf ds).map V.str)) → Q (.ref a) H')
abbrev s_need_names : Stmt := top 9
abbrev N_need_names : List Str := ["values", "found", "value"]
theorem sc_need_names : FnScope N_need_names ["values"] (defScope s_need_names) := ⟨rfl, rfl, rfl, by decide +kernel, rfl, by decide +kernel, by decide +kernel⟩
theorem ok_nnT {f : Addr} {fd : FuncData} (F : Fun K "need_names" "need_names" s_need_names f fd) (T : Tx K mg CE CN CB CW CR tL tN) (c_is_name : Cal P w K mg base CX0 1 "is_name" spName) (x_BadName : Xer P w K mg base CN "BadName" ["value"]) (x_Twice : Xer P w K mg base CW "Twice" ["name"]) :
    FnOk P w K mg base (L2.CX P w) 3 f fd ["values"] (spNNT K CN CW) := by
  refine F.okX sc_need_names (fun vs H Q E h => ?_) (fun cdv A outer s H vs Q E hr h => ?_)
  · obtain ⟨l, xs, ds, rfl, _⟩ := h
    rfl
  · obtain ⟨l, xs, ds, rfl, hl, ha, k1, k2, k3⟩ := h
    have h4 : sizeLine = 16777216 := sizeLine_eq
    have hln := ha.ln
    have hlen := ha.tv.len
    refine ⟨_, (pss_cons (ps_set (i := 1) sc_need_names.nd rfl (by first | exact Or.inl rfl | exact Or.inr rfl) (pe_lst pa_nil))
      (pss_cons (ps_for (passes_of rfl) rfl (pi_tup (pv 0)) (pg_name (i := 2) sc_need_names.nd rfl (by first | exact Or.inl rfl | exact Or.inr rfl))
      (pss_one (ps_if (pt_not (pt_val (pe_cal c_is_name (hr.mono (by decide)) (by rfl) pass0 (pa_cons (pv 2) pa_nil)))) (pss_one (ps_raise rfl tkC (pmk_err x_BadName (hr.mono (by decide)) (by rfl) (pa_cons (pv 2) pa_nil)))) pss_nil)))
      (pss_cons (ps_for (passes_of rfl) rfl (pi_tup (pv 0)) (pg_name (i := 2) sc_need_names.nd rfl (by first | exact Or.inl rfl | exact Or.inr rfl))
      (pss_cons (ps_if (pt_cmpR op_in_seq (pv 2) (pv 1) rfl) (pss_one (ps_raise rfl tkC (pmk_err x_Twice (hr.mono (by decide)) (by rfl) (pa_cons (pv 2) pa_nil)))) pss_nil)
      (pss_one (ps_expr (pe_bm PySem.F.plainAttrs_list PySem.F.slot_list_append PySem.F.type_list_append mt_append (pv 1) (pa_cons (pv 2) pa_nil))))))
      (pss_one (ps_ret (pv 1)))))), ?_⟩
    refine ⟨(by show 0 ≤ sizeLine; decide), fun L nL => ?_⟩
    have e0 : Ext H (upd H L (.lst [])) := Ext.upd nL
    refine ⟨_, rfl, l, rfl, ⟨_, hl.ext e0⟩, for_it (walk_tup (xs := xs)) (fun i σ H' => ∃ x2, σ = [some (.ref l), some (.ref L), x2] ∧ Ext H H' ∧ H' L = some (.lst []) ∧ ∀ (j : Nat) d, j < i → ds[j]? = some d → nameOf d ≠ none) ⟨_, rfl, e0, upd_same, fun j d h => absurd h (by omega)⟩ (fun i σ H' _ ⟨_, _, e, _⟩ => hl.ext e) ?_ ?_⟩
    · rintro i x σ _ H1 hi ⟨x2, rfl, e1, hL1, ih⟩ ⟨rfl, hx⟩
      obtain ⟨d, hd, hv, sm⟩ := (ha.ext e1).at_ hx
      refine ⟨_, rfl, x, d, rfl, hv, sm, fun H2 e2 => ⟨_, rfl, ?_⟩⟩
      cases hn : nameOf d with
      | none =>
        refine iteT ?_
        refine ⟨_, rfl, rfl, (by show 1 ≤ 1000; decide), fun dd nd => ?_⟩
        exact (k1 d (bad_at ih hd hn) x H2 (e1.trans e2) (hv.ext e2)).at Ext.rfl' nd
      | some n =>
        refine iteF ?_
        refine ⟨_, rfl, e1.trans e2, e2 _ _ hL1, fun j d' hj hd' => ?_⟩
        by_cases h : j < i
        · exact ih j d' h hd'
        · have : j = i := by omega
          subst this
          rw [hd] at hd'
          cases hd'
          rw [hn]
          simp
    · rintro σ H1 ⟨x2, rfl, e1, hL1, ih⟩
      have hb : badOf ds = none := bad_all fun j d hd => ih j d (by have := (List.getElem?_eq_some_iff.mp hd).1; omega) hd
      have hxs := ha.names hb
      generalize hzs : namesOf ds = zs at hxs k2 k3
      have hzl : xs.length = zs.length := by rw [hxs, List.length_map]
      refine ⟨_, rfl, l, rfl, ⟨_, hl.ext e1⟩, for_it (walk_tup (xs := xs)) (fun i σ H' => ∃ x2, σ = [some (.ref l), some (.ref L), x2] ∧ Ext H H' ∧ H' L = some (.lst ((zs.take i).map V.str)) ∧ twi [] zs = twi (zs.take i) (zs.drop i)) ⟨_, rfl, e1, hL1, by simp⟩ (fun i σ H' _ ⟨_, _, e, _⟩ => hl.ext e) ?_ ?_⟩
      · rintro i x σ _ H2 hi ⟨x2', rfl, e2, hL2, it⟩ ⟨rfl, hx⟩
        rw [hxs, List.getElem?_map] at hx
        obtain ⟨z, hz, rfl⟩ := Option.map_eq_some_iff.mp hx
        have hdr : zs.drop i = z :: zs.drop (i + 1) := by
          obtain ⟨h1, h2⟩ := List.getElem?_eq_some_iff.mp hz
          rw [List.drop_eq_getElem_cons h1, h2]
        have hst : twi (zs.take i) (zs.drop i) = if z ∈ zs.take i then some z else twi (zs.take i ++ [z]) (zs.drop (i + 1)) := by rw [hdr]; rfl
        refine ⟨_, rfl, _, rfl, L, _, rfl, .inl (SqL.of hL2), rfl, flat_strs _, _, rfl, ?_⟩
        rw [inV_strs]
        by_cases hm : z ∈ zs.take i
        · refine iteYes (decide_eq_true hm) ?_
          refine ⟨_, rfl, rfl, (by show 1 ≤ 1000; decide), fun dd nd => (k2 hb z ?_).at e2 nd⟩
          rw [it, hst, if_pos hm]
        · refine iteNo (decide_eq_false hm) ?_
          have htk : zs.take (i + 1) = zs.take i ++ [z] := by rw [List.take_add_one, hz]; rfl
          refine ⟨_, rfl, .inl ⟨rfl, _, SqL.of hL2⟩, _, rfl, L, _, _, rfl, rfl, hL2, ?_, _, rfl, ?_, ?_, ?_⟩
          · rw [List.length_map]
            have := List.length_take_le i zs
            omega
          · intro b o q
            rw [upd_ne (ne_of_none q nL)]
            exact e2 b o q
          · rw [upd_same, htk, List.map_append]
            rfl
          · rw [it, hst, if_neg hm, htk]
      · rintro σ H2 ⟨x2', rfl, e2, hL2, it⟩
        rw [hzl, List.take_length] at hL2
        rw [hzl, List.take_length, List.drop_length] at it
        refine ⟨_, rfl, k3 hb it L H2 e2 ?_⟩
        rw [nw_at nL]
        exact hL2
def spNNL (K : PySem.W.Frag) (CN CW : Addr) : Sp := fun vs H Q E => ∃ (l : Addr) (xs : List V) (ds : List PyData), vs = [.ref l] ∧ SqL K H l xs ∧ ArgsAt H xs ds ∧
  (∀ d, badOf ds = some d → ∀ v H1, Ext H H1 → TV H1 v d → Errs CN "value" v H1 E) ∧
  (badOf ds = none → ∀ z, twi [] (namesOf ds) = some z → Errs CW "name" (.str z) H E) ∧
  (badOf ds = none → twi [] (namesOf ds) = none → ∀ a H', Ext H H' → nw H H' a = some (.lst ((namesOf ds).map V.str)) → Q (.ref a) H')
theorem ok_nnL {f : Addr} {fd : FuncData} (F : Fun K "need_names" "need_names" s_need_names f fd) (T : Tx K mg CE CN CB CW CR tL tN) (c_is_name : Cal P w K mg base CX0 1 "is_name" spName) (x_BadName : Xer P w K mg base CN "BadName" ["value"]) (x_Twice : Xer P w K mg base CW "Twice" ["name"]) :
    FnOk P w K mg base (L2.CX P w) 3 f fd ["values"] (spNNL K CN CW) := by
  refine F.okX sc_need_names (fun vs H Q E h => ?_) (fun cdv A outer s H vs Q E hr h => ?_)
  · obtain ⟨l, xs, ds, rfl, _⟩ := h
    rfl
  · obtain ⟨l, xs, ds, rfl, hl, ha, k1, k2, k3⟩ := h
    have h4 : sizeLine = 16777216 := sizeLine_eq
    have hln := ha.ln
    have hlen := ha.tv.len
    refine ⟨_, (pss_cons (ps_set (i := 1) sc_need_names.nd rfl (by first | exact Or.inl rfl | exact Or.inr rfl) (pe_lst pa_nil))
      (pss_cons (ps_for (passes_of rfl) rfl (pi_list (pv 0)) (pg_name (i := 2) sc_need_names.nd rfl (by first | exact Or.inl rfl | exact Or.inr rfl))
      (pss_one (ps_if (pt_not (pt_val (pe_cal c_is_name (hr.mono (by decide)) (by rfl) pass0 (pa_cons (pv 2) pa_nil)))) (pss_one (ps_raise rfl tkC (pmk_err x_BadName (hr.mono (by decide)) (by rfl) (pa_cons (pv 2) pa_nil)))) pss_nil)))
      (pss_cons (ps_for (passes_of rfl) rfl (pi_list (pv 0)) (pg_name (i := 2) sc_need_names.nd rfl (by first | exact Or.inl rfl | exact Or.inr rfl))
      (pss_cons (ps_if (pt_cmpR op_in_seq (pv 2) (pv 1) rfl) (pss_one (ps_raise rfl tkC (pmk_err x_Twice (hr.mono (by decide)) (by rfl) (pa_cons (pv 2) pa_nil)))) pss_nil)
      (pss_one (ps_expr (pe_bm PySem.F.plainAttrs_list PySem.F.slot_list_append PySem.F.type_list_append mt_append (pv 1) (pa_cons (pv 2) pa_nil))))))
      (pss_one (ps_ret (pv 1)))))), ?_⟩
    refine ⟨(by show 0 ≤ sizeLine; decide), fun L nL => ?_⟩
    have e0 : Ext H (upd H L (.lst [])) := Ext.upd nL
    refine ⟨_, rfl, l, rfl, ⟨_, hl.ext e0⟩, for_it (walk_list (xs := xs)) (fun i σ H' => ∃ x2, σ = [some (.ref l), some (.ref L), x2] ∧ Ext H H' ∧ H' L = some (.lst []) ∧ ∀ (j : Nat) d, j < i → ds[j]? = some d → nameOf d ≠ none) ⟨_, rfl, e0, upd_same, fun j d h => absurd h (by omega)⟩ (fun i σ H' _ ⟨_, _, e, _⟩ => hl.ext e) ?_ ?_⟩
    · rintro i x σ _ H1 hi ⟨x2, rfl, e1, hL1, ih⟩ ⟨rfl, hx⟩
      obtain ⟨d, hd, hv, sm⟩ := (ha.ext e1).at_ hx
      refine ⟨_, rfl, x, d, rfl, hv, sm, fun H2 e2 => ⟨_, rfl, ?_⟩⟩
      cases hn : nameOf d with
      | none =>
        refine iteT ?_
        refine ⟨_, rfl, rfl, (by show 1 ≤ 1000; decide), fun dd nd => ?_⟩
        exact (k1 d (bad_at ih hd hn) x H2 (e1.trans e2) (hv.ext e2)).at Ext.rfl' nd
      | some n =>
        refine iteF ?_
        refine ⟨_, rfl, e1.trans e2, e2 _ _ hL1, fun j d' hj hd' => ?_⟩
        by_cases h : j < i
        · exact ih j d' h hd'
        · have : j = i := by omega
          subst this
          rw [hd] at hd'
          cases hd'
          rw [hn]
          simp
    · rintro σ H1 ⟨x2, rfl, e1, hL1, ih⟩
      have hb : badOf ds = none := bad_all fun j d hd => ih j d (by have := (List.getElem?_eq_some_iff.mp hd).1; omega) hd
      have hxs := ha.names hb
      generalize hzs : namesOf ds = zs at hxs k2 k3
      have hzl : xs.length = zs.length := by rw [hxs, List.length_map]
      refine ⟨_, rfl, l, rfl, ⟨_, hl.ext e1⟩, for_it (walk_list (xs := xs)) (fun i σ H' => ∃ x2, σ = [some (.ref l), some (.ref L), x2] ∧ Ext H H' ∧ H' L = some (.lst ((zs.take i).map V.str)) ∧ twi [] zs = twi (zs.take i) (zs.drop i)) ⟨_, rfl, e1, hL1, by simp⟩ (fun i σ H' _ ⟨_, _, e, _⟩ => hl.ext e) ?_ ?_⟩
      · rintro i x σ _ H2 hi ⟨x2', rfl, e2, hL2, it⟩ ⟨rfl, hx⟩
        rw [hxs, List.getElem?_map] at hx
        obtain ⟨z, hz, rfl⟩ := Option.map_eq_some_iff.mp hx
        have hdr : zs.drop i = z :: zs.drop (i + 1) := by
          obtain ⟨h1, h2⟩ := List.getElem?_eq_some_iff.mp hz
          rw [List.drop_eq_getElem_cons h1, h2]
        have hst : twi (zs.take i) (zs.drop i) = if z ∈ zs.take i then some z else twi (zs.take i ++ [z]) (zs.drop (i + 1)) := by rw [hdr]; rfl
        refine ⟨_, rfl, _, rfl, L, _, rfl, .inl (SqL.of hL2), rfl, flat_strs _, _, rfl, ?_⟩
        rw [inV_strs]
        by_cases hm : z ∈ zs.take i
        · refine iteYes (decide_eq_true hm) ?_
          refine ⟨_, rfl, rfl, (by show 1 ≤ 1000; decide), fun dd nd => (k2 hb z ?_).at e2 nd⟩
          rw [it, hst, if_pos hm]
        · refine iteNo (decide_eq_false hm) ?_
          have htk : zs.take (i + 1) = zs.take i ++ [z] := by rw [List.take_add_one, hz]; rfl
          refine ⟨_, rfl, .inl ⟨rfl, _, SqL.of hL2⟩, _, rfl, L, _, _, rfl, rfl, hL2, ?_, _, rfl, ?_, ?_, ?_⟩
          · rw [List.length_map]
            have := List.length_take_le i zs
            omega
          · intro b o q
            rw [upd_ne (ne_of_none q nL)]
            exact e2 b o q
          · rw [upd_same, htk, List.map_append]
            rfl
          · rw [it, hst, if_neg hm, htk]
      · rintro σ H2 ⟨x2', rfl, e2, hL2, it⟩
        rw [hzl, List.take_length] at hL2
        rw [hzl, List.take_length, List.drop_length] at it
        refine ⟨_, rfl, k3 hb it L H2 e2 ?_⟩
        rw [nw_at nL]
        exact hL2
end
end K71
end
section
set_option Elab.async false
set_option autoImplicit false
set_option linter.all false
set_option maxRecDepth 100000
set_option maxHeartbeats 4000000
namespace K71
open PySem PySem.Spec PyProof.Rows L2 Ls
open C8 (pss_cut tCut)
open TL
/-! ### what is due of a rule -/
def ruleWords : List Str := ["dead", "far", "old", "clean", "cheap"]
def wdOf : PyData → Option Str
  | .str z => if z ∈ ruleWords then some z else none
  | _ => none
theorem wdOf_some {d : PyData} {z : Str} (h : wdOf d = some z) : d = .str z ∧ z ∈ ruleWords := by
  cases d with
  | str y =>
    have h : (if y ∈ ruleWords then some y else none) = some z := h
    by_cases e : y ∈ ruleWords
    · rw [if_pos e] at h
      cases h
      exact ⟨rfl, e⟩
    · rw [if_neg e] at h
      cases h
  | _ => cases h
theorem wdOf_in {z : Str} (h : z ∈ ruleWords) : wdOf (.str z) = some z := if_pos h
theorem wdOf_out {z : Str} (h : z ∉ ruleWords) : wdOf (.str z) = none := if_neg h
/-- the first that is no word, or stood before -/
def badW : List Str → List PyData → Option PyData
  | _, [] => none
  | seen, d :: r => match wdOf d with
    | none => some d
    | some z => if z ∈ seen then some d else badW (seen ++ [z]) r
theorem badW_no {seen : List Str} {d : PyData} {r : List PyData} (h : wdOf d = none) : badW seen (d :: r) = some d := by
  show (match wdOf d with | none => some d | some z => if z ∈ seen then some d else badW (seen ++ [z]) r) = _
  rw [h]
theorem badW_yes {seen : List Str} {d : PyData} {r : List PyData} {z : Str} (h : wdOf d = some z) : badW seen (d :: r) = if z ∈ seen then some d else badW (seen ++ [z]) r := by
  show (match wdOf d with | none => some d | some z => if z ∈ seen then some d else badW (seen ++ [z]) r) = _
  rw [h]
inductive Flt
  | rule (d : PyData)
  | name (d : PyData)
  | twice (z : Str)
def pinF (ds : List PyData) : Option Flt := match badOf ds with
  | some d => some (.name d)
  | none => match twi [] (namesOf ds) with
    | some z => some (.twice z)
    | none => none
def ruleF (es ds : List PyData) : Option Flt := if es = [] then some (.rule .none) else match badW [] es with
  | some d => some (.rule d)
  | none => pinF ds
theorem pinF_bad {ds : List PyData} {d : PyData} (h : badOf ds = some d) : pinF ds = some (.name d) := by unfold pinF; rw [h]
theorem pinF_two {ds : List PyData} {z : Str} (h : badOf ds = none) (h2 : twi [] (namesOf ds) = some z) : pinF ds = some (.twice z) := by unfold pinF; rw [h]; simp only; rw [h2]
theorem pinF_ok {ds : List PyData} (h : badOf ds = none) (h2 : twi [] (namesOf ds) = none) : pinF ds = none := by unfold pinF; rw [h]; simp only; rw [h2]
def FErr (CN CB CW : Addr) (H : Hp) (E : XK) : Flt → Prop
  | .rule d => ∀ v H1, Ext H H1 → TV H1 v d → Errs CB "value" v H1 E
  | .name d => ∀ v H1, Ext H H1 → TV H1 v d → Errs CN "value" v H1 E
  | .twice z => Errs CW "name" (.str z) H E
theorem FErr.ext {CN CB CW : Addr} {H H1 : Hp} {E : XK} : ∀ {f : Flt}, FErr CN CB CW H E f → Ext H H1 → FErr CN CB CW H1 E f
  | .rule _, h, e => fun v H2 e2 t => h v H2 (e.trans e2) t
  | .name _, h, e => fun v H2 e2 t => h v H2 (e.trans e2) t
  | .twice _, h, e => Errs.ext h e
/-- all stays but the object at x -/
def KeepX (x : Addr) (H H' : Hp) : Prop := ∀ b o, H b = some o → b ≠ x → H' b = some o
/-- what the top says of the class -/
structure ClR (K : PySem.W.Frag) (CR : Addr) : Prop where
  cl : Cls K CR
  nW : NoAttr K CR "row_words"
  nP : NoAttr K CR "row_pins"
  ws : ∃ mc aW u, ClX.CRead K CR mc ∧ ClX.CVal K CR mc "WORDS" (.ref aW) u ∧ ∀ H, SqT K H aW (ruleWords.map V.str)
mutual
theorem tv_upd {H : Hp} {x C dx : Addr} {fs : List (Str × V)} {o : HO} (hx : H x = some (.ins C dx fs)) : ∀ {v : V} {d : PyData}, TV H v d → TV (upd H x o) v d
  | _, _, .non => .non
  | _, _, .bl b => .bl b
  | _, _, .int i => .int i
  | _, _, .str z => .str z
  | _, _, .lst q h => .lst (by rw [upd_ne (ne_of q hx (by intro z; cases z))]; exact q) (tvs_upd hx h)
  | _, _, .tup q h => .tup (by rw [upd_ne (ne_of q hx (by intro z; cases z))]; exact q) (tvs_upd hx h)
  | _, _, .dct q h1 h2 => .dct (by rw [upd_ne (ne_of q hx (by intro z; cases z))]; exact q) (tvs_upd hx h1) (tvs_upd hx h2)
theorem tvs_upd {H : Hp} {x C dx : Addr} {fs : List (Str × V)} {o : HO} (hx : H x = some (.ins C dx fs)) : ∀ {vs : List V} {ds : List PyData}, TVs H vs ds → TVs (upd H x o) vs ds
  | _, _, .nil => .nil
  | _, _, .cons h hs => .cons (tv_upd hx h) (tvs_upd hx hs)
end
theorem sqt_upd {K : PySem.W.Frag} {H : Hp} {x C dx l : Addr} {fs : List (Str × V)} {o : HO} {xs : List V} (hx : H x = some (.ins C dx fs)) (h : SqT K H l xs) : SqT K (upd H x o) l xs := by
  rcases h with (h | ⟨f, h⟩) | h
  · exact .inl (.inl (by rw [upd_ne (ne_of h hx (by intro z; cases z))]; exact h))
  · exact .inl (.inr ⟨f, by rw [upd_ne (ne_of h hx (by intro z; cases z))]; exact h⟩)
  · exact .inr h
theorem sql_upd {K : PySem.W.Frag} {H : Hp} {x C dx l : Addr} {fs : List (Str × V)} {o : HO} {xs : List V} (hx : H x = some (.ins C dx fs)) (h : SqL K H l xs) : SqL K (upd H x o) l xs := by
  rcases h with (h | ⟨f, h⟩) | h
  · exact .inl (.inl (by rw [upd_ne (ne_of h hx (by intro z; cases z))]; exact h))
  · exact .inl (.inr ⟨f, by rw [upd_ne (ne_of h hx (by intro z; cases z))]; exact h⟩)
  · exact .inr h
abbrev ruleFs (p t : Addr) : List (Str × V) := [("row_words", .ref p), ("row_pins", .ref t)]
section
variable {P : Program} {w : World} {K : PySem.W.Frag} {mg : Str → Option Value} {base : Heap} {CE CN CB CW CR : Addr} {tL tN : Tok}
/-- need_names of a tuple or a list -/
abbrev spNN (K : PySem.W.Frag) (CN CW : Addr) : Sp := fun vs H Q E => spNNT K CN CW vs H Q E ∨ spNNL K CN CW vs H Q E
/-! ### Rule.__init__ -/
def spR0 (K : PySem.W.Frag) (CN CB CW CR : Addr) : Sp := fun vs H Q E => ∃ (x dx l p : Addr) (xs ys : List V) (ds es : List PyData), vs = [.ref x, .ref l, .ref p] ∧ H x = some (.ins CR dx []) ∧ H p = some (.tup ys) ∧ ArgsAt H ys es ∧ ArgsAt H xs ds ∧ (SqT K H l xs ∨ SqL K H l xs) ∧
  (∀ f, ruleF es ds = some f → ∀ H1, KeepX x H H1 → FErr CN CB CW H1 E f) ∧
  (ruleF es ds = none → ∀ t H', KeepX x H H' → H' x = some (.ins CR dx (ruleFs p t)) → H' t = some (.tup ((namesOf ds).map V.str)) → Q .non H')
abbrev s_Rule_init : Stmt := inClass (top 11) 1
abbrev N_Rule_init : List Str := ["self", "pins", "words", "at", "word"]
theorem sc_Rule_init : FnScope N_Rule_init ["self", "pins", "words"] (defScope s_Rule_init) := ⟨rfl, rfl, rfl, by decide +kernel, rfl, by decide +kernel, by decide +kernel⟩
theorem cut_to {xs : List V} {i : Nat} (h : i ≤ xs.length) : cutV xs none (some (i : Int)) = xs.take i := by
  unfold cutV
  rw [HT.sIx_none, HT.sIx_nat, Nat.min_eq_left h]
  simp
theorem ok_Rule_body (T : Tx K mg CE CN CB CW CR tL tN) (hC : ClR K CR) (c_need_names : Cal P w K mg base (L2.CX P w) 3 "need_names" (spNN K CN CW)) (x_BadRule : Xer P w K mg base CB "BadRule" ["value"]) {f : Addr} {cdv : Value}
    (A : Around) (outer : List Env) (s : Shared) (H : Hp) (vs : List V) (Q : VK) (E : XK) (hr : Room 3 (A.deeper (envOfC "Rule.__init__" (defScope s_Rule_init) s.heap.objs.size f cdv))) (h : spR0 K CN CB CW CR vs H Q E) :
    ∃ t, PSs (cxOf (L2.CX P w) P w K mg base N_Rule_init "Rule.__init__" (defScope s_Rule_init) f cdv A outer s H E) (defBody s_Rule_init) t ∧ t { nx := fun _ H' => Q .non H', rt := Q } (start N_Rule_init vs) H := by
  obtain ⟨x, dx, l, p, xs, ys, ds, es, rfl, hx, hp, he, ha, hl, ke, k⟩ := h
  have h4 : sizeLine = 16777216 := sizeLine_eq
  have hln := he.ln
  have hlen := he.tv.len
  refine ⟨_, (pss_cons (ps_if (pt_cmpR op_eq (pe_callB call_len_seq (by rfl) (T.bn _ (by decide +kernel)) (by decide +kernel) (pa_cons (pv 2) pa_nil)) pe_int (nomark _)) (pss_one (ps_raise rfl tkC (pmk_err x_BadRule (hr.mono (by decide)) (by rfl) (pa_cons pe_non pa_nil)))) pss_nil)
      (pss_cons (ps_for (passes_of rfl) rfl (pi_enumT (by rfl) (T.bn _ (by decide +kernel)) (pa_cons (pv 2) pa_nil)) (pg_tup rfl (pgs_cons (pg_name (i := 3) sc_Rule_init.nd rfl (by first | exact Or.inl rfl | exact Or.inr rfl)) (pgs_cons (pg_name (i := 4) sc_Rule_init.nd rfl (by first | exact Or.inl rfl | exact Or.inr rfl)) pgs_nil)))
      (pss_one (ps_if ((pw_or (pt_not (pt_val (pe_callB call_isi (by rfl) (T.bn _ (by decide +kernel)) (by decide +kernel) (pa_cons (pv 4) (pa_cons (pe_gty (T := "str") (by rfl) (T.bn _ (by decide +kernel)) (by decide +kernel)) pa_nil))))) (pw_or (pt_cmpR op_notIn_seq (pv 4) (ClX.pe_cval (pe_gref (by rfl) T.m_Rule)) rfl) (pw_or1 (pt_cmpR op_in_seq (pv 4) (pe_slice sl_tup (pv 2) po_none (po_some (pv 3))) rfl))))).pt (pss_one (ps_raise rfl tkC (pmk_err x_BadRule (hr.mono (by decide)) (by rfl) (pa_cons (pv 4) pa_nil)))) pss_nil)))
      (pss_cons (ps_fld (pv 0) (pv 2) rfl)
      (pss_one (ps_fld (pv 0) (pe_callTy call_tuple_of (by rfl) (T.bn _ (by decide +kernel)) (by decide +kernel) (pa_cons (pe_cal c_need_names (hr.mono (by decide)) (by rfl) passC (pa_cons (pv 1) pa_nil)) pa_nil)) rfl))))), ?_⟩
  have hpx : p ≠ x := ne_of hp hx (by intro z; cases z)
  refine ⟨_, rfl, p, ys, rfl, .inr (SqT.of hp), rfl, _, rfl, ?_⟩
  by_cases h0 : es = []
  · have hy0 : ys.length = 0 := by rw [hlen, h0]; rfl
    refine iteYes (decide_eq_true (by rw [hy0]; rfl)) ?_
    exact ⟨rfl, (by show 1 ≤ 1000; decide), fun dd nd => (ke (.rule .none) (by unfold ruleF; rw [if_pos h0]) H (fun _ _ q _ => q) .non H Ext.rfl' .non).at Ext.rfl' nd⟩
  have hy0 : ys.length ≠ 0 := by rw [hlen]; exact fun z => h0 (List.length_eq_zero_iff.mp z)
  have eF : ruleF es ds = match badW [] es with | some d => some (.rule d) | none => pinF ds := by unfold ruleF; rw [if_neg h0]
  refine iteNo (decide_eq_false fun z => hy0 (by have := V.int.inj z; omega)) ?_
  obtain ⟨mc, aW, uW, cr, cv, hW⟩ := hC.ws
  refine ⟨_, rfl, p, ys, rfl, SqT.of hp, for_it (walk_enumT (xs := ys)) (fun i σ H' => ∃ (x3 x4 : Option V) (zs : List Str), σ = [some (.ref x), some (.ref l), some (.ref p), x3, x4] ∧ Ext H H' ∧ zs.length = i ∧ ys.take i = zs.map V.str ∧ badW [] es = badW zs (es.drop i)) ⟨_, _, [], rfl, Ext.rfl', rfl, rfl, rfl⟩ (fun i σ H' _ ⟨_, _, _, _, e, _⟩ => SqT.of (e _ _ hp)) ?_ ?_⟩
  · rintro i y σ H1 _ hi ⟨x3, x4, zs, rfl, e1, hzl, htk, ib⟩ ⟨Tq, y1, v, rfl, nT, rfl, hy1, hy2⟩
    cases hy1
    have hi' : i < ys.length := hi
    have hy2 : ys[i]? = some v := hy2
    obtain ⟨d, hd, hv, sm⟩ := (he.ext e1).at_ hy2
    have hdr : es.drop i = d :: es.drop (i + 1) := by
      obtain ⟨h1, h2⟩ := List.getElem?_eq_some_iff.mp hd
      rw [List.drop_eq_getElem_cons h1, h2]
    have eT : Ext H1 (upd H1 Tq (.tup [.int (i : Nat), v])) := Ext.upd nT
    have uT : (upd H1 Tq (.tup [.int (i : Nat), v])) Tq = some (.tup [.int (i : Nat), v]) := upd_same
    generalize (upd H1 Tq (.tup [.int (i : Nat), v])) = H2 at eT uT
    have e2 := e1.trans eT
    have bad : ∀ {H3 : Hp}, Ext H2 H3 → badW zs (es.drop i) = some d → ∀ dd, H3 dd = none → E (.ref CB) (some dd) (upd H3 dd (.xd [("value", v)])) := fun {H3} e3 hb dd nd =>
      (ke (.rule d) (by rw [eF, ib, hb]) H3 (fun b o q _ => e2.trans e3 b o q) v H3 Ext.rfl' (hv.ext (eT.trans e3))).at Ext.rfl' nd
    refine ⟨Tq, _, rfl, SqT.of uT, rfl, _, _, rfl, _, _, rfl, rfl, ?_⟩
    refine ⟨_, rfl, _, _, _, _, isStrD d, rfl, .ty "str", tyX_of (hv.ext eT), kit_str d, _, rfl, ?_⟩
    cases hs : isStrD d with
    | false =>
      refine iteT ?_
      have hn : wdOf d = none := by
        cases d <;> first | rfl | cases hs
      exact ⟨_, rfl, rfl, (by show 1 ≤ 1000; decide), bad Ext.rfl' (by rw [hdr]; exact badW_no hn)⟩
    | true =>
      obtain ⟨z, rfl⟩ := strD hs
      cases tv_str hv
      refine iteF ?_
      refine ⟨_, rfl, CR, mc, .ref aW, uW, rfl, cr, cv, aW, _, rfl, .inr (hW _), rfl, flat_strs _, _, rfl, ?_⟩
      by_cases hz : z ∈ ruleWords
      case neg =>
        refine iteYes (by rw [inV_strs, decide_eq_false hz]; rfl) ?_
        exact ⟨_, rfl, rfl, (by show 1 ≤ 1000; decide), bad Ext.rfl' (by rw [hdr]; exact badW_no (wdOf_out hz))⟩
      refine iteNo (by rw [inV_strs, decide_eq_true hz]; rfl) ?_
      have hb := badW_yes (seen := zs) (r := es.drop (i + 1)) (wdOf_in hz)
      refine ⟨_, rfl, _, rfl, _, rfl, _, rfl, p, ys, rfl, SqT.of (e2 _ _ hp), ?_, fun c nc => ?_⟩
      · rw [HT.sIx_none, HT.sIx_nat, Nat.min_eq_left (Nat.le_of_lt hi')]
        omega
      rw [cut_to (Nat.le_of_lt hi'), htk]
      refine ⟨c, _, rfl, .inr (SqT.of upd_same), rfl, flat_strs _, _, rfl, ?_⟩
      have e3 : Ext H2 (upd H2 c (.tup (zs.map V.str))) := Ext.upd nc
      by_cases hm : z ∈ zs
      · refine iteYes (by rw [inV_strs, decide_eq_true hm]; rfl) ?_
        exact ⟨_, rfl, rfl, (by show 1 ≤ 1000; decide), bad e3 (by rw [hdr, hb, if_pos hm])⟩
      · refine iteNo (by rw [inV_strs, decide_eq_false hm]; rfl) ?_
        refine ⟨_, _, zs ++ [z], rfl, e2.trans e3, by simp [hzl], ?_, ?_⟩
        · rw [List.take_add_one, htk, hy2]
          simp
        · rw [ib, hdr, hb, if_neg hm]
  · rintro σ H1 ⟨x3, x4, zs, rfl, e1, hzl, htk, ib⟩
    have hb : badW [] es = none := by
      rw [ib, List.drop_of_length_le (by omega)]
      rfl
    rw [hb] at eF
    have eF : ruleF es ds = pinF ds := eF
    refine ⟨_, rfl, _, rfl, x, CR, dx, _, rfl, e1 _ _ hx, hC.cl, hC.nW, (by show 0 < 1000; decide), ?_⟩
    have hx1 := e1 _ _ hx
    have ha1 := ha.ext e1
    generalize hH2 : upd H1 x (.ins CR dx ([("row_words", .ref p)] : List (Str × V))) = H2
    have k2 : KeepX x H H2 := fun b o q hb => by
      rw [← hH2, upd_ne hb]
      exact e1 _ _ q
    have ha2 : ArgsAt H2 xs ds := ⟨by rw [← hH2]; exact tvs_upd hx1 ha1.tv, ha1.sm, ha1.ln⟩
    have hx2 : H2 x = some (.ins CR dx [("row_words", .ref p)]) := by rw [← hH2]; exact upd_same
    have ce : (∀ d, badOf ds = some d → ∀ v H3, Ext H2 H3 → TV H3 v d → Errs CN "value" v H3 E) ∧ (badOf ds = none → ∀ z, twi [] (namesOf ds) = some z → Errs CW "name" (.str z) H2 E) :=
      ⟨fun d hb v H3 e3 hv => ke (.name d) (by rw [eF, pinF_bad hb]) H2 k2 v H3 e3 hv, fun hb z hz => ke (.twice z) (by rw [eF, pinF_two hb hz]) H2 k2⟩
    have fin : ∀ a H3, badOf ds = none → twi [] (namesOf ds) = none → Ext H2 H3 → nw H2 H3 a = some (.lst ((namesOf ds).map V.str)) → ∀ t, H3 t = none →
        Q .non (upd (upd H3 t (.tup ((namesOf ds).map V.str))) x (.ins CR dx (ruleFs p t))) := fun a H3 h1 h2 e3 ha t nt => by
      refine k (by rw [eF, pinF_ok h1 h2]) t _ (fun b o q hb => ?_) upd_same ?_
      · have q3 := e3 _ _ (k2 _ _ q hb)
        rw [upd_ne hb, upd_ne (ne_of_none q3 nt)]
        exact q3
      · rw [upd_ne (ne_of_none (e3 _ _ hx2) nt).symm, upd_same]
    refine ⟨_, rfl, ?_⟩
    change spNN K CN CW [.ref l] (upd H1 x (.ins CR dx ([("row_words", .ref p)] : List (Str × V)))) _ _
    rw [hH2]
    rcases hl with hl | hl
    · refine .inl ⟨l, xs, ds, rfl, ?_, ha2, ce.1, ce.2, fun h1 h2 a H3 e3 ha3 => ?_⟩
      · rw [← hH2]; exact sqt_upd hx1 (hl.ext e1)
      · refine ⟨a, _, rfl, .inl ⟨SqL.of (nw_some ha3).2, fun t nt => ?_⟩⟩
        refine ⟨_, rfl, x, CR, dx, [("row_words", .ref p)], rfl, ?_, hC.cl, hC.nP, (by show 1 < 1000; decide), fin a H3 h1 h2 e3 ha3 t nt⟩
        rw [upd_ne (ne_of_none (e3 _ _ hx2) nt)]; exact e3 _ _ hx2
    · refine .inr ⟨l, xs, ds, rfl, ?_, ha2, ce.1, ce.2, fun h1 h2 a H3 e3 ha3 => ?_⟩
      · rw [← hH2]; exact sql_upd hx1 (hl.ext e1)
      · refine ⟨a, _, rfl, .inl ⟨SqL.of (nw_some ha3).2, fun t nt => ?_⟩⟩
        refine ⟨_, rfl, x, CR, dx, [("row_words", .ref p)], rfl, ?_, hC.cl, hC.nP, (by show 1 < 1000; decide), fin a H3 h1 h2 e3 ha3 t nt⟩
        rw [upd_ne (ne_of_none (e3 _ _ hx2) nt)]; exact e3 _ _ hx2
end
end K71
end
section
set_option Elab.async false
set_option autoImplicit false
set_option linter.all false
set_option maxRecDepth 100000
set_option maxHeartbeats 4000000
namespace K71
open PySem PySem.Spec PyProof.Rows L2 Ls
open C8 (pss_cut tCut)
open TL
theorem badW_none : ∀ {es : List PyData} {seen : List Str}, badW seen es = none → ∃ zs : List Str, es = zs.map .str ∧ (∀ z ∈ zs, z ∈ ruleWords ∧ z ∉ seen) ∧ zs.Nodup
  | [], seen, _ => ⟨[], rfl, by simp, List.nodup_nil⟩
  | d :: r, seen, h => by
    cases hw : wdOf d with
    | none => rw [badW_no hw] at h; cases h
    | some z =>
      rw [badW_yes hw] at h
      by_cases hm : z ∈ seen
      · rw [if_pos hm] at h
        cases h
      · rw [if_neg hm] at h
        obtain ⟨zs, e, h1, h2⟩ := badW_none h
        obtain ⟨ed, hz⟩ := wdOf_some hw
        refine ⟨z :: zs, by rw [e, ed]; rfl, fun y hy => ?_, List.nodup_cons.mpr ⟨fun hz2 => (h1 z hz2).2 (by simp), h2⟩⟩
        rcases List.mem_cons.mp hy with rfl | hy
        · exact ⟨hz, hm⟩
        · exact ⟨(h1 y hy).1, fun z2 => (h1 y hy).2 (List.mem_append_left _ z2)⟩
theorem badW_ok : ∀ {zs seen : List Str}, (∀ z ∈ zs, z ∈ ruleWords ∧ z ∉ seen) → zs.Nodup → badW seen (zs.map .str) = none
  | [], _, _, _ => rfl
  | z :: r, seen, h, nd => by
    obtain ⟨h1, h2⟩ := h z (by simp)
    obtain ⟨n1, n2⟩ := List.nodup_cons.mp nd
    show badW seen (.str z :: r.map .str) = none
    rw [badW_yes (wdOf_in h1), if_neg h2]
    refine badW_ok (fun y hy => ⟨(h y (by simp [hy])).1, fun hm => ?_⟩) n2
    rcases List.mem_append.mp hm with q | q
    · exact (h y (by simp [hy])).2 q
    · have : y = z := by simpa using q
      exact n1 (this ▸ hy)
theorem ruleF_none {es ds : List PyData} (h : ruleF es ds = none) : es ≠ [] ∧ badW [] es = none ∧ badOf ds = none ∧ twi [] (namesOf ds) = none := by
  unfold ruleF at h
  by_cases h0 : es = []
  · rw [if_pos h0] at h; cases h
  rw [if_neg h0] at h
  cases hb : badW [] es with
  | some d => rw [hb] at h; cases h
  | none =>
    rw [hb] at h
    have h : pinF ds = none := h
    cases hc : badOf ds with
    | some d => rw [pinF_bad hc] at h; cases h
    | none => cases ht : twi [] (namesOf ds) with
      | some z => rw [pinF_two hc ht] at h; cases h
      | none => exact ⟨h0, rfl, rfl, rfl⟩
theorem ruleF_ok {es ds : List PyData} (h0 : es ≠ []) (h1 : badW [] es = none) (h2 : badOf ds = none) (h3 : twi [] (namesOf ds) = none) : ruleF es ds = none := by
  unfold ruleF
  rw [if_neg h0, h1]
  exact pinF_ok h2 h3
theorem word_sok {z : Str} (h : z ∈ ruleWords) : PyData.strOk z = true := by
  have : ∀ y ∈ ruleWords, PyData.strOk y = true := by decide +kernel
  exact this z h
theorem name_sok {z : Str} (h : isName z = true) : PyData.strOk z = true := by
  show z.cps.all (· < 0x110000) = true
  rw [Array.all_eq_true']
  intro c hc
  have h1 := name_sub h c (by simpa [tl] using hc)
  have : ∀ x ∈ tl lettersS, x < 0x110000 := by decide +kernel
  exact decide_eq_true (this c h1)
theorem tvs_back {H : Hp} : ∀ {zs : List Str} {ys : List V}, TVs H ys (zs.map .str) → ys = zs.map V.str
  | [], _, h => by cases h; rfl
  | z :: r, _, .cons h hs => by rw [tv_str h, tvs_back hs]; rfl
/-- a rule stands at a -/
structure RuleAt (CR : Addr) (H : Hp) (a : Addr) (zs ns : List Str) : Prop where
  ex : ∃ dx p t, H a = some (.ins CR dx (ruleFs p t)) ∧ H p = some (.tup (zs.map V.str)) ∧ H t = some (.tup (ns.map V.str))
  wd : ∀ z ∈ zs, z ∈ ruleWords
  nm : ∀ n ∈ ns, isName n = true
theorem RuleAt.ext {CR : Addr} {H H' : Hp} {a : Addr} {zs ns : List Str} (h : RuleAt CR H a zs ns) (e : Ext H H') : RuleAt CR H' a zs ns := by
  obtain ⟨dx, p, t, h1, h2, h3⟩ := h.ex
  exact ⟨⟨dx, p, t, e _ _ h1, e _ _ h2, e _ _ h3⟩, h.wd, h.nm⟩
/-- what the top says of the class, for == -/
structure RuK (K : PySem.W.Frag) (CR fE : Addr) : Prop where
  ha : PySem.W.findIn K (.ref CR) "__class__" = some (some (.builtin "object.__class__"))
  hn : PySem.W.specialIn K (.builtin "object.__class__") "__get__" = some (some (.builtin "getset_descriptor.__get__"))
  htk : PySem.W.takesIn K (.builtin "object.__class__") = some true
  hm : PySem.W.mroIn K CR (.type "object") = some true
  kR : PySem.W.kitOne K (.ref CR) (.ref CR) = some true
  kL : PySem.W.kitOne K (.type "list") (.ref CR) = some false
  kT : PySem.W.kitOne K (.type "tuple") (.ref CR) = some false
  eq : PySem.W.findIn K (.ref CR) "__eq__" = some (some (.ref fE))
  ne : PySem.W.findIn K (.ref CR) "__ne__" = some (some (.builtin "object.__ne__"))
  nfR : PySem.W.notFirst K CR (.ref CR) = true
  nfL : PySem.W.notFirst K CR (.type "list") = true
  nfT : PySem.W.notFirst K CR (.type "tuple") = true
  fn : PySem.W.isFn K (.ref fE) = true
section
variable {P : Program} {w : World} {K : PySem.W.Frag} {mg : Str → Option Value} {base : Heap} {CE CN CB CW CR : Addr} {tL tN : Tok}
/-! ### Rule(..) -/
def spRule (K : PySem.W.Frag) (CN CB CW CR : Addr) : SpK := fun v0 ys v H Q E => ∃ (x dx l : Addr) (xs : List V) (ds es : List PyData), v0 = .ref x ∧ v = .ref l ∧ H x = some (.ins CR dx []) ∧ ArgsAt H ys es ∧ ArgsAt H xs ds ∧ (SqT K H l xs ∨ SqL K H l xs) ∧
  (∀ f, ruleF es ds = some f → ∀ H1, KeepX x H H1 → FErr CN CB CW H1 E f) ∧
  (ruleF es ds = none → ∀ zs H', es = zs.map .str → KeepX x H H' → RuleAt CR H' x zs (namesOf ds) → Q .non H')
theorem keep_ext {x : Addr} {H H1 H2 : Hp} (e : Ext H H1) (k : KeepX x H1 H2) : KeepX x H H2 := fun b o q hb => k b o (e b o q) hb
theorem sp_of {K : PySem.W.Frag} {CN CB CW CR : Addr} {v0 v : V} {ys : List V} {H : Hp} {Q : VK} {E : XK} (h : spRule K CN CB CW CR v0 ys v H Q E) : spKt (spR0 K CN CB CW CR) v0 ys v H Q E := by
  obtain ⟨x, dx, l, xs, ds, es, rfl, rfl, hx, he, ha, hl, ke, k⟩ := h
  have h4 : sizeLine = 16777216 := sizeLine_eq
  refine ⟨by have := he.ln; omega, fun p np => ?_⟩
  have e := Ext.upd (o := .tup ys) np
  refine ⟨x, dx, l, p, xs, ys, ds, es, rfl, e _ _ hx, upd_same, he.ext e, ha.ext e, hl.elim (fun h => .inl (h.ext e)) (fun h => .inr (h.ext e)), fun f hf H1 hk => ke f hf H1 (keep_ext e hk), fun hf t H' hk hx' ht => ?_⟩
  obtain ⟨h0, h1, h2, h3⟩ := ruleF_none hf
  obtain ⟨zs, ez, hz, nd⟩ := badW_none h1
  have hpx : p ≠ x := fun z => by rw [z, hx] at np; cases np
  have ey : ys = zs.map V.str := by
    have := he.tv
    rw [ez] at this
    exact tvs_back this
  refine k hf zs H' ez (keep_ext e hk) ⟨⟨dx, p, t, hx', ?_, ht⟩, fun z hz' => (hz z hz').1, (bad_none h2).2⟩
  rw [← ey]
  exact hk _ _ upd_same hpx
theorem c_rule {f : Addr} {fd : FuncData} (F : Fun K "__init__" "Rule.__init__" s_Rule_init f fd) (T : Tx K mg CE CN CB CW CR tL tN) (hC : ClR K CR) (M : Mk K CR f) (c_need_names : Cal P w K mg base (L2.CX P w) 3 "need_names" (spNN K CN CW)) (x_BadRule : Xer P w K mg base CB "BadRule" ["value"]) :
    MkSK P w K mg base (L2.CX P w) 4 CR "Rule" "pins" (spRule K CN CB CW CR) := by
  obtain ⟨oc, od, kV, doc, pm, an, cdv, ct, osl, rfl, lk, hcd⟩ := F.ex
  have R := fn_sk (P := P) (w := w) (mg := mg) (base := base) (CX := L2.CX P w) (k := 3) (N := N_Rule_init) (a := "self") (z := "pins") (pv := "words") (sp := spR0 K CN CB CW CR) lk hcd sc_Rule_init StX.cxUp (fun _ _ => rfl) (fun _ _ _ _ => rfl)
    (fun A outer s H vs Q E hr h => ok_Rule_body T hC c_need_names x_BadRule A outer s H vs Q E hr h)
  exact ⟨f, T.m_Rule, M, fun A outer s H u0 u us v0 v vs Q E hr e0 r0 rs r h => R A outer s H u0 u us v0 v vs Q E hr e0 r0 rs r (sp_of h)⟩
/-- Rule(z), the pins' default the empty tuple at aD -/
def spRule1 (CR : Addr) : Sp := fun vs H Q _ => ∃ (x dx : Addr) (z : Str), vs = [.ref x, .str z] ∧ H x = some (.ins CR dx []) ∧ z ∈ ruleWords ∧ ∀ H', KeepX x H H' → RuleAt CR H' x [z] [] → Q .non H'
theorem c_rule1 {f D aD : Addr} {oc doc pm cdv ct : Value} {od an : Option Addr} {osl : Array (Option Value)} (lk : K.lookup f = some ⟨oc, od, .func (PySem.W.fnOf "__init__" "Rule.__init__" (defArgs s_Rule_init) (defBody s_Rule_init) (defScope s_Rule_init) .none (.ref D) doc pm an cdv ct), osl⟩)
    (hcd : PySem.W.codeIn K cdv "Rule.__init__" = true) (hD : PySem.W.nsIn K D "pins" = some (some (.ref aD))) (hE : ∀ H, SqT K H aD []) (T : Tx K mg CE CN CB CW CR tL tN) (hC : ClR K CR) (M : Mk K CR f) (c_need_names : Cal P w K mg base (L2.CX P w) 3 "need_names" (spNN K CN CW)) (x_BadRule : Xer P w K mg base CB "BadRule" ["value"]) :
    Mkc P w K mg base (L2.CX P w) 4 CR "Rule" (spRule1 CR) := by
  have R := fn_sd (P := P) (w := w) (mg := mg) (base := base) (CX := L2.CX P w) (k := 3) (N := N_Rule_init) (a := "self") (z := "pins") (pv := "words") (v := .ref aD) (sp := spR0 K CN CB CW CR) lk hcd sc_Rule_init StX.cxUp hD rfl (fun _ _ _ => ⟨_, _, _, _, _, _, rfl, rfl, rfl⟩)
    (fun A outer s H vs Q E hr h => ok_Rule_body T hC c_need_names x_BadRule A outer s H vs Q E hr h)
  refine ⟨f, T.m_Rule, M, R.imp fun vs H Q E h => ?_⟩
  obtain ⟨x, dx, z, rfl, hx, hz, k⟩ := h
  have hf : ruleF [.str z] [] = none := ruleF_ok (by simp) (by rw [badW_yes (wdOf_in hz), if_neg (by simp)]; rfl) rfl rfl
  refine ⟨.ref x, .str z, [], rfl, sp_of ⟨x, dx, aD, [], [], [.str z], rfl, rfl, hx, ⟨.cons (.str z) .nil, fun d hd y e => ?_, by show 1 ≤ 100; decide⟩, ⟨.nil, by simp, by show 0 ≤ 100; decide⟩, .inl (hE H), fun f hf' => ?_, fun _ zs H' ez hk hr => k H' hk ?_⟩⟩
  · have : d = .str z := by simpa using hd
    rw [this] at e
    cases e
    have : ∀ y ∈ ruleWords, y.length ≤ 1000 := by decide +kernel
    exact this z hz
  · rw [hf] at hf'
    cases hf'
  · have : zs = [z] := by
      cases zs with
      | nil => cases ez
      | cons a r => cases r with
        | nil => cases ez; rfl
        | cons b r => cases ez
    rw [this] at hr
    exact hr
/-! ### words, pins, == -/
def spWords (CR : Addr) : Sp := fun vs H Q _ => ∃ (a : Addr) (zs ns : List Str), vs = [.ref a] ∧ RuleAt CR H a zs ns ∧ ∀ p, H p = some (.tup (zs.map V.str)) → Q (.ref p) H
abbrev s_Rule_words : Stmt := inClass (top 11) 2
abbrev N_Rule_words : List Str := ["self"]
theorem sc_Rule_words : FnScope N_Rule_words ["self"] (defScope s_Rule_words) := ⟨rfl, rfl, rfl, by decide +kernel, rfl, by decide +kernel, by decide +kernel⟩
theorem ok_words {f : Addr} {fd : FuncData} (F : Fun K "words" "Rule.words" s_Rule_words f fd) (T : Tx K mg CE CN CB CW CR tL tN) (hC : ClR K CR) : FnOk P w K mg base CX0 1 f fd ["self"] (spWords CR) := by
  refine F.ok sc_Rule_words (fun vs H Q E h => ?_) (fun cdv A outer s H vs Q E hr h => ?_)
  · obtain ⟨a, zs, ns, rfl, _⟩ := h
    rfl
  · obtain ⟨a, zs, ns, rfl, h, k⟩ := h
    obtain ⟨dx, p, t, h1, h2, h3⟩ := h.ex
    refine ⟨_, (pss_one (ps_ret (pe_fld (pv 0) rfl))), ?_⟩
    exact ⟨_, rfl, a, CR, dx, _, _, rfl, h1, hC.cl, hC.nW, rfl, k p h2⟩
def spPins (CR : Addr) : Sp := fun vs H Q _ => ∃ (a : Addr) (zs ns : List Str), vs = [.ref a] ∧ RuleAt CR H a zs ns ∧ ∀ p, H p = some (.tup (ns.map V.str)) → Q (.ref p) H
abbrev s_Rule_pins : Stmt := inClass (top 11) 3
abbrev N_Rule_pins : List Str := ["self"]
theorem sc_Rule_pins : FnScope N_Rule_pins ["self"] (defScope s_Rule_pins) := ⟨rfl, rfl, rfl, by decide +kernel, rfl, by decide +kernel, by decide +kernel⟩
theorem ok_pins {f : Addr} {fd : FuncData} (F : Fun K "pins" "Rule.pins" s_Rule_pins f fd) (T : Tx K mg CE CN CB CW CR tL tN) (hC : ClR K CR) : FnOk P w K mg base CX0 1 f fd ["self"] (spPins CR) := by
  refine F.ok sc_Rule_pins (fun vs H Q E h => ?_) (fun cdv A outer s H vs Q E hr h => ?_)
  · obtain ⟨a, zs, ns, rfl, _⟩ := h
    rfl
  · obtain ⟨a, zs, ns, rfl, h, k⟩ := h
    obtain ⟨dx, p, t, h1, h2, h3⟩ := h.ex
    refine ⟨_, (pss_one (ps_ret (pe_fld (pv 0) rfl))), ?_⟩
    exact ⟨_, rfl, a, CR, dx, _, _, rfl, h1, hC.cl, hC.nP, rfl, k t h3⟩
def spEq (K : PySem.W.Frag) (CR : Addr) : Sp := fun vs H Q _ => ∃ (a : Addr) (v : V) (zs ns : List Str), vs = [.ref a, v] ∧ RuleAt CR H a zs ns ∧
  ((∃ b zs2 ns2, v = .ref b ∧ RuleAt CR H b zs2 ns2 ∧ Q (.bl (decide (zs = zs2 ∧ ns = ns2))) H) ∨ (∃ ty, TyX K H v ty ∧ PySem.W.kitOne K ty (.ref CR) = some false ∧ Q (.bl false) H))
theorem eqv_tups (us vs : List Str) : PyData.eqv (.tuple (us.map .str)) (.tuple (vs.map .str)) = decide (us = vs) := eqvAll_strs us vs
abbrev s_Rule_eq : Stmt := inClass (top 11) 4
abbrev N_Rule_eq : List Str := ["self", "other"]
theorem sc_Rule_eq : FnScope N_Rule_eq ["self", "other"] (defScope s_Rule_eq) := ⟨rfl, rfl, rfl, by decide +kernel, rfl, by decide +kernel, by decide +kernel⟩
theorem ok_eq {f fE : Addr} {fd : FuncData} (F : Fun K "__eq__" "Rule.__eq__" s_Rule_eq f fd) (T : Tx K mg CE CN CB CW CR tL tN) (hC : ClR K CR) (C : RuK K CR fE) : FnOk P w K mg base CX0 2 f fd ["self", "other"] (spEq K CR) := by
  refine F.ok sc_Rule_eq (fun vs H Q E h => ?_) (fun cdv A outer s H vs Q E hr h => ?_)
  · obtain ⟨a, v, zs, ns, rfl, _⟩ := h
    rfl
  · obtain ⟨a, v, zs, ns, rfl, hd, h⟩ := h
    refine ⟨_, (pss_one (ps_ret (pe_and (pe_callB call_isi (by rfl) (T.bn _ (by decide +kernel)) (by decide +kernel) (pa_cons (pv 1) (pa_cons (pe_gref (by rfl) T.m_Rule) pa_nil))) (pe_and (pe_cmpR (op_eqD hr.units) (pe_fld (pv 0) rfl) (pe_fld (pv 1) rfl) (nomark _)) (pe_one (pe_cmpR (op_eqD hr.units) (pe_fld (pv 0) rfl) (pe_fld (pv 1) rfl) (nomark _))))))), ?_⟩
    rcases h with ⟨b, zs2, ns2, rfl, hd2, k⟩ | ⟨ty, hty, kn, k⟩
    · obtain ⟨dx, p, t, a1, a2, a3⟩ := hd.ex
      obtain ⟨dy, p2, t2, b1, b2, b3⟩ := hd2.ex
      refine ⟨_, rfl, _, _, _, _, true, rfl, .own CR, .base (.ins b1 hC.cl C.ha C.hn C.htk C.hm), C.kR, _, rfl, ?_⟩
      refine iteT ?_
      refine ⟨_, rfl, a, CR, dx, _, _, rfl, a1, hC.cl, hC.nW, rfl, ?_⟩
      refine ⟨_, rfl, b, CR, dy, _, _, rfl, b1, hC.cl, hC.nW, rfl, ?_⟩
      refine ⟨_, _, .tup (SqT.of a2) (dp_strs _), .tup (SqT.of b2) (dp_strs _), shaped_strs _ fun z hz => word_sok (hd.wd z hz), shaped_strs _ fun z hz => word_sok (hd2.wd z hz), ?_⟩
      rw [eqv_tups]
      by_cases e1 : zs = zs2
      · rw [decide_eq_true e1]
        refine ⟨_, rfl, iteT ?_⟩
        refine ⟨_, rfl, a, CR, dx, _, _, rfl, a1, hC.cl, hC.nP, rfl, ?_⟩
        refine ⟨_, rfl, b, CR, dy, _, _, rfl, b1, hC.cl, hC.nP, rfl, ?_⟩
        refine ⟨_, _, .tup (SqT.of a3) (dp_strs _), .tup (SqT.of b3) (dp_strs _), shaped_strs _ fun z hz => name_sok (hd.nm z hz), shaped_strs _ fun z hz => name_sok (hd2.nm z hz), ?_⟩
        rw [eqv_tups]
        have : decide (ns = ns2) = decide (zs = zs2 ∧ ns = ns2) := by simp [e1]
        rw [this]
        exact k
      · rw [decide_eq_false e1]
        refine ⟨_, rfl, iteF ?_⟩
        rw [decide_eq_false fun z => e1 z.1] at k
        exact k
    · refine ⟨_, rfl, _, _, _, _, false, rfl, .own CR, hty, kn, _, rfl, ?_⟩
      refine iteF ?_
      exact k
end
end K71
end
section
set_option Elab.async false
set_option autoImplicit false
set_option linter.all false
set_option maxRecDepth 100000
set_option maxHeartbeats 4000000
namespace K71
open PySem PySem.Spec PyProof.Rows L2 Ls
open C8 (pss_cut tCut)
open TL
theorem erase_map (f : Str → V) (l : List Str) (i : Nat) : (l.map f).eraseIdx i = (l.eraseIdx i).map f := by
  induction l generalizing i with
  | nil => rfl
  | cons a r ih => cases i with
    | zero => rfl
    | succ i => exact congrArg (f a :: ·) (ih i)
theorem seqIx {i : Int} {n : Nat} (h0 : 0 ≤ i) (h1 : i < (n : Int)) : seqIndex? i n = some i.toNat := by
  unfold seqIndex?
  simp
  omega
section
variable {P : Program} {w : World} {K : PySem.W.Frag} {mg : Str → Option Value} {base : Heap} {CE CN CB CW CR : Addr} {tL tN : Tok}
/-! ### _law_mixed -/
def spMixed : Sp := fun vs H Q _ => ∃ (p c q : Addr) (ps : List Str), vs = [.ref p, .ref q] ∧ PenAt H p c ∧ H q = some (.lst (ps.map V.str)) ∧ q ≠ p ∧ q ≠ c ∧ ps.length ≤ 10 ∧
  ∀ (l : Addr) (us : List Str) (H' : Hp), H l = none → l ≠ p → l ≠ c → H' l = some (.lst (us.map V.str)) → (∀ z ∈ us, z ∈ ps) → us.length = ps.length → PenAt H' p c → Keep p c H H' → Q (.ref l) H'
abbrev s__law_mixed : Stmt := top 16
abbrev N__law_mixed : List Str := ["_law_pen_here", "_law_some", "_law_left", "_law_k"]
theorem sc__law_mixed : FnScope N__law_mixed ["_law_pen_here", "_law_some"] (defScope s__law_mixed) := ⟨rfl, rfl, rfl, by decide +kernel, rfl, by decide +kernel, by decide +kernel⟩
theorem ok_mixed {f : Addr} {fd : FuncData} (F : Fun K "_law_mixed" "_law_mixed" s__law_mixed f fd) (T : Tx K mg CE CN CB CW CR tL tN) (c__law_draw : Cal P w K mg base CX0 1 "_law_draw" spDraw) : FnOk P w K mg base CX0 2 f fd ["_law_pen_here", "_law_some"] spMixed := by
  refine F.ok sc__law_mixed (fun vs H Q E h => ?_) (fun cdv A outer s H vs Q E hr h => ?_)
  · obtain ⟨p, c, q, ps, rfl, _⟩ := h
    rfl
  · obtain ⟨p, c, q, ps, rfl, hp, hq, nqp, nqc, hle, k⟩ := h
    have h4 : sizeLine = 16777216 := sizeLine_eq
    have lp : (ps.map V.str).length = ps.length := List.length_map _
    refine ⟨_, (pss_cons (ps_set (i := 2) sc__law_mixed.nd rfl (by first | exact Or.inl rfl | exact Or.inr rfl) (pe_callTy call_list_of (by rfl) (T.bn _ (by decide +kernel)) (by decide +kernel) (pa_cons (pv 1) pa_nil)))
      (pss_one (ps_ret (pe_lc (own := [("_law_k", 3)]) rfl sc__law_mixed.nd (pi_range1 rfl (T.bn _ (by decide +kernel)) (pa_cons (pe_callB call_len_seq (by rfl) (T.bn _ (by decide +kernel)) (by decide +kernel) (pa_cons (pv 2) pa_nil)) pa_nil)) (blkOk_by (own := [("_law_k", 3)]) (N := N__law_mixed) (sc := defScope s__law_mixed) (by decide +kernel)) (fun _ _ _ _ _ => (pg_name (i := 3) sc__law_mixed.nd rfl (by first | exact Or.inl rfl | exact Or.inr rfl))) (fun _ _ _ _ _ => pts_nil) (fun _ _ _ _ _ => (pe_popK (K := K) rfl (pv 2) (pa_cons (pe_cal c__law_draw (hr.mono (by decide)) (by rfl) pass0 (pa_cons (pv 0) (pa_cons (pe_callB (call_lenK (K := K) rfl) (by rfl) (T.bn _ (by decide +kernel)) (by decide +kernel) (pa_cons (pv 2) pa_nil)) pa_nil))) pa_nil))))))), ?_⟩
    refine ⟨_, rfl, q, _, rfl, .inl (SqL.of hq), fun L nL => ?_⟩
    obtain ⟨npL, ncL⟩ := hp.ne nL
    have e1 : Ext H (upd H L (.lst (ps.map V.str))) := Ext.upd nL
    have f1 : (upd H L (.lst (ps.map V.str))) L = some (.lst (ps.map V.str)) := upd_same
    generalize (upd H L (.lst (ps.map V.str))) = H1 at e1 f1
    refine ⟨_, rfl, L, _, rfl, .inl (SqL.of f1), ps.length, by rw [lp], by omega, by omega, fun D hD => ?_⟩
    have hp1 := hp.ext e1
    obtain ⟨npD, ncD⟩ := hp1.ne hD
    have nLD : L ≠ D := ne_of_none f1 hD
    have hDH : H D = none := ext_free e1 hD
    refine lc_it walk_range (fun i H' => ∃ left acc : List Str, H' L = some (.lst (left.map V.str)) ∧ H' D = some (.lst (acc.map V.str)) ∧ (acc.length + left.length = ps.length) ∧ (∀ z, z ∈ acc ∨ z ∈ left → z ∈ ps) ∧ acc.length = i ∧ PenAt H' p c ∧ Keep p c H H') ?_ (fun _ _ _ _ => trivial) ?_ ?_
    · refine ⟨ps, [], by rw [upd_ne nLD]; exact f1, upd_same, by simp, fun z hz => by simpa using hz, rfl, hp1.upd npD ncD, fun b o q h1 h2 => ?_⟩
      rw [upd_ne (ne_of_none (e1 b o q) hD)]
      exact e1 b o q
    · rintro i x H3 _ hi ⟨left, acc, g1, g2, hpl, pm, hl, hp3, k03⟩ ⟨rfl, rfl⟩
      have ll : (left.map V.str).length = left.length := List.length_map _
      have hi' : i < ps.length := hi
      refine ⟨rfl, _, rfl, .inl ⟨rfl, _, SqL.of g1⟩, _, rfl, _, rfl, L, _, rfl, .inl (SqL.of g1), p, c, left.length, by rw [ll], hp3, by omega, by omega, fun u H4 u0 u1 hp4 kp4 => ?_⟩
      have g14 := kp4 L _ g1 npL.symm ncL.symm
      have g24 := kp4 D _ g2 npD.symm ncD.symm
      have hk : u.toNat < left.length := by omega
      obtain ⟨z, hz⟩ : ∃ z, left[u.toNat]? = some z := ⟨_, List.getElem?_eq_getElem hk⟩
      refine ⟨L, _, u, u.toNat, .str z, rfl, rfl, g14, by omega, by omega, seqIx u0 (by rw [ll]; exact u1), by rw [List.getElem?_map, hz]; rfl, ?_⟩
      refine ⟨acc.map V.str, by rw [upd_ne nLD.symm]; exact g24, by rw [List.length_map]; omega, left.eraseIdx u.toNat, acc ++ [z], ?_, ?_, ?_, ?_, by simp [hl], ?_, ?_⟩
      · rw [upd_ne nLD, upd_same, erase_map]
      · rw [upd_same, List.map_append]
        rfl
      · rw [List.length_append, List.length_eraseIdx, if_pos hk]
        simp
        omega
      · intro y hy
        rcases hy with hy | hy
        · rcases List.mem_append.mp hy with hy | hy
          · exact pm y (.inl hy)
          · have : y = z := by simpa using hy
            rw [this]
            exact pm z (.inr (List.mem_of_getElem? hz))
        · exact pm y (.inr (List.mem_of_mem_eraseIdx hy))
      · exact ((hp4.upd npL ncL).upd npD ncD)
      · intro b o q h1 h2
        have q3 := k03 b o q h1 h2
        rw [upd_ne (ne_of_none q hDH), upd_ne (ne_of_none q nL)]
        exact kp4 b o q3 h1 h2
    · rintro H3 ⟨left, acc, g1, g2, hpl, pm, hl, hp3, k03⟩
      exact k D acc H3 hDH npD.symm ncD.symm g2 (fun z hz => pm z (.inl hz)) (by omega) hp3 k03
end
end K71
end
section
set_option Elab.async false
set_option autoImplicit false
set_option linter.all false
set_option maxRecDepth 100000
set_option maxHeartbeats 4000000
namespace K71
open PySem PySem.Spec PyProof.Rows L2 Ls
open C8 (pss_cut tCut)
open TL
/-! ### _law_heard -/
/-- what the top says of an error class at C, over StowError's at CE; which of the three it is; the field that it keeps -/
structure ErrT (K : PySem.W.Frag) (CE CB CN CW C : Addr) (f : Str) (bb bn bw : Bool) : Prop where
  exm : PySem.W.exmOne K (.ref C) (.ref CE) = some true
  ec : ExcC K C
  ve : PySem.W.kitOne K (.ref C) (.type "ValueError") = some true
  kb : PySem.W.kitOne K (.ref C) (.ref CB) = some bb
  kn : PySem.W.kitOne K (.ref C) (.ref CN) = some bn
  kw : PySem.W.kitOne K (.ref C) (.ref CW) = some bw
  xf : XfC K C
  no : PySem.W.findIn K (.ref C) f = some none
/-- which class keeps which field, and the law's word for it -/
def Way (CB CN CW C : Addr) (f wd : Str) : Prop := (C = CB ∧ f = "value" ∧ wd = "rule") ∨ (C = CN ∧ f = "value" ∧ wd = "name") ∨ (C = CW ∧ f = "name" ∧ wd = "twice")
def HeardE (CB CN CW : Addr) (Q : VK) : XK := fun cls d H' => ∃ (C dd : Addr) (v : V) (f wd : Str), cls = .ref C ∧ d = some dd ∧ H' dd = some (.xd [(f, v)]) ∧ Way CB CN CW C f wd ∧ ∀ p H2, Ext H' H2 → nw H' H2 p = some (.tup [.str wd, v]) → Q (.ref p) H2
def HeardV (CR : Addr) (Q : VK) : VK := fun v H1 => ∃ (a : Addr) (zs ns : List Str), v = .ref a ∧ RuleAt CR H1 a zs ns ∧
  ∀ p1 p2 q H2, H1 p1 = some (.tup (zs.map V.str)) → H1 p2 = some (.tup (ns.map V.str)) → Ext H1 H2 → nw H1 H2 q = some (.tup [.str "told", .ref p1, .ref p2]) → Q (.ref q) H2
def TTh (CB CN CW CR : Addr) : (XK → Hp → VK → Prop) → Hp → VK → Prop := fun tl H Q => ∀ (E' : XK) (Q' : VK) (H0 : Hp), Ext H H0 → (∀ cls d H', HeardE CB CN CW Q cls d H' → E' cls d H') → (∀ v H1, HeardV CR Q v H1 → Q' v H1) → tl E' H0 Q'
section
variable {P : Program} {w : World} {K : PySem.W.Frag} {mg : Str → Option Value} {base : Heap} {CE CN CB CW CR : Addr} {tL tN : Tok}
abbrev s__law_heard : Stmt := top 18
abbrev N__law_heard : List Str := ["_law_ask", "_law_caught", "_law_found", "error", "_law_kinds"]
theorem sc__law_heard : FnScope N__law_heard ["_law_ask"] (defScope s__law_heard) := ⟨rfl, rfl, rfl, by decide +kernel, rfl, by decide +kernel, by decide +kernel⟩
theorem heard_gives {A : Around} {stack : List Env} {g : Addr} {cdv : Value} {q : Str} (T : Tx K mg CE CN CB CW CR tL tN) (eB : ErrT K CE CB CN CW CB "value" true false false) (eN : ErrT K CE CB CN CW CN "value" false true false) (eW : ErrT K CE CB CN CW CW "name" false false true)
    (c_words : Prp P w K mg base CX0 1 (· = CR) "words" (spWords CR)) (c_pins : Prp P w K mg base CX0 1 (· = CR) "pins" (spPins CR)) (hA : Room 3 A) :
    GivesP P w K mg base A stack N__law_heard "_law_heard" (defScope s__law_heard) g cdv (defBody s__law_heard) "_law_ask" q (TTh CB CN CW CR) := by
  intro f c' s H Q tl act hc h
  have hr : Room 2 (A.deeper (envOfC "_law_heard" (defScope s__law_heard) s.heap.objs.size g cdv)) := hA.deeper _
  refine ⟨_, (pss_cons (ps_asg (pe_tup (pa_cons pe_non (pa_cons pe_non pa_nil))) (pg_tup rfl (pgs_cons (pg_name (i := 1) sc__law_heard.nd rfl (by first | exact Or.inl rfl | exact Or.inr rfl)) (pgs_cons (pg_name (i := 2) sc__law_heard.nd rfl (by first | exact Or.inl rfl | exact Or.inr rfl)) pgs_nil))))
      (pss_cons (ps_try_ask (i := 3) rfl rfl sc__law_heard.nd rfl rfl ⟨by rfl, by decide, .inl T.m_StowError⟩ LamX.takes0 rfl (fun W pn xe tk _ => (pss_one (ps_set (i := 2) sc__law_heard.nd rfl (by first | exact Or.inl rfl | exact Or.inr rfl) (act W pn xe _ _ tk))))
      (fun a pn => (pss_one (ps_set (i := 1) sc__law_heard.nd rfl (by first | exact Or.inl rfl | exact Or.inr rfl) (pv 3)))))
      (pss_cons (ps_if (pt_cmpR op_isN (pv 1) pe_non (nomark _)) (pss_one (ps_ret (pe_tup (pa_cons pe_str (pa_cons ((pe_prp c_words (hr.mono (by decide)) pass0) (pv 2)) (pa_cons ((pe_prp c_pins (hr.mono (by decide)) pass0) (pv 2)) pa_nil)))))) pss_nil)
      (pss_cons (ps_set (i := 4) sc__law_heard.nd rfl (by first | exact Or.inl rfl | exact Or.inr rfl) (pe_lst (pa_cons (pe_callB call_isX (by rfl) (T.bn _ (by decide +kernel)) (by decide +kernel) (pa_cons (pv 1) (pa_cons (pe_gref (by rfl) T.m_BadRule) pa_nil))) (pa_cons (pe_callB call_isX (by rfl) (T.bn _ (by decide +kernel)) (by decide +kernel) (pa_cons (pv 1) (pa_cons (pe_gref (by rfl) T.m_BadName) pa_nil))) (pa_cons (pe_callB call_isX (by rfl) (T.bn _ (by decide +kernel)) (by decide +kernel) (pa_cons (pv 1) (pa_cons (pe_gref (by rfl) T.m_Twice) pa_nil))) pa_nil)))))
      (pss_cons (ps_if ((pw_or (pt_cmpR op_ne (pe_bm PySem.F.plainAttrs_list PySem.F.slot_list_count PySem.F.type_list_count mt_countF (pv 4) (pa_cons pe_bl pa_nil)) pe_int (nomark _)) (pw_or1 (pt_not (pt_val (pe_callB call_isX (by rfl) (T.bn _ (by decide +kernel)) (by decide +kernel) (pa_cons (pv 1) (pa_cons (pe_gty (T := "ValueError") (by rfl) (T.bn _ (by decide +kernel)) (by decide +kernel)) pa_nil)))))))).pt (pss_one (ps_ret (pe_tup (pa_cons pe_str pa_nil)))) pss_nil)
      (pss_cons (ps_if (pt_val (pe_ix ix_list (pv 4) pe_int (fun _ _ => rfl))) (pss_one (ps_ret (pe_tup (pa_cons pe_str (pa_cons (pe_xk (pv 1)) pa_nil))))) pss_nil)
      (pss_one (ps_ret (pe_ifExp (pt_val (pe_ix ix_list (pv 4) pe_int (fun _ _ => rfl))) (pe_tup (pa_cons pe_str (pa_cons (pe_xk (pv 1)) pa_nil))) (pe_tup (pa_cons pe_str (pa_cons (pe_xk (pv 1)) pa_nil)))))))))))), ?_⟩
  refine ⟨(by show 2 ≤ sizeLine; decide), fun tp np => ?_⟩
  have e0 : Ext H (upd H tp (.tup [.non, .non])) := Ext.upd np
  have f0 : (upd H tp (.tup [.non, .non])) tp = some (.tup [.non, .non]) := upd_same
  generalize (upd H tp (.tup [.non, .non])) = H0 at e0 f0
  refine ⟨tp, _, rfl, SqT.of f0, rfl, _, _, rfl, _, _, rfl, rfl, ?_⟩
  refine ⟨rfl, e0 _ _ hc, h _ _ _ e0 (fun cls d H' he => ?_) (fun v H1 hv => ?_)⟩
  · obtain ⟨C, dd, v, fl, wd, rfl, rfl, hdd, hC, k⟩ := he
    have eC : PySem.W.exmOne K (.ref C) (.ref CE) = some true := by
      rcases hC with ⟨rfl, _⟩ | ⟨rfl, _⟩ | ⟨rfl, _⟩
      · exact eB.exm
      · exact eN.exm
      · exact eW.exm
    refine ⟨true, eC, fun _ a ha => ?_, fun z => nomatch z⟩
    have hd1 : (upd H' a (exk a (.ref C) (some dd))) dd = some (.xd [(fl, v)]) := by rw [upd_ne (ne_of_none hdd ha)]; exact hdd
    have ha1 : (upd H' a (exk a (.ref C) (some dd))) a = some (exk a (.ref C) (some dd)) := upd_same
    have e1 : Ext H' (upd H' a (exk a (.ref C) (some dd))) := Ext.upd ha
    generalize (upd H' a (exk a (.ref C) (some dd))) = H1 at hd1 ha1 e1
    have xd : ∀ d', some dd = some d' → ∃ fs, H1 d' = some (.xd fs) := fun d' z => by
      cases z
      exact ⟨_, hd1⟩
    refine ⟨_, rfl, ?_⟩
    refine ⟨_, rfl, rfl, _, rfl, ?_⟩
    refine iteNo (decide_eq_false (by intro z; cases z)) ?_
    obtain ⟨b0, b1, b2, eK, hb⟩ : ∃ b0 b1 b2, ErrT K CE CB CN CW C fl b0 b1 b2 ∧ ((b0, b1, b2) = (true, false, false) ∧ fl = "value" ∧ wd = "rule" ∨ (b0, b1, b2) = (false, true, false) ∧ fl = "value" ∧ wd = "name" ∨ (b0, b1, b2) = (false, false, true) ∧ fl = "name" ∧ wd = "twice") := by
      rcases hC with ⟨rfl, rfl, rfl⟩ | ⟨rfl, rfl, rfl⟩ | ⟨rfl, rfl, rfl⟩
      · exact ⟨_, _, _, eB, .inl ⟨rfl, rfl, rfl⟩⟩
      · exact ⟨_, _, _, eN, .inr (.inl ⟨rfl, rfl, rfl⟩)⟩
      · exact ⟨_, _, _, eW, .inr (.inr ⟨rfl, rfl, rfl⟩)⟩
    refine ⟨_, rfl, a, _, _, _, _, b0, rfl, ha1, eK.ec, xd, fun u r => r, eK.kb, _, rfl, a, _, _, _, _, b1, rfl, ha1, eK.ec, xd, fun u r => r, eK.kn, _, rfl, a, _, _, _, _, b2, rfl, ha1, eK.ec, xd, fun u r => r, eK.kw, (by show 3 ≤ sizeLine; decide), fun kl nk => ?_⟩
    have e2 : Ext H1 (upd H1 kl (.lst [.bl b0, .bl b1, .bl b2])) := Ext.upd nk
    have f2 : (upd H1 kl (.lst [.bl b0, .bl b1, .bl b2])) kl = some (.lst [.bl b0, .bl b1, .bl b2]) := upd_same
    generalize (upd H1 kl (.lst [.bl b0, .bl b1, .bl b2])) = H2 at e2 f2
    have ha2 := e2 _ _ ha1
    have hd2 := e2 _ _ hd1
    have xd2 : ∀ d', some dd = some d' → ∃ fs, H2 d' = some (.xd fs) := fun d' z => by
      cases z
      exact ⟨_, hd2⟩
    have last : ∀ p, H2 p = none → Q (.ref p) (upd H2 p (.tup [.str wd, v])) := fun p hp => k p _ (e1.trans (e2.trans (Ext.upd hp))) (by rw [nw_at (ext_free (e1.trans e2) hp)]; exact upd_same)
    refine ⟨_, rfl, .inl ⟨rfl, _, SqL.of f2⟩, kl, _, _, rfl, rfl, SqL.of f2, rfl, rfl, rfl, _, rfl, ?_⟩
    rcases hb with ⟨hb, rfl, rfl⟩ | ⟨hb, rfl, rfl⟩ | ⟨hb, rfl, rfl⟩
    all_goals
      cases hb
      refine iteNo (by rfl) ?_
      refine ⟨_, rfl, a, _, _, _, _, true, rfl, ha2, eK.ec, xd2, fun u r => r, eK.ve, _, rfl, ?_⟩
      refine iteF ?_
      refine ⟨_, rfl, kl, _, 0, .bl _, rfl, rfl, SqL.of f2, atI_nat (j := 0) rfl, _, rfl, ?_⟩
    · refine iteT ?_
      exact ⟨_, rfl, a, _, dd, _, v, rfl, ha2, eK.xf, eK.no, hd2, rfl, (by show 2 ≤ sizeLine; decide), last⟩
    all_goals
      refine iteF ?_
      refine ⟨_, rfl, kl, _, 1, .bl _, rfl, rfl, SqL.of f2, atI_nat (j := 1) rfl, _, rfl, ?_⟩
    · refine iteT ?_
      exact ⟨_, rfl, a, _, dd, _, v, rfl, ha2, eK.xf, eK.no, hd2, rfl, (by show 2 ≤ sizeLine; decide), last⟩
    · refine iteF ?_
      exact ⟨_, rfl, a, _, dd, _, v, rfl, ha2, eK.xf, eK.no, hd2, rfl, (by show 2 ≤ sizeLine; decide), last⟩
  · obtain ⟨a, zs, ns, rfl, hr1, k⟩ := hv
    obtain ⟨dx, p, t, h1, h2, h3⟩ := hr1.ex
    refine ⟨_, rfl, rfl, _, rfl, ?_⟩
    refine iteYes (decide_eq_true rfl) ?_
    refine ⟨_, rfl, a, CR, dx, _, rfl, h1, rfl, a, zs, ns, rfl, hr1, fun p1 q1 => ?_⟩
    refine ⟨_, rfl, a, CR, dx, _, rfl, h1, rfl, a, zs, ns, rfl, hr1, fun p2 q2 => ?_⟩
    exact ⟨(by show 3 ≤ sizeLine; decide), fun q nq => k p1 p2 q _ q1 q2 (Ext.upd nq) (by rw [nw_at nq]; exact upd_same)⟩
end
end K71
end
section
set_option Elab.async false
set_option autoImplicit false
set_option linter.all false
set_option maxRecDepth 100000
set_option maxHeartbeats 4000000
namespace K71
open PySem PySem.Spec PyProof.Rows L2 Ls
open C8 (pss_cut tCut)
open TL
def fltD : Flt → PyData
  | .rule d => .tuple [.str "rule", d]
  | .name d => .tuple [.str "name", d]
  | .twice z => .tuple [.str "twice", .str z]
def dueD (es ds : List PyData) : PyData := match ruleF es ds with
  | some f => fltD f
  | none => .tuple [.str "told", .tuple es, .tuple ds]
theorem dueD_some {es ds : List PyData} {f : Flt} (h : ruleF es ds = some f) : dueD es ds = fltD f := by unfold dueD; rw [h]
theorem dueD_none {es ds : List PyData} (h : ruleF es ds = none) : dueD es ds = .tuple [.str "told", .tuple es, .tuple ds] := by unfold dueD; rw [h]
theorem eqv_any (d : PyData) : ∀ us : List Str, ((us.map PyData.str).any fun z => PyData.eqv z d) = match d with | .str z => decide (z ∈ us) | _ => false
  | [] => by cases d <;> rfl
  | u :: r => by
    have ih := eqv_any d r
    rw [List.map_cons, List.any_cons, ih]
    cases d with
    | str z =>
      show ((u == z) || decide (z ∈ r)) = decide (z ∈ u :: r)
      by_cases h : z = u
      · subst h
        simp
      · rw [show (u == z) = false from beq_eq_false_iff_ne.mpr fun e => h e.symm]
        simp [h]
    | _ => rfl
theorem any_words (d : PyData) : ((ruleWords.map PyData.str).any fun z => PyData.eqv z d) = (wdOf d).isSome := by
  rw [eqv_any]
  cases d with
  | str z =>
    show decide (z ∈ ruleWords) = (if z ∈ ruleWords then some z else none).isSome
    by_cases h : z ∈ ruleWords
    · rw [decide_eq_true h, if_pos h]; rfl
    · rw [decide_eq_false h, if_neg h]; rfl
  | _ => rfl
theorem cut_to0 (xs : List V) (i : Nat) : cutV xs none (some (i : Int)) = xs.take i := by
  unfold cutV
  rw [HT.sIx_none, HT.sIx_nat, List.drop_zero, Nat.sub_zero]
  by_cases h : i ≤ xs.length
  · rw [Nat.min_eq_left h]
  · rw [Nat.min_eq_right (by omega), List.take_length, List.take_of_length_le (by omega)]
section
variable {P : Program} {w : World} {K : PySem.W.Frag} {mg : Str → Option Value} {base : Heap} {CE CN CB CW CR : Addr} {tL tN : Tok}
/-! ### _law_due -/
def spDue : Sp := fun vs H Q _ => ∃ (l1 l2 : Addr) (ys xs : List V) (es ds : List PyData), vs = [.ref l1, .ref l2] ∧ H l1 = some (.lst ys) ∧ H l2 = some (.lst xs) ∧ ArgsAt H ys es ∧ ArgsAt H xs ds ∧ (∀ d ∈ es, d.canLay0 = true) ∧
  ∀ v H', Ext H H' → TV H' v (dueD es ds) → Q v H'
abbrev s__law_due : Stmt := top 19
abbrev N__law_due : List Str := ["_law_words", "_law_tight", "_law_at", "_law_word", "_law_letters", "_law_title", "_law_one"]
theorem sc__law_due : FnScope N__law_due ["_law_words", "_law_tight"] (defScope s__law_due) := ⟨rfl, rfl, rfl, by decide +kernel, rfl, by decide +kernel, by decide +kernel⟩
theorem ok_due {f : Addr} {fd : FuncData} (F : Fun K "_law_due" "_law_due" s__law_due f fd) (T : Tx K mg CE CN CB CW CR tL tN) (hsys : (base.get? sysModules).isSome = true) : FnOk P w K mg base CX0 1 f fd ["_law_words", "_law_tight"] spDue := by
  refine F.ok sc__law_due (fun vs H Q E h => ?_) (fun cdv A outer s H vs Q E hr h => ?_)
  · obtain ⟨l1, l2, ys, xs, es, ds, rfl, _⟩ := h
    rfl
  · obtain ⟨l1, l2, ys, xs, es, ds, rfl, hl1, hl2, he, ha, hcl, k⟩ := h
    have h4 : sizeLine = 16777216 := sizeLine_eq
    have hlne := he.ln
    have hlnd := ha.ln
    have hlene := he.tv.len
    have hlend := ha.tv.len
    refine ⟨_, (pss_cons (ps_if (pt_cmpR (op_eqNil hr) (pv 0) (pe_lst pa_nil) (nomark _)) (pss_one (ps_ret (pe_tup (pa_cons pe_str (pa_cons pe_non pa_nil))))) pss_nil)
      (pss_cons (ps_for PassesOwn.never rfl (pi_enum (by rfl) (T.bn _ (by decide +kernel)) (pa_cons (pv 0) pa_nil)) (pg_tup rfl (pgs_cons (pg_name (i := 2) sc__law_due.nd rfl (by first | exact Or.inl rfl | exact Or.inr rfl)) (pgs_cons (pg_name (i := 3) sc__law_due.nd rfl (by first | exact Or.inl rfl | exact Or.inr rfl)) pgs_nil)))
      (pss_one (ps_if ((pw_or (pt_cmpR (op_notInTV hsys hr) (pv 3) (pe_tup (pa_cons pe_str (pa_cons pe_str (pa_cons pe_str (pa_cons pe_str (pa_cons pe_str pa_nil)))))) rfl) (pw_or1 (pt_cmpR op_in_seq (pv 3) (pe_slice sl_list (pv 0) po_none (po_some (pv 2))) rfl)))).pt (pss_one (ps_ret (pe_tup (pa_cons pe_str (pa_cons (pv 3) pa_nil))))) pss_nil)))
      (pss_cons (ps_set (i := 4) sc__law_due.nd rfl (by first | exact Or.inl rfl | exact Or.inr rfl) pe_str)
      (pss_cons (ps_for PassesOwn.never rfl (pi_list (pv 1)) (pg_name (i := 5) sc__law_due.nd rfl (by first | exact Or.inl rfl | exact Or.inr rfl))
      (pss_one (ps_if ((pw_or (pt_not (pt_val (pe_callB call_isi (by rfl) (T.bn _ (by decide +kernel)) (by decide +kernel) (pa_cons (pv 5) (pa_cons (pe_gty (T := "str") (by rfl) (T.bn _ (by decide +kernel)) (by decide +kernel)) pa_nil))))) (pw_or (pt_not (pt_chain op_le op_le pe_int (pe_callB call_len_str (by rfl) (T.bn _ (by decide +kernel)) (by decide +kernel) (pa_cons (pv 5) pa_nil)) pe_int)) (pw_or1 (pt_cmpR (op_neNil hr) (pe_lc (own := [("_law_one", 6)]) rfl sc__law_due.nd (pi_str (pv 5)) (blkOk_by (own := [("_law_one", 6)]) (N := N__law_due) (sc := defScope s__law_due) (by decide +kernel)) (fun _ _ _ _ _ => (pg_name (i := 6) sc__law_due.nd rfl (by first | exact Or.inl rfl | exact Or.inr rfl))) (fun _ _ _ _ _ => pts_one (pt_cmpR op_notIn_sign (pv 6) (pv 4) rfl)) (fun _ _ _ _ _ => (pv 6))) (pe_lst pa_nil) (nomark _)))))).pt (pss_one (ps_ret (pe_tup (pa_cons pe_str (pa_cons (pv 5) pa_nil))))) pss_nil)))
      (pss_cons (ps_for PassesOwn.never rfl (pi_enum (by rfl) (T.bn _ (by decide +kernel)) (pa_cons (pv 1) pa_nil)) (pg_tup rfl (pgs_cons (pg_name (i := 2) sc__law_due.nd rfl (by first | exact Or.inl rfl | exact Or.inr rfl)) (pgs_cons (pg_name (i := 5) sc__law_due.nd rfl (by first | exact Or.inl rfl | exact Or.inr rfl)) pgs_nil)))
      (pss_one (ps_if (pt_cmpR op_in_seq (pv 5) (pe_slice sl_list (pv 1) po_none (po_some (pv 2))) rfl) (pss_one (ps_ret (pe_tup (pa_cons pe_str (pa_cons (pv 5) pa_nil))))) pss_nil)))
      (pss_one (ps_ret (pe_tup (pa_cons pe_str (pa_cons (pe_callTy call_tuple_of (by rfl) (T.bn _ (by decide +kernel)) (by decide +kernel) (pa_cons (pv 0) pa_nil)) (pa_cons (pe_callTy call_tuple_of (by rfl) (T.bn _ (by decide +kernel)) (by decide +kernel) (pa_cons (pv 1) pa_nil)) pa_nil))))))))))), ?_⟩
    refine ⟨_, rfl, (by show 0 ≤ sizeLine; decide), fun L nL => ?_⟩
    have eL : Ext H (upd H L (.lst [])) := Ext.upd nL
    have fL : (upd H L (.lst [])) L = some (.lst []) := upd_same
    generalize (upd H L (.lst [])) = H0 at eL fL
    refine ⟨l1, L, ys, rfl, rfl, eL _ _ hl1, fL, _, rfl, ?_⟩
    have ret2 : ∀ {H1 : Hp} {f : Flt} {wd : Str} {v : V} {d : PyData}, Ext H H1 → ruleF es ds = some f → fltD f = .tuple [.str wd, d] → TV H1 v d → ∀ t, H1 t = none → Q (.ref t) (upd H1 t (.tup [.str wd, v])) := fun {H1 f wd v d} e hf hw hv t nt =>
      k _ _ (e.trans (Ext.upd nt)) (by rw [dueD_some hf, hw]; exact .tup upd_same (.cons (.str _) (.cons (hv.ext (Ext.upd nt)) .nil)))
    by_cases h0 : es = []
    · have hy0 : ys = [] := List.eq_nil_of_length_eq_zero (by rw [hlene, h0]; rfl)
      refine iteYes (by rw [hy0]; rfl) ?_
      exact ⟨(by show 2 ≤ sizeLine; decide), ret2 (f := .rule .none) eL (by unfold ruleF; rw [if_pos h0]) rfl .non⟩
    have hy0 : ys ≠ [] := fun z => h0 (List.eq_nil_of_length_eq_zero (by rw [← hlene, z]; rfl))
    have eF : ruleF es ds = match badW [] es with | some d => some (.rule d) | none => pinF ds := by unfold ruleF; exact if_neg h0
    refine iteNo (by cases ys with | nil => exact absurd rfl hy0 | cons a b => rfl) ?_
    refine ⟨_, rfl, l1, ys, rfl, SqL.of (eL _ _ hl1), for_it (walk_enum (xs := ys)) (fun i σ H' => ∃ (x2 x3 x4 x5 x6 : Option V) (zs : List Str), σ = [some (.ref l1), some (.ref l2), x2, x3, x4, x5, x6] ∧ Ext H H' ∧ zs.length = i ∧ ys.take i = zs.map V.str ∧ badW [] es = badW zs (es.drop i)) ⟨_, _, _, _, _, [], rfl, eL, rfl, rfl, rfl⟩ (fun i σ H' _ ⟨_, _, _, _, _, _, _, e, _⟩ => SqL.of (e _ _ hl1)) ?_ ?_⟩
    · rintro i y σ H1 _ hi ⟨x2, x3, x4, x5, x6, zs, rfl, e1, hzl, htk, ib⟩ ⟨Tq, y1, v, rfl, nT, rfl, hy1, hy2⟩
      cases hy1
      have hi' : i < ys.length := hi
      have hy2 : ys[i]? = some v := hy2
      obtain ⟨d, hd, hv, sm⟩ := (he.ext e1).at_ hy2
      have hdr : es.drop i = d :: es.drop (i + 1) := by
        obtain ⟨h1, h2⟩ := List.getElem?_eq_some_iff.mp hd
        rw [List.drop_eq_getElem_cons h1, h2]
      have eT : Ext H1 (upd H1 Tq (.tup [.int (i : Nat), v])) := Ext.upd nT
      have uT : (upd H1 Tq (.tup [.int (i : Nat), v])) Tq = some (.tup [.int (i : Nat), v]) := upd_same
      generalize (upd H1 Tq (.tup [.int (i : Nat), v])) = H2 at eT uT
      have e2 := e1.trans eT
      refine ⟨Tq, _, rfl, SqT.of uT, rfl, _, _, rfl, _, _, rfl, rfl, ?_⟩
      refine ⟨_, rfl, (by show 5 ≤ sizeLine; decide), fun W nW => ?_⟩
      have e3 : Ext H2 (upd H2 W (.tup (ruleWords.map V.str))) := Ext.upd nW
      have uW : (upd H2 W (.tup (ruleWords.map V.str))) W = some (.tup (ruleWords.map V.str)) := upd_same
      change rInTV true v (.ref W) (upd H2 W (.tup (ruleWords.map V.str))) _
      generalize (upd H2 W (.tup (ruleWords.map V.str))) = H3 at e3 uW
      have hv3 := hv.ext (eT.trans e3)
      refine ⟨d, _, hv3, .tup uW (tvs_strs _), lay_strs _ (fun z hz => word_sok hz), hcl d (List.mem_of_getElem? hd), Nat.le_trans (depth_strs _) (by decide), _, rfl, ?_⟩
      rw [any_words]
      cases hw : wdOf d with
      | none =>
        refine iteYes rfl ?_
        exact ⟨_, rfl, (by show 2 ≤ sizeLine; decide), ret2 (f := .rule d) (e2.trans e3) (by rw [eF, ib, hdr, badW_no hw]) rfl hv3⟩
      | some z =>
        obtain ⟨rfl, hz⟩ := wdOf_some hw
        cases tv_str hv
        refine iteNo rfl ?_
        have hb := badW_yes (seen := zs) (r := es.drop (i + 1)) (wdOf_in hz)
        refine ⟨_, rfl, _, rfl, _, rfl, _, rfl, l1, ys, rfl, SqL.of ((e2.trans e3) _ _ hl1), fun c nc => ?_⟩
        rw [cut_to0, htk]
        refine ⟨c, _, rfl, .inl (SqL.of upd_same), rfl, flat_strs _, _, rfl, ?_⟩
        have e4 : Ext H3 (upd H3 c (.lst (zs.map V.str))) := Ext.upd nc
        rw [inV_strs]
        by_cases hm : z ∈ zs
        · refine iteYes (decide_eq_true hm) ?_
          exact ⟨_, rfl, (by show 2 ≤ sizeLine; decide), ret2 (f := .rule (.str z)) (e2.trans (e3.trans e4)) (by rw [eF, ib, hdr, hb, if_pos hm]) rfl (.str z)⟩
        · refine iteNo (decide_eq_false hm) ?_
          refine ⟨_, _, _, _, _, zs ++ [z], rfl, e2.trans (e3.trans e4), by simp [hzl], ?_, ?_⟩
          · rw [List.take_add_one, htk, hy2]
            simp
          · rw [ib, hdr, hb, if_neg hm]
    · rintro σ H1 ⟨x2, x3, x4, x5, x6, zs, rfl, e1, hzl, htk, ib⟩
      have hb : badW [] es = none := by
        rw [ib, List.drop_of_length_le (by omega)]
        rfl
      rw [hb] at eF
      have eF : ruleF es ds = pinF ds := eF
      refine ⟨_, rfl, l2, rfl, ⟨_, SqL.of (e1 _ _ hl2)⟩, for_it (walk_list (xs := xs)) (fun i σ H' => ∃ (x2 x3 x5 x6 : Option V), σ = [some (.ref l1), some (.ref l2), x2, x3, some (.str lettersS), x5, x6] ∧ Ext H H' ∧ ∀ (j : Nat) d, j < i → ds[j]? = some d → nameOf d ≠ none) ⟨_, _, _, _, rfl, e1, fun j d h => absurd h (by omega)⟩ (fun i σ H' _ ⟨_, _, _, _, _, e, _⟩ => SqL.of (e _ _ hl2)) ?_ ?_⟩
      · rintro i x σ _ H2 hi ⟨x2, x3, x5, x6, rfl, e2, ih⟩ ⟨rfl, hx⟩
        obtain ⟨d, hd, hv, sm⟩ := (ha.ext e2).at_ hx
        have bad : ∀ {H3 : Hp}, Ext H2 H3 → nameOf d = none → ∀ t, H3 t = none → Q (.ref t) (upd H3 t (.tup [.str "name", x])) := fun {H3} e3 hn =>
          ret2 (f := .name d) (e2.trans e3) (by rw [eF]; exact pinF_bad (bad_at ih hd hn)) rfl (hv.ext e3)
        have good : nameOf d ≠ none → ∀ (j : Nat) d', j < i + 1 → ds[j]? = some d' → nameOf d' ≠ none := fun hn j d' hj hd' => by
          by_cases h : j < i
          · exact ih j d' h hd'
          · have : j = i := by omega
            subst this
            rw [hd] at hd'
            cases hd'
            exact hn
        refine ⟨_, rfl, _, _, _, _, isStrD d, rfl, .ty "str", tyX_of hv, kit_str d, _, rfl, ?_⟩
        cases hs : isStrD d with
        | false =>
          refine iteT ?_
          exact ⟨_, rfl, (by show 2 ≤ sizeLine; decide), bad Ext.rfl' (by cases d <;> first | rfl | cases hs)⟩
        | true =>
          obtain ⟨z, rfl⟩ := strD hs
          cases tv_str hv
          have hz : z.length ≤ 1000 := sm z rfl
          have hzl2 : z.length ≤ sizeLine := Nat.le_of_lt (small1000 hz)
          refine iteF ?_
          refine ⟨_, rfl, z, rfl, hzl2, _, _, rfl, rfl, ?_⟩
          have eN : isName z = false → nameOf (.str z) = none := nameOf_no
          by_cases h1 : 1 ≤ z.length
          case neg =>
            refine ⟨false, by simp; omega, ?_⟩
            refine iteF ?_
            refine ⟨false, rfl, ?_⟩
            refine iteT ?_
            exact ⟨_, rfl, (by show 2 ≤ sizeLine; decide), bad Ext.rfl' (eN (by unfold isName; rw [decide_eq_false h1]; rfl))⟩
          refine ⟨true, by simp; omega, ?_⟩
          refine iteT ?_
          refine ⟨_, _, rfl, rfl, ?_⟩
          by_cases h6 : z.length ≤ 6
          case neg =>
            refine ⟨false, by simp; omega, ?_⟩
            refine iteT ?_
            exact ⟨_, rfl, (by show 2 ≤ sizeLine; decide), bad Ext.rfl' (eN (by unfold isName; rw [decide_eq_false h6, Bool.false_and, Bool.and_false]))⟩
          refine ⟨true, by simp; omega, ?_⟩
          refine iteF ?_
          refine ⟨_, rfl, z, rfl, fun D hD => ?_⟩
          refine lc_it walk_str (fun i Hx => ∃ ys : List V, Hx = upd H2 D (.lst ys) ∧ ys.length ≤ i ∧ ys.isEmpty = ((tl z).take i).all fun c => decide (c ∈ tl lettersS)) ⟨[], rfl, Nat.le_refl _, by simp⟩ (fun _ _ _ _ => trivial) ?_ ?_
          · rintro i x Hx H' hi ⟨ys, rfl, hl, he⟩ ⟨rfl, c, hc, rfl⟩
            have hc' : (tl z)[i]? = some c := by rw [← hc]; simp [tl]
            have hz6 : i < 6 := by have : z.length = z.cps.size := rfl; omega
            have et : ((tl z).take (i + 1)).all (fun c => decide (c ∈ tl lettersS)) = (((tl z).take i).all (fun c => decide (c ∈ tl lettersS)) && decide (c ∈ tl lettersS)) := by
              rw [List.take_add_one, hc', List.all_append]
              simp
            refine ⟨rfl, _, rfl, _, rfl, c, _, rfl, rfl, _, rfl, ?_⟩
            by_cases hm : c ∈ tl lettersS
            · refine iteNo (by show (!decide (c ∈ tl lettersS)) = false; rw [decide_eq_true hm]; rfl) ?_
              exact ⟨ys, rfl, by omega, by rw [et, ← he, decide_eq_true hm, Bool.and_true]⟩
            · refine iteYes (by show (!decide (c ∈ tl lettersS)) = true; rw [decide_eq_false hm]; rfl) ?_
              refine ⟨_, rfl, ys, upd_same, Nat.lt_of_le_of_lt (show ys.length ≤ 6 by omega) (by decide), ys ++ [.str ⟨#[c]⟩], by rw [upd_upd], by rw [List.length_append]; simp; omega, ?_⟩
              rw [et, decide_eq_false hm, Bool.and_false]
              simp
          · rintro Hx ⟨vs, rfl, hl, he⟩
            have en : isName z = vs.isEmpty := by
              have hz' : z.cps.size = (tl z).length := by simp [tl]
              unfold isName
              rw [decide_eq_true h1, decide_eq_true h6, Bool.true_and, Bool.true_and, he, hz', List.take_length]
            refine ⟨(by show 0 ≤ sizeLine; decide), fun l hl => ⟨D, l, vs, rfl, rfl, ?_, upd_same, ?_⟩⟩
            · rw [upd_ne (ne_of_none upd_same hl)]
              exact upd_same
            have e3 : Ext H2 (upd (upd H2 D (.lst vs)) l (.lst [])) := (Ext.upd hD).trans (Ext.upd hl)
            cases hb2 : vs.isEmpty with
            | false =>
              refine ⟨_, rfl, iteT ?_⟩
              exact ⟨_, rfl, (by show 2 ≤ sizeLine; decide), bad e3 (eN (by rw [en, hb2]))⟩
            | true =>
              refine ⟨_, rfl, iteF ?_⟩
              exact ⟨_, _, _, _, rfl, e2.trans e3, good (by rw [nameOf_str (by rw [en, hb2])]; simp)⟩
      · rintro σ H2 ⟨x2, x3, x5, x6, rfl, e2, ih⟩
        have hbn : badOf ds = none := bad_all fun j d hd => ih j d (by have := (List.getElem?_eq_some_iff.mp hd).1; omega) hd
        have hxs := ha.names hbn
        generalize hzs : namesOf ds = ns at hxs
        have hxl : xs.length = ns.length := by rw [hxs, List.length_map]
        refine ⟨_, rfl, l2, xs, rfl, SqL.of (e2 _ _ hl2), for_it (walk_enum (xs := xs)) (fun i σ H' => ∃ (x2 x3 x5 x6 : Option V), σ = [some (.ref l1), some (.ref l2), x2, x3, some (.str lettersS), x5, x6] ∧ Ext H H' ∧ twi [] ns = twi (ns.take i) (ns.drop i)) ⟨_, _, _, _, rfl, e2, by simp⟩ (fun i σ H' _ ⟨_, _, _, _, _, e, _⟩ => SqL.of (e _ _ hl2)) ?_ ?_⟩
        · rintro i y σ H3 _ hi ⟨x2, x3, x5, x6, rfl, e3, it⟩ ⟨Tq, y1, v, rfl, nT, rfl, hy1, hy2⟩
          cases hy1
          have hi' : i < xs.length := hi
          have hy2 : xs[i]? = some v := hy2
          obtain ⟨z, hz, rfl⟩ : ∃ z, ns[i]? = some z ∧ v = .str z := by
            rw [hxs, List.getElem?_map] at hy2
            obtain ⟨z, h1, h2⟩ := Option.map_eq_some_iff.mp hy2
            exact ⟨z, h1, h2.symm⟩
          have hdr : ns.drop i = z :: ns.drop (i + 1) := by
            obtain ⟨h1, h2⟩ := List.getElem?_eq_some_iff.mp hz
            rw [List.drop_eq_getElem_cons h1, h2]
          have hst : twi (ns.take i) (ns.drop i) = if z ∈ ns.take i then some z else twi (ns.take i ++ [z]) (ns.drop (i + 1)) := by rw [hdr]; rfl
          have eT : Ext H3 (upd H3 Tq (.tup [.int (i : Nat), .str z])) := Ext.upd nT
          have uT : (upd H3 Tq (.tup [.int (i : Nat), .str z])) Tq = some (.tup [.int (i : Nat), .str z]) := upd_same
          generalize (upd H3 Tq (.tup [.int (i : Nat), .str z])) = H4 at eT uT
          have e4 := e3.trans eT
          refine ⟨Tq, _, rfl, SqT.of uT, rfl, _, _, rfl, _, _, rfl, rfl, ?_⟩
          refine ⟨_, rfl, _, rfl, _, rfl, _, rfl, l2, xs, rfl, SqL.of (e4 _ _ hl2), fun c nc => ?_⟩
          rw [cut_to0]
          have htk : xs.take i = (ns.take i).map V.str := by rw [hxs, List.map_take]
          rw [htk]
          refine ⟨c, _, rfl, .inl (SqL.of upd_same), rfl, flat_strs _, _, rfl, ?_⟩
          have e5 : Ext H4 (upd H4 c (.lst ((ns.take i).map V.str))) := Ext.upd nc
          rw [inV_strs]
          by_cases hm : z ∈ ns.take i
          · refine iteYes (decide_eq_true hm) ?_
            exact ⟨_, rfl, (by show 2 ≤ sizeLine; decide), ret2 (f := .twice z) (e4.trans e5) (by rw [eF]; exact pinF_two hbn (by rw [hzs, it, hst, if_pos hm])) rfl (.str z)⟩
          · refine iteNo (decide_eq_false hm) ?_
            refine ⟨_, _, _, _, rfl, e4.trans e5, ?_⟩
            rw [it, hst, if_neg hm, List.take_add_one, hz]
            rfl
        · rintro σ H3 ⟨x2, x3, x5, x6, rfl, e3, it⟩
          have ht : twi [] ns = none := by
            rw [it, List.drop_of_length_le (by omega)]
            rfl
          have hn : ruleF es ds = none := by rw [eF]; exact pinF_ok hbn (by rw [hzs]; exact ht)
          refine ⟨_, rfl, l1, ys, rfl, .inl ⟨SqL.of (e3 _ _ hl1), fun t1 n1 => ?_⟩⟩
          have e4 : Ext H3 (upd H3 t1 (.tup ys)) := Ext.upd n1
          have u4 : (upd H3 t1 (.tup ys)) t1 = some (.tup ys) := upd_same
          generalize (upd H3 t1 (.tup ys)) = H4 at e4 u4
          refine ⟨_, rfl, l2, xs, rfl, .inl ⟨SqL.of ((e3.trans e4) _ _ hl2), fun t2 n2 => ?_⟩⟩
          have e5 : Ext H4 (upd H4 t2 (.tup xs)) := Ext.upd n2
          have u5 : (upd H4 t2 (.tup xs)) t2 = some (.tup xs) := upd_same
          generalize (upd H4 t2 (.tup xs)) = H5 at e5 u5
          refine ⟨(by show 3 ≤ sizeLine; decide), fun t nt => k _ _ ((e3.trans (e4.trans e5)).trans (Ext.upd nt)) ?_⟩
          rw [dueD_none hn]
          have e6 : Ext H5 (upd H5 t (.tup [.str "told", .ref t1, .ref t2])) := Ext.upd nt
          have e06 := e3.trans (e4.trans (e5.trans e6))
          exact .tup upd_same (.cons (.str _) (.cons (.tup (e6 _ _ (e5 _ _ u4)) (he.tv.ext e06)) (.cons (.tup (e6 _ _ u5) (ha.tv.ext e06)) .nil)))
end
end K71
end
section
set_option Elab.async false
set_option autoImplicit false
set_option linter.all false
set_option maxRecDepth 100000
set_option maxHeartbeats 4000000
namespace K71
open PySem PySem.Spec PyProof.Rows L2 Ls
open C8 (pss_cut tCut)
open TL
abbrev s__law_made : Stmt := top 17
abbrev N__law_made : List Str := ["_law_words", "_law_tight", "_law_whole", "_law_a", "_law_b", "_law_c", "_law_d", "_law_e", "_law_f", "_law_ways", "_law_way"]
theorem sc__law_made : FnScope N__law_made ["_law_words", "_law_tight"] (defScope s__law_made) := ⟨rfl, rfl, rfl, by decide +kernel, rfl, by decide +kernel, by decide +kernel⟩
/-- the seven ways of making a rule -/
def noE : PySem.Expr := .Constant .none 0 ⟨0, 0, 0, 0⟩
def ways : List PySem.Expr := match (defBody s__law_made).getD 2 (.Pass ⟨0, 0, 0, 0⟩) with
  | .Assign _ (.List es _) _ => es
  | _ => []
def lamA (j : Nat) : Arguments := match ways.getD j noE with
  | .Lambda a _ _ _ => a
  | _ => ⟨[], [], none, [], [], none, []⟩
def lamB (j : Nat) : PySem.Expr := match ways.getD j noE with
  | .Lambda _ b _ _ => b
  | _ => noE
def lamS (j : Nat) : Scope := match ways.getD j noE with
  | .Lambda _ _ s _ => s
  | _ => defScope s__law_made
section
variable {P : Program} {w : World} {K : PySem.W.Frag} {mg : Str → Option Value} {base : Heap} {CE CN CB CW CR : Addr} {tL tN : Tok}
theorem tv_extN {H H' : Hp} {v : V} {d : PyData} (x : LamX.ExtN H H') (h : TV H v d) : TV H' v d := ((tv_vis h).ext (vis_extN x)).ext vis_ext
theorem tvs_extN {H H' : Hp} {vs : List V} {ds : List PyData} (x : LamX.ExtN H H') (h : TVs H vs ds) : TVs H' vs ds := ((tvs_vis h).ext (vis_extN x)).ext vis_ext
theorem ArgsAt.extN {H H' : Hp} {xs : List V} {ds : List PyData} (h : ArgsAt H xs ds) (x : LamX.ExtN H H') : ArgsAt H' xs ds := ⟨tvs_extN x h.tv, h.sm, h.ln⟩
theorem sqt_extN {K : PySem.W.Frag} {H H' : Hp} {l : Addr} {xs : List V} (x : LamX.ExtN H H') (h : SqT K H l xs) : SqT K H' l xs := by
  rcases h with (h | ⟨f, h⟩) | h
  · exact .inl (.inl (x _ _ h fun ps z => by cases z))
  · exact .inl (.inr ⟨f, x _ _ h fun ps z => by cases z⟩)
  · exact .inr h
theorem sql_extN {K : PySem.W.Frag} {H H' : Hp} {l : Addr} {xs : List V} (x : LamX.ExtN H H') (h : SqL K H l xs) : SqL K H' l xs := by
  rcases h with (h | ⟨f, h⟩) | h
  · exact .inl (.inl (x _ _ h fun ps z => by cases z))
  · exact .inl (.inr ⟨f, x _ _ h fun ps z => by cases z⟩)
  · exact .inr h
theorem padded : ∀ ys : List V, ys.length ≤ 6 → ∃ v0 v1 v2 v3 v4 v5 : V, ys ++ (List.replicate (6 - (ys.length : Int)).toNat [V.str ""]).flatten = [v0, v1, v2, v3, v4, v5] ∧ ys = [v0, v1, v2, v3, v4, v5].take ys.length
  | [], _ => ⟨_, _, _, _, _, _, rfl, rfl⟩
  | [_], _ => ⟨_, _, _, _, _, _, rfl, rfl⟩
  | [_, _], _ => ⟨_, _, _, _, _, _, rfl, rfl⟩
  | [_, _, _], _ => ⟨_, _, _, _, _, _, rfl, rfl⟩
  | [_, _, _, _], _ => ⟨_, _, _, _, _, _, rfl, rfl⟩
  | [_, _, _, _, _], _ => ⟨_, _, _, _, _, _, rfl, rfl⟩
  | [_, _, _, _, _, _], _ => ⟨_, _, _, _, _, _, rfl, rfl⟩
  | _ :: _ :: _ :: _ :: _ :: _ :: _ :: _, h => absurd h (by simp)
/-- one of seven promises -/
theorem pe_or7 {X : Cx} {e : PySem.Expr} {t0 t1 t2 t3 t4 t5 t6 : TE} (h0 : PE X e t0) (h1 : PE X e t1) (h2 : PE X e t2) (h3 : PE X e t3) (h4 : PE X e t4) (h5 : PE X e t5) (h6 : PE X e t6) :
    PE X e (fun σ H Q => t0 σ H Q ∨ t1 σ H Q ∨ t2 σ H Q ∨ t3 σ H Q ∨ t4 σ H Q ∨ t5 σ H Q ∨ t6 σ H Q) := pe_or h0 (pe_or h1 (pe_or h2 (pe_or h3 (pe_or h4 (pe_or h5 h6)))))
def spMade (K : PySem.W.Frag) (CN CB CW CR : Addr) (TT : List (Addr × Str)) : Sp := fun vs H Q E => ∃ (l1 l2 : Addr) (ys xs : List V) (es ds : List PyData), vs = [.ref l1, .ref l2] ∧ H l1 = some (.lst ys) ∧ (SqT K H l2 xs ∨ SqL K H l2 xs) ∧ ArgsAt H ys es ∧ ArgsAt H xs ds ∧ ys.length ≤ 6 ∧ LamX.Tabs TT H ∧
  (∀ f, ruleF es ds = some f → ∀ H1, LamX.ExtN H H1 → LamX.Tabs TT H1 → FErr CN CB CW H1 E f) ∧
  (ruleF es ds = none → ∀ a zs H1, es = zs.map .str → LamX.ExtN H H1 → LamX.Tabs TT H1 → RuleAt CR H1 a zs (namesOf ds) → Q (.ref a) H1)
theorem ok_made {f c P1 : Addr} {fd : FuncData} {TT : List (Addr × Str)} (F : Fun K "_law_made" "_law_made" s__law_made f fd) (T : Tx K mg CE CN CB CW CR tL tN) (hfc : fd.code = .ref c) (TB : LamX.TabB base mg c P1)
    (hmT : (P1, ("_law_made.<locals>.<lambda>" : Str)) ∈ TT) (huT : ∀ p ∈ TT, p.1 = P1 → p.2 = ("_law_made.<locals>.<lambda>" : Str))
    (c_Rule : MkSK P w K mg base (L2.CX P w) 4 CR "Rule" "pins" (spRule K CN CB CW CR)) :
    FnOk P w K mg base (L2.CX P w) 7 f fd ["_law_words", "_law_tight"] (spMade K CN CB CW CR TT) := by
  refine okC F sc__law_made (fun vs H Q E h => ?_) (fun A outer s H vs Q E hr h => ?_)
  · obtain ⟨l1, l2, ys, xs, es, ds, rfl, _⟩ := h
    rfl
  · obtain ⟨l1, l2, ys, xs, es, ds, rfl, hl1, hl2, he, ha, hy6, hT, ke, k⟩ := h
    rw [hfc] at hr ⊢
    have h4 : sizeLine = 16777216 := sizeLine_eq
    have fin : ∀ {H8 : Hp}, LamX.ExtN H H8 → LamX.Tabs TT H8 → ∀ (a dx : Addr), H8 a = none → H8 dx = none → dx ≠ a → spRule K CN CB CW CR (.ref a) ys (.ref l2) (upd (upd H8 dx (.own a)) a (.ins CR dx [])) (fun y H3 => y = .non ∧ Q (.ref a) H3) E := fun {H8} x8 T8 a dx na ndx ne => by
      have ex : Ext H8 (upd (upd H8 dx (.own a)) a (.ins CR dx [])) := (Ext.upd ndx).trans (Ext.upd (by rw [upd_ne ne.symm]; exact na))
      have x9 := x8.trans (LamX.ExtN.of ex)
      have up : ∀ {H1 : Hp}, KeepX a (upd (upd H8 dx (.own a)) a (.ins CR dx [])) H1 → Ext H8 H1 := fun {H1} hk b o q => hk b o (ex _ _ q) (ne_of_none q na)
      exact ⟨a, dx, l2, xs, ds, es, rfl, rfl, upd_same, he.extN x9, ha.extN x9, hl2.elim (fun h => .inl (sqt_extN x9 h)) (fun h => .inr (sql_extN x9 h)), fun f hf H1 hk => ke f hf H1 (x8.trans (LamX.ExtN.of (up hk))) (T8.ext (up hk)),
        fun hf zs H' ez hk hr => ⟨rfl, k hf a zs H' ez (x8.trans (LamX.ExtN.of (up hk))) (T8.ext (up hk)) hr⟩⟩
    refine ⟨_, (pss_cons (ps_set (i := 2) sc__law_made.nd rfl (by first | exact Or.inl rfl | exact Or.inr rfl) (pe_op op_cat (pe_callTy call_list_of (by rfl) (T.bn _ (by decide +kernel)) (by decide +kernel) (pa_cons (pv 0) pa_nil)) (pe_op op_rep (pe_lst (pa_cons pe_str pa_nil)) (pe_op op_sub pe_int (pe_callB call_len_seq (by rfl) (T.bn _ (by decide +kernel)) (by decide +kernel) (pa_cons (pv 0) pa_nil))))))
      (pss_cons (ps_asg (pv 2) (pg_lst rfl (pgs_cons (pg_name (i := 3) sc__law_made.nd rfl (by first | exact Or.inl rfl | exact Or.inr rfl)) (pgs_cons (pg_name (i := 4) sc__law_made.nd rfl (by first | exact Or.inl rfl | exact Or.inr rfl)) (pgs_cons (pg_name (i := 5) sc__law_made.nd rfl (by first | exact Or.inl rfl | exact Or.inr rfl)) (pgs_cons (pg_name (i := 6) sc__law_made.nd rfl (by first | exact Or.inl rfl | exact Or.inr rfl)) (pgs_cons (pg_name (i := 7) sc__law_made.nd rfl (by first | exact Or.inl rfl | exact Or.inr rfl)) (pgs_cons (pg_name (i := 8) sc__law_made.nd rfl (by first | exact Or.inl rfl | exact Or.inr rfl)) pgs_nil))))))))
      (pss_cons (ps_set (i := 9) sc__law_made.nd rfl (by first | exact Or.inl rfl | exact Or.inr rfl) (pe_lst (pa_cons (pe_lamV (T := TT) TB rfl hmT huT rfl (LamX.lamS_by (sc := defScope s__law_made) (by decide +kernel))) (pa_cons (pe_lamV (T := TT) TB rfl hmT huT rfl (LamX.lamS_by (sc := defScope s__law_made) (by decide +kernel))) (pa_cons (pe_lamV (T := TT) TB rfl hmT huT rfl (LamX.lamS_by (sc := defScope s__law_made) (by decide +kernel))) (pa_cons (pe_lamV (T := TT) TB rfl hmT huT rfl (LamX.lamS_by (sc := defScope s__law_made) (by decide +kernel))) (pa_cons (pe_lamV (T := TT) TB rfl hmT huT rfl (LamX.lamS_by (sc := defScope s__law_made) (by decide +kernel))) (pa_cons (pe_lamV (T := TT) TB rfl hmT huT rfl (LamX.lamS_by (sc := defScope s__law_made) (by decide +kernel))) (pa_cons (pe_lamV (T := TT) TB rfl hmT huT rfl (LamX.lamS_by (sc := defScope s__law_made) (by decide +kernel))) pa_nil)))))))))
      (pss_cons (ps_set (i := 10) sc__law_made.nd rfl (by first | exact Or.inl rfl | exact Or.inr rfl) (pe_ix ix_list (pv 9) (pe_callB call_len_seq (by rfl) (T.bn _ (by decide +kernel)) (by decide +kernel) (pa_cons (pv 0) pa_nil)) (fun _ _ => rfl)))
      (pss_one (ps_ret (pe_or7 (pe_callV (k := 5) (i := 10) (E := E) (ar := lamA 0) (b := lamB 0) (sc := lamS 0) (LamX.lamS_by (sc := defScope s__law_made) (by decide +kernel)) (fun _ _ _ _ _ => rfl) passC hr (fun A outer s H f c2 hr => (pe_makeSK0 c_Rule (hr.mono (by decide)) (by rfl) passLm (pk_cons (pv 1) pk_nil))) rfl (.inl rfl)) (pe_callV (k := 5) (i := 10) (E := E) (ar := lamA 1) (b := lamB 1) (sc := lamS 1) (LamX.lamS_by (sc := defScope s__law_made) (by decide +kernel)) (fun _ _ _ _ _ => rfl) passC hr (fun A outer s H f c2 hr => (pe_makeSK c_Rule (hr.mono (by decide)) (by rfl) passLm (pa_cons (pv 3) pa_nil) (pk_cons (pv 1) pk_nil))) rfl (.inl rfl)) (pe_callV (k := 5) (i := 10) (E := E) (ar := lamA 2) (b := lamB 2) (sc := lamS 2) (LamX.lamS_by (sc := defScope s__law_made) (by decide +kernel)) (fun _ _ _ _ _ => rfl) passC hr (fun A outer s H f c2 hr => (pe_makeSK c_Rule (hr.mono (by decide)) (by rfl) passLm (pa_cons (pv 3) (pa_cons (pv 4) pa_nil)) (pk_cons (pv 1) pk_nil))) rfl (.inl rfl)) (pe_callV (k := 5) (i := 10) (E := E) (ar := lamA 3) (b := lamB 3) (sc := lamS 3) (LamX.lamS_by (sc := defScope s__law_made) (by decide +kernel)) (fun _ _ _ _ _ => rfl) passC hr (fun A outer s H f c2 hr => (pe_makeSK c_Rule (hr.mono (by decide)) (by rfl) passLm (pa_cons (pv 3) (pa_cons (pv 4) (pa_cons (pv 5) pa_nil))) (pk_cons (pv 1) pk_nil))) rfl (.inl rfl)) (pe_callV (k := 5) (i := 10) (E := E) (ar := lamA 4) (b := lamB 4) (sc := lamS 4) (LamX.lamS_by (sc := defScope s__law_made) (by decide +kernel)) (fun _ _ _ _ _ => rfl) passC hr (fun A outer s H f c2 hr => (pe_makeSK c_Rule (hr.mono (by decide)) (by rfl) passLm (pa_cons (pv 3) (pa_cons (pv 4) (pa_cons (pv 5) (pa_cons (pv 6) pa_nil)))) (pk_cons (pv 1) pk_nil))) rfl (.inl rfl)) (pe_callV (k := 5) (i := 10) (E := E) (ar := lamA 5) (b := lamB 5) (sc := lamS 5) (LamX.lamS_by (sc := defScope s__law_made) (by decide +kernel)) (fun _ _ _ _ _ => rfl) passC hr (fun A outer s H f c2 hr => (pe_makeSK c_Rule (hr.mono (by decide)) (by rfl) passLm (pa_cons (pv 3) (pa_cons (pv 4) (pa_cons (pv 5) (pa_cons (pv 6) (pa_cons (pv 7) pa_nil))))) (pk_cons (pv 1) pk_nil))) rfl (.inl rfl)) (pe_callV (k := 5) (i := 10) (E := E) (ar := lamA 6) (b := lamB 6) (sc := lamS 6) (LamX.lamS_by (sc := defScope s__law_made) (by decide +kernel)) (fun _ _ _ _ _ => rfl) passC hr (fun A outer s H f c2 hr => (pe_makeSK c_Rule (hr.mono (by decide)) (by rfl) passLm (pa_cons (pv 3) (pa_cons (pv 4) (pa_cons (pv 5) (pa_cons (pv 6) (pa_cons (pv 7) (pa_cons (pv 8) pa_nil)))))) (pk_cons (pv 1) pk_nil))) rfl (.inl rfl))))))))), ?_⟩
    refine ⟨_, rfl, l1, _, rfl, .inl (SqL.of hl1), fun L nL => ?_⟩
    have e1 : Ext H (upd H L (.lst ys)) := Ext.upd nL
    have f1 : (upd H L (.lst ys)) L = some (.lst ys) := upd_same
    generalize (upd H L (.lst ys)) = H1 at e1 f1
    refine ⟨(by show 1 ≤ sizeLine; decide), fun M nM => ?_⟩
    have e2 : Ext H1 (upd H1 M (.lst [.str ""])) := Ext.upd nM
    have f2 : (upd H1 M (.lst [.str ""])) M = some (.lst [.str ""]) := upd_same
    generalize (upd H1 M (.lst [.str ""])) = H2 at e2 f2
    have hl12 := e2 _ _ (e1 _ _ hl1)
    refine ⟨_, rfl, l1, ys, rfl, .inl (SqL.of hl12), _, _, rfl, rfl, M, _, _, rfl, rfl, f2, by omega, by omega, ?_, fun R nR => ?_⟩
    · show 1 * _ ≤ sizeLine
      omega
    have e3 : Ext H2 (upd H2 R (.lst (List.replicate (6 - (ys.length : Int)).toNat [V.str ""]).flatten)) := Ext.upd nR
    have f3 : (upd H2 R (.lst (List.replicate (6 - (ys.length : Int)).toNat [V.str ""]).flatten)) R = some (.lst (List.replicate (6 - (ys.length : Int)).toNat [V.str ""]).flatten) := upd_same
    generalize (upd H2 R (.lst (List.replicate (6 - (ys.length : Int)).toNat [V.str ""]).flatten)) = H3 at e3 f3
    obtain ⟨v0, v1, v2, v3, v4, v5, hw, hys⟩ := padded ys hy6
    refine ⟨L, R, ys, _, rfl, rfl, e3 _ _ (e2 _ _ f1), f3, ?_, fun W nW => ?_⟩
    · have := congrArg List.length hw
      rw [List.length_append] at this
      rw [this]
      show 6 ≤ sizeLine
      omega
    rw [hw]
    have e4 : Ext H3 (upd H3 W (.lst [v0, v1, v2, v3, v4, v5])) := Ext.upd nW
    have f4 : (upd H3 W (.lst [v0, v1, v2, v3, v4, v5])) W = some (.lst [v0, v1, v2, v3, v4, v5]) := upd_same
    generalize (upd H3 W (.lst [v0, v1, v2, v3, v4, v5])) = H4 at e4 f4
    have e04 : Ext H H4 := e1.trans (e2.trans (e3.trans e4))
    refine ⟨_, rfl, W, _, rfl, SqL.of f4, rfl, _, _, rfl, _, _, rfl, _, _, rfl, _, _, rfl, _, _, rfl, _, _, rfl, rfl, ?_⟩
    have x4 : LamX.ExtN H H4 := LamX.ExtN.of e04
    have T4 := hT.ext e04
    refine ⟨T4, fun g0 c0 H5 y0 T5 n0 o0 k0 => ?_⟩
    refine ⟨T5, fun g1 c1 H6 y1 T6 n1 o1 k1 => ?_⟩
    refine ⟨T6, fun g2 c2 H7 y2 T7 n2 o2 k2 => ?_⟩
    refine ⟨T7, fun g3 c3 H8 y3 T8 n3 o3 k3 => ?_⟩
    refine ⟨T8, fun g4 c4 H9 y4 T9 n4 o4 k4 => ?_⟩
    refine ⟨T9, fun g5 c5 H10 y5 T10 n5 o5 k5 => ?_⟩
    refine ⟨T10, fun g6 c6 H11 y6 T11 n6 o6 k6 => ?_⟩
    refine ⟨(by show 7 ≤ sizeLine; omega), fun Z nZ => ?_⟩
    have z12 : Ext H11 (upd H11 Z (.lst [.ref g0, .ref g1, .ref g2, .ref g3, .ref g4, .ref g5, .ref g6])) := Ext.upd nZ
    have fZ : (upd H11 Z (.lst [.ref g0, .ref g1, .ref g2, .ref g3, .ref g4, .ref g5, .ref g6])) Z = some (.lst [.ref g0, .ref g1, .ref g2, .ref g3, .ref g4, .ref g5, .ref g6]) := upd_same
    generalize (upd H11 Z (.lst [.ref g0, .ref g1, .ref g2, .ref g3, .ref g4, .ref g5, .ref g6])) = H12 at z12 fZ
    have w6 := LamX.ExtN.of z12
    have w5 := y6.trans w6
    have w4 := y5.trans w5
    have w3 := y4.trans w4
    have w2 := y3.trans w3
    have w1 := y2.trans w2
    have w0 := y1.trans w1
    have x12 : LamX.ExtN H H12 := x4.trans (y0.trans w0)
    have T12 := T11.ext z12
    have hl1' := x12 _ _ hl1 (fun ps z => nomatch z)
    have go := fin x12 T12
    have hlen : ys.length ≤ 6 := hy6
    generalize hn : ys.length = n at hys hlen
    clear hy6
    match n, hlen, hn, hys with
    | 0, _, hn, hys =>
      subst hys
      refine ⟨_, rfl, _, rfl, l1, _, rfl, .inl (SqL.of hl1'), Z, _, 0, .ref g0, rfl, (by show V.int _ = _; rw [hn]; rfl), SqL.of fZ, atI_nat (j := 0) rfl, ?_⟩
      exact .inl ⟨g0, c0, rfl, w0 _ _ o0 lamO_ne, w0 _ _ k0 LamX.codeO_ne, _, rfl, _, rfl, go⟩
    | 1, _, hn, hys =>
      subst hys
      refine ⟨_, rfl, _, rfl, l1, _, rfl, .inl (SqL.of hl1'), Z, _, 1, .ref g1, rfl, (by show V.int _ = _; rw [hn]; rfl), SqL.of fZ, atI_nat (j := 1) rfl, ?_⟩
      exact .inr (.inl ⟨g1, c1, rfl, w1 _ _ o1 lamO_ne, w1 _ _ k1 LamX.codeO_ne, _, rfl, _, rfl, _, rfl, go⟩)
    | 2, _, hn, hys =>
      subst hys
      refine ⟨_, rfl, _, rfl, l1, _, rfl, .inl (SqL.of hl1'), Z, _, 2, .ref g2, rfl, (by show V.int _ = _; rw [hn]; rfl), SqL.of fZ, atI_nat (j := 2) rfl, ?_⟩
      exact .inr (.inr (.inl ⟨g2, c2, rfl, w2 _ _ o2 lamO_ne, w2 _ _ k2 LamX.codeO_ne, _, rfl, _, rfl, _, rfl, _, rfl, go⟩))
    | 3, _, hn, hys =>
      subst hys
      refine ⟨_, rfl, _, rfl, l1, _, rfl, .inl (SqL.of hl1'), Z, _, 3, .ref g3, rfl, (by show V.int _ = _; rw [hn]; rfl), SqL.of fZ, atI_nat (j := 3) rfl, ?_⟩
      exact .inr (.inr (.inr (.inl ⟨g3, c3, rfl, w3 _ _ o3 lamO_ne, w3 _ _ k3 LamX.codeO_ne, _, rfl, _, rfl, _, rfl, _, rfl, _, rfl, go⟩)))
    | 4, _, hn, hys =>
      subst hys
      refine ⟨_, rfl, _, rfl, l1, _, rfl, .inl (SqL.of hl1'), Z, _, 4, .ref g4, rfl, (by show V.int _ = _; rw [hn]; rfl), SqL.of fZ, atI_nat (j := 4) rfl, ?_⟩
      exact .inr (.inr (.inr (.inr (.inl ⟨g4, c4, rfl, w4 _ _ o4 lamO_ne, w4 _ _ k4 LamX.codeO_ne, _, rfl, _, rfl, _, rfl, _, rfl, _, rfl, _, rfl, go⟩))))
    | 5, _, hn, hys =>
      subst hys
      refine ⟨_, rfl, _, rfl, l1, _, rfl, .inl (SqL.of hl1'), Z, _, 5, .ref g5, rfl, (by show V.int _ = _; rw [hn]; rfl), SqL.of fZ, atI_nat (j := 5) rfl, ?_⟩
      exact .inr (.inr (.inr (.inr (.inr (.inl ⟨g5, c5, rfl, w5 _ _ o5 lamO_ne, w5 _ _ k5 LamX.codeO_ne, _, rfl, _, rfl, _, rfl, _, rfl, _, rfl, _, rfl, _, rfl, go⟩)))))
    | 6, _, hn, hys =>
      subst hys
      refine ⟨_, rfl, _, rfl, l1, _, rfl, .inl (SqL.of hl1'), Z, _, 6, .ref g6, rfl, (by show V.int _ = _; rw [hn]; rfl), SqL.of fZ, atI_nat (j := 6) rfl, ?_⟩
      exact .inr (.inr (.inr (.inr (.inr (.inr (⟨g6, c6, rfl, w6 _ _ o6 lamO_ne, w6 _ _ k6 LamX.codeO_ne, _, rfl, _, rfl, _, rfl, _, rfl, _, rfl, _, rfl, _, rfl, _, rfl, go⟩))))))
    | n + 7, hlen, _, _ => exact absurd hlen (by omega)
end
end K71
end
section
set_option Elab.async false
set_option autoImplicit false
set_option linter.all false
set_option maxRecDepth 100000
set_option maxHeartbeats 4000000
namespace K71
open PySem PySem.Spec PyProof.Rows L2 Ls
open C8 (pss_cut tCut)
open TL
/-! ### rules that are fine -/
theorem twi_snoc {q : Str} : ∀ {ns seen : List Str}, twi seen ns = none → q ∉ seen → q ∉ ns → twi seen (ns ++ [q]) = none
  | [], seen, _, h1, _ => by
    show (if q ∈ seen then some q else none) = none
    rw [if_neg h1]
  | z :: r, seen, h, h1, h2 => by
    have h : (if z ∈ seen then some z else twi (seen ++ [z]) r) = none := h
    show (if z ∈ seen then some z else twi (seen ++ [z]) (r ++ [q])) = none
    by_cases hm : z ∈ seen
    · rw [if_pos hm] at h
      cases h
    · rw [if_neg hm] at h ⊢
      refine twi_snoc h (fun hq => ?_) (fun hq => h2 (by simp [hq]))
      rcases List.mem_append.mp hq with hq | hq
      · exact h1 hq
      · exact h2 (by have : q = z := by simpa using hq
                     simp [this])
theorem nodup_rev {l : List Str} (h : l.Nodup) : l.reverse.Nodup := by
  rw [List.Nodup, List.pairwise_reverse]
  exact h.imp fun h e => h e.symm
structure GoodR (zs ns : List Str) : Prop where
  ne : zs ≠ []
  wd : ∀ z ∈ zs, z ∈ ruleWords
  nd : zs.Nodup
  nm : ∀ n ∈ ns, isName n = true
  tw : twi [] ns = none
theorem GoodR.rule {zs ns : List Str} (g : GoodR zs ns) : ruleF (zs.map .str) (ns.map .str) = none :=
  ruleF_ok (fun h => g.ne (List.map_eq_nil_iff.mp h)) (badW_ok (fun z hz => ⟨g.wd z hz, by simp⟩) g.nd)
    (bad_all fun j d hd => by
      rw [List.getElem?_map] at hd
      obtain ⟨n, h1, rfl⟩ := Option.map_eq_some_iff.mp hd
      rw [nameOf_str (g.nm n (List.mem_of_getElem? h1))]
      simp)
    (by rw [names_str ns g.nm]; exact g.tw)
theorem good_of {es ds : List PyData} (h : ruleF es ds = none) : ∃ zs ns, es = zs.map .str ∧ ds = ns.map .str ∧ GoodR zs ns := by
  obtain ⟨h0, h1, h2, h3⟩ := ruleF_none h
  obtain ⟨zs, ez, hz, nd⟩ := badW_none h1
  obtain ⟨e2, hn⟩ := bad_none h2
  refine ⟨zs, namesOf ds, ez, e2, ⟨fun z => h0 (by rw [ez, z]; rfl), fun z hz' => (hz z hz').1, nd, hn, h3⟩⟩
theorem GoodR.args {zs ns : List Str} (g : GoodR zs ns) (H : Hp) (h : zs.length ≤ 100) : ArgsAt H (zs.map V.str) (zs.map .str) := ⟨tvs_strs _, fun d hd y e => by
  obtain ⟨z, hz, q⟩ := List.mem_map.mp hd
  rw [← q] at e
  rw [← PyData.str.inj e]
  have : ∀ y ∈ ruleWords, y.length ≤ 1000 := by decide +kernel
  exact this z (g.wd z hz), by rw [List.length_map]; exact h⟩
theorem GoodR.argn {zs ns : List Str} (g : GoodR zs ns) (H : Hp) (h : ns.length ≤ 100) : ArgsAt H (ns.map V.str) (ns.map .str) := ⟨tvs_strs _, fun d hd y e => by
  obtain ⟨z, hz, q⟩ := List.mem_map.mp hd
  rw [← q] at e
  rw [← PyData.str.inj e]
  exact Nat.le_trans (name_len (g.nm z hz)).2 (by decide), by rw [List.length_map]; exact h⟩
theorem GoodR.rev {zs ns : List Str} (g : GoodR zs ns) : GoodR zs.reverse ns := ⟨fun h => g.ne (List.reverse_eq_nil_iff.mp h), fun z hz => g.wd z (List.mem_reverse.mp hz), nodup_rev g.nd, g.nm, g.tw⟩
theorem GoodR.tail {zs ns : List Str} (g : GoodR zs ns) (h : zs.length ≠ 1) : GoodR (zs.drop 1) ns := ⟨fun e => by
    have h0 := List.drop_eq_nil_iff.mp e
    have h1 : zs.length ≠ 0 := fun z => g.ne (List.eq_nil_of_length_eq_zero z)
    omega, fun z hz => g.wd z (List.mem_of_mem_drop hz), g.nd.sublist (List.drop_sublist _ _), g.nm, g.tw⟩
theorem GoodR.more {zs ns : List Str} (g : GoodR zs ns) (h : ("q" : Str) ∉ ns) : GoodR zs (ns ++ [("q" : Str)]) := ⟨g.ne, g.wd, g.nd, fun n hn => by
    rcases List.mem_append.mp hn with hn | hn
    · exact g.nm n hn
    · have : n = "q" := by simpa using hn
      rw [this]
      decide +kernel, twi_snoc g.tw (by simp) h⟩
theorem GoodR.rev_ne {zs ns : List Str} (g : GoodR zs ns) (h : 1 < zs.length) : zs.reverse ≠ zs := fun e => by
  have h1 : zs.reverse[0]? = zs[0]? := by rw [e]
  rw [List.getElem?_reverse (by omega)] at h1
  have h2 : zs.length - 1 - 0 < zs.length := by omega
  have h3 : 0 < zs.length := by omega
  rw [List.getElem?_eq_getElem h2, List.getElem?_eq_getElem h3] at h1
  have h4 := g.nd
  rw [List.Nodup, List.pairwise_iff_getElem] at h4
  exact h4 0 (zs.length - 1 - 0) h3 h2 (by omega) (Option.some.inj h1).symm
theorem RuleAt.extN {CR : Addr} {H H' : Hp} {a : Addr} {zs ns : List Str} (h : RuleAt CR H a zs ns) (x : LamX.ExtN H H') : RuleAt CR H' a zs ns := by
  obtain ⟨dx, p, t, h1, h2, h3⟩ := h.ex
  exact ⟨⟨dx, p, t, x _ _ h1 fun ps z => (by cases z), x _ _ h2 fun ps z => (by cases z), x _ _ h3 fun ps z => (by cases z)⟩, h.wd, h.nm⟩
section
variable {P : Program} {w : World} {K : PySem.W.Frag} {mg : Str → Option Value} {base : Heap} {CE CN CB CW CR : Addr} {tL tN : Tok}
/-- made of what is fine: no error, a rule -/
theorem made_good {TT : List (Addr × Str)} {H : Hp} {l1 l2 : Addr} {zs ns : List Str} {Q : VK} {E : XK} (g : GoodR zs ns) (h1 : H l1 = some (.lst (zs.map V.str))) (h2 : SqT K H l2 (ns.map V.str) ∨ SqL K H l2 (ns.map V.str)) (hz : zs.length ≤ 6) (hn : ns.length ≤ 100) (hT : LamX.Tabs TT H)
    (k : ∀ a H1, LamX.ExtN H H1 → LamX.Tabs TT H1 → RuleAt CR H1 a zs ns → Q (.ref a) H1) : spMade K CN CB CW CR TT [.ref l1, .ref l2] H Q E := by
  refine ⟨l1, l2, _, _, _, _, rfl, h1, h2, g.args H (by omega), g.argn H hn, by rw [List.length_map]; exact hz, hT, fun f hf => ?_, fun _ a zs' H1 ez x t r => ?_⟩
  · rw [g.rule] at hf
    cases hf
  · have e1 : zs' = zs := by
      have : zs.map PyData.str = zs'.map PyData.str := ez
      exact ((List.map_inj_right fun a b z => PyData.str.inj z).mp this).symm
    rw [e1, names_str ns g.nm] at r
    exact k a H1 x t r
/-! ### _law_alike_right -/
def spAlike (TT : List (Addr × Str)) : Sp := fun vs H Q _ => ∃ (l1 l2 : Addr) (zs ns : List Str), vs = [.ref l1, .ref l2] ∧ H l1 = some (.lst (zs.map V.str)) ∧ H l2 = some (.lst (ns.map V.str)) ∧ GoodR zs ns ∧ zs.length ≤ 6 ∧ ns.length ≤ 50 ∧ ("q" : Str) ∉ ns ∧ LamX.Tabs TT H ∧
  ∀ H', LamX.ExtN H H' → LamX.Tabs TT H' → Q (.bl true) H'
abbrev s__law_alike_right : Stmt := top 20
abbrev N__law_alike_right : List Str := ["_law_words", "_law_tight", "_law_one", "_law_other"]
theorem sc__law_alike_right : FnScope N__law_alike_right ["_law_words", "_law_tight"] (defScope s__law_alike_right) := ⟨rfl, rfl, rfl, by decide +kernel, rfl, by decide +kernel, by decide +kernel⟩
theorem ok_alike {f fe : Addr} {fd : FuncData} {TT : List (Addr × Str)} (F : Fun K "_law_alike_right" "_law_alike_right" s__law_alike_right f fd) (T : Tx K mg CE CN CB CW CR tL tN) (hC : ClR K CR) (C : RuK K CR fe)
    (rE : FnR P w K mg base CX0 2 fe (spEq K CR)) (c__law_made : Cal P w K mg base (L2.CX P w) 7 "_law_made" (spMade K CN CB CW CR TT)) :
    FnOk P w K mg base CX0 8 f fd ["_law_words", "_law_tight"] (spAlike TT) := by
  have hfe := C.fn
  refine F.ok sc__law_alike_right (fun vs H Q E h => ?_) (fun cdv A outer s H vs Q E hr h => ?_)
  · obtain ⟨l1, l2, zs, ns, rfl, _⟩ := h
    rfl
  · obtain ⟨l1, l2, zs, ns, rfl, hl1, hl2, g, hz, hn, hq, hT, k⟩ := h
    have h4 : sizeLine = 16777216 := sizeLine_eq
    refine ⟨_, (pss_cons (ps_par (i := 2) (j := 3) rfl sc__law_alike_right.nd rfl rfl (by decide) rfl rfl (pa_cons (pe_cal c__law_made (hr.mono (by decide)) (by rfl) passN (pa_cons (pv 0) (pa_cons (pv 1) pa_nil))) (pa_cons (pe_cal c__law_made (hr.mono (by decide)) (by rfl) passN (pa_cons (pv 0) (pa_cons (pe_callTy call_tuple_of (by rfl) (T.bn _ (by decide +kernel)) (by decide +kernel) (pa_cons (pv 1) pa_nil)) pa_nil))) pa_nil)) (by rfl))
      (pss_cons (ps_if ((pw_or (pt_cmpR (op_neO rE hfe (hr.mono (by decide)) pass0) (pv 2) (pv 3) (nomark _)) (pw_or (pt_cmpR (op_eqO rE hfe (hr.mono (by decide)) pass0) (pv 2) (pv 0) (nomark _)) (pw_or (pt_cmpR (op_eqO rE hfe (hr.mono (by decide)) pass0) (pv 2) (pe_callTy call_tuple_of (by rfl) (T.bn _ (by decide +kernel)) (by decide +kernel) (pa_cons (pv 0) pa_nil)) (nomark _)) (pw_or1 (pt_not (pt_cmpR (op_eqO rE hfe (hr.mono (by decide)) pass0) (pv 2) (pv 3) (nomark _)))))))).pt (pss_one (ps_ret pe_bl)) pss_nil)
      (pss_cut (ps_if ((pw_and (pt_cmpR op_gt (pe_callB call_len_seq (by rfl) (T.bn _ (by decide +kernel)) (by decide +kernel) (pa_cons (pv 0) pa_nil)) pe_int (nomark _)) (pw_and1 (pt_cmpR (op_eqO rE hfe (hr.mono (by decide)) pass0) (pe_cal c__law_made (hr.mono (by decide)) (by rfl) passN (pa_cons ((pe_revLK (K := K) rfl) (pv 0)) (pa_cons (pv 1) pa_nil))) (pv 2) (nomark _))))).pt (pss_one (ps_ret pe_bl)) pss_nil)
      (pss_one (ps_ret (pe_and (pe_cmpR (op_neO rE hfe (hr.mono (by decide)) pass0) (pe_cal c__law_made (hr.mono (by decide)) (by rfl) passN (pa_cons (pv 0) (pa_cons (pe_op op_cat (pe_callTy call_list_of (by rfl) (T.bn _ (by decide +kernel)) (by decide +kernel) (pa_cons (pv 1) pa_nil)) (pe_lst (pa_cons pe_str pa_nil))) pa_nil))) (pv 2) (nomark _)) (pe_one (pe_or (pe_cmpR op_eq (pe_callB call_len_seq (by rfl) (T.bn _ (by decide +kernel)) (by decide +kernel) (pa_cons (pv 0) pa_nil)) pe_int (nomark _)) (pe_one (pe_cmpR (op_neO rE hfe (hr.mono (by decide)) pass0) (pe_cal c__law_made (hr.mono (by decide)) (by rfl) passN (pa_cons (pe_slice sl_list (pv 0) (po_some pe_int) po_none) (pa_cons (pv 1) pa_nil))) (pv 2) (nomark _))))))))))), ?_⟩
    have hl1' : ∀ {H1 : Hp}, LamX.ExtN H H1 → H1 l1 = some (.lst (zs.map V.str)) := fun {H1} x => x _ _ hl1 fun ps z => nomatch z
    have hl2' : ∀ {H1 : Hp}, LamX.ExtN H H1 → H1 l2 = some (.lst (ns.map V.str)) := fun {H1} x => x _ _ hl2 fun ps z => nomatch z
    have zl : (zs.map V.str).length = zs.length := List.length_map _
    have nl : (ns.map V.str).length = ns.length := List.length_map _
    refine ⟨_, rfl, _, rfl, ?_⟩
    dsimp only [tNil]
    refine made_good g hl1 (.inr (SqL.of hl2)) hz (by omega) hT fun a H1 x1 t1 r1 => ?_
    refine ⟨_, rfl, _, rfl, l2, _, rfl, .inl ⟨SqL.of (hl2' x1), fun tp np => ?_⟩⟩
    have e2 : Ext H1 (upd H1 tp (.tup (ns.map V.str))) := Ext.upd np
    have f2 : (upd H1 tp (.tup (ns.map V.str))) tp = some (.tup (ns.map V.str)) := upd_same
    generalize (upd H1 tp (.tup (ns.map V.str))) = H2 at e2 f2
    have x2 := x1.trans (LamX.ExtN.of e2)
    dsimp only [tNil]
    refine made_good g (hl1' x2) (.inl (SqT.of f2)) hz (by omega) (t1.ext e2) fun b H3 x3 t3 r3 => ?_
    have x03 := x2.trans x3
    have ra3 := (r1.ext e2).extN x3
    refine ⟨_, _, rfl, ?_⟩
    have eqR : ∀ {H : Hp} {x y : Addr} {zs ns zs2 ns2 : List Str} {Q : VK} {E : XK}, RuleAt CR H x zs ns → RuleAt CR H y zs2 ns2 → Q (.bl (decide (zs = zs2 ∧ ns = ns2))) H → rEqO K fe (spEq K CR) E (.ref x) (.ref y) H Q := fun {H x y zs ns zs2 ns2 Q E} rx ry q => by
      obtain ⟨dx, p, t, h1, _, _⟩ := rx.ex
      obtain ⟨dy, p2, t2, h2, _, _⟩ := ry.ex
      exact ⟨x, CR, dx, _, .ref CR, rfl, h1, C.eq, .base (.ins h2 hC.cl C.ha C.hn C.htk C.hm), C.nfR, x, _, zs, ns, rfl, rx, .inl ⟨y, zs2, ns2, rfl, ry, _, rfl, q⟩⟩
    have neR : ∀ {H : Hp} {x y : Addr} {zs ns zs2 ns2 : List Str} {Q : VK} {E : XK}, RuleAt CR H x zs ns → RuleAt CR H y zs2 ns2 → Q (.bl (!decide (zs = zs2 ∧ ns = ns2))) H → rNeO K fe (spEq K CR) E (.ref x) (.ref y) H Q := fun {H x y zs ns zs2 ns2 Q E} rx ry q => by
      obtain ⟨dx, p, t, h1, _, _⟩ := rx.ex
      obtain ⟨dy, p2, t2, h2, _, _⟩ := ry.ex
      exact ⟨x, CR, dx, _, .ref CR, rfl, h1, C.eq, C.ne, C.hm, .base (.ins h2 hC.cl C.ha C.hn C.htk C.hm), C.nfR, x, _, zs, ns, rfl, rx, .inl ⟨y, zs2, ns2, rfl, ry, _, rfl, q⟩⟩
    have eqO : ∀ {H : Hp} {x : Addr} {y : V} {ty : Value} {zs ns : List Str} {Q : VK} {E : XK}, RuleAt CR H x zs ns → TyX K H y ty → PySem.W.notFirst K CR ty = true → PySem.W.kitOne K ty (.ref CR) = some false → Q (.bl false) H → rEqO K fe (spEq K CR) E (.ref x) y H Q := fun {H x y ty zs ns Q E} rx hy h1 h2 q => by
      obtain ⟨dx, p, t, h0, _, _⟩ := rx.ex
      exact ⟨x, CR, dx, _, ty, rfl, h0, C.eq, hy, h1, x, _, zs, ns, rfl, rx, .inr ⟨ty, hy, h2, _, rfl, q⟩⟩
    refine ⟨_, rfl, _, rfl, neR ra3 r3 ?_⟩
    refine ⟨_, rfl, iteNo (by rw [decide_eq_true ⟨rfl, rfl⟩]; rfl) ?_⟩
    refine ⟨_, rfl, _, rfl, eqO ra3 (.base (.lst (hl1' x03))) C.nfL C.kL ?_⟩
    refine ⟨_, rfl, iteF ?_⟩
    refine ⟨_, rfl, _, rfl, l1, _, rfl, .inl ⟨SqL.of (hl1' x03), fun tq nq => ?_⟩⟩
    have e4 : Ext H3 (upd H3 tq (.tup (zs.map V.str))) := Ext.upd nq
    have f4 : (upd H3 tq (.tup (zs.map V.str))) tq = some (.tup (zs.map V.str)) := upd_same
    generalize (upd H3 tq (.tup (zs.map V.str))) = H4 at e4 f4
    have ra4 := ra3.ext e4
    have rb4 := r3.ext e4
    have t4 := t3.ext e4
    have x04 := x03.trans (LamX.ExtN.of e4)
    refine eqO ra4 (.base (.tup f4)) C.nfT C.kT ?_
    refine ⟨_, rfl, iteF ?_⟩
    refine ⟨_, rfl, _, rfl, eqR ra4 rb4 ?_⟩
    refine ⟨_, rfl, iteNo (by rw [decide_eq_true ⟨rfl, rfl⟩]; rfl) ?_⟩
    -- turned round
    refine ⟨fun σ' H' => σ' = ((L2.start N__law_alike_right [V.ref l1, V.ref l2]).set 2 (some (V.ref a))).set 3 (some (V.ref b)) ∧ LamX.ExtN H H' ∧ LamX.Tabs TT H' ∧ RuleAt CR H' a zs ns, ?_, ?_⟩
    · refine ⟨_, rfl, l1, _, rfl, .inl (SqL.of (hl1' x04)), _, _, rfl, rfl, _, rfl, ?_⟩
      by_cases hlen : 1 < zs.length
      · refine iteYes (decide_eq_true (by rw [zl]; omega)) ?_
        refine ⟨_, rfl, l1, _, rfl, SqL.of (hl1' x04), fun r nr => ?_⟩
        rw [← List.map_reverse]
        have e5 : Ext H4 (upd H4 r (.lst (zs.reverse.map V.str))) := Ext.upd nr
        have f5 : (upd H4 r (.lst (zs.reverse.map V.str))) r = some (.lst (zs.reverse.map V.str)) := upd_same
        generalize (upd H4 r (.lst (zs.reverse.map V.str))) = H5 at e5 f5
        have x05 := x04.trans (LamX.ExtN.of e5)
        refine ⟨_, rfl, ?_⟩
        dsimp only [tNil]
        refine made_good g.rev f5 (.inr (SqL.of (hl2' x05))) (by rw [List.length_reverse]; exact hz) (by omega) (t4.ext e5) fun d H6 x6 t6 r6 => ?_
        have ra6 := (ra4.ext e5).extN x6
        refine ⟨_, rfl, eqR r6 ra6 ⟨_, rfl, iteNo (decide_eq_false fun z => g.rev_ne hlen z.1) ?_⟩⟩
        exact ⟨rfl, x05.trans x6, t6, ra6⟩
      · refine iteNo (decide_eq_false (by rw [zl]; omega)) ?_
        exact ⟨rfl, x04, t4, ra4⟩
    rintro σ' H5 ⟨rfl, x05, t5, ra5⟩
    refine ⟨_, rfl, _, rfl, l2, _, rfl, .inl (SqL.of (hl2' x05)), fun m nm => ?_⟩
    have e6 : Ext H5 (upd H5 m (.lst (ns.map V.str))) := Ext.upd nm
    have f6 : (upd H5 m (.lst (ns.map V.str))) m = some (.lst (ns.map V.str)) := upd_same
    generalize (upd H5 m (.lst (ns.map V.str))) = H6 at e6 f6
    refine ⟨(by show 1 ≤ sizeLine; decide), fun m2 nm2 => ?_⟩
    have e7 : Ext H6 (upd H6 m2 (.lst [.str "q"])) := Ext.upd nm2
    have f7 : (upd H6 m2 (.lst [.str "q"])) m2 = some (.lst [.str "q"]) := upd_same
    generalize (upd H6 m2 (.lst [.str "q"])) = H7 at e7 f7
    refine ⟨m, m2, _, _, rfl, rfl, e7 _ _ f6, f7, (by show _ + 1 ≤ _; omega), fun m3 nm3 => ?_⟩
    rw [show ns.map V.str ++ [V.str "q"] = (ns ++ [("q" : Str)]).map V.str by rw [List.map_append]; rfl]
    have e8 : Ext H7 (upd H7 m3 (.lst ((ns ++ [("q" : Str)]).map V.str))) := Ext.upd nm3
    have f8 : (upd H7 m3 (.lst ((ns ++ [("q" : Str)]).map V.str))) m3 = some (.lst ((ns ++ [("q" : Str)]).map V.str)) := upd_same
    generalize (upd H7 m3 (.lst ((ns ++ [("q" : Str)]).map V.str))) = H8 at e8 f8
    have e58 := e6.trans (e7.trans e8)
    have x08 := x05.trans (LamX.ExtN.of e58)
    dsimp only [tNil]
    refine made_good (g.more hq) (hl1' x08) (.inr (SqL.of f8)) hz (by simp; omega) (t5.ext e58) fun d H9 x9 t9 r9 => ?_
    have ra9 := (ra5.ext e58).extN x9
    have x09 := x08.trans x9
    refine ⟨_, rfl, neR r9 ra9 ⟨_, rfl, iteYes (by rw [decide_eq_false fun z => absurd (congrArg List.length z.2) (by simp)]; rfl) ?_⟩⟩
    refine ⟨_, rfl, l1, _, rfl, .inl (SqL.of (hl1' x09)), rfl, _, rfl, ?_⟩
    by_cases h1 : zs.length = 1
    · refine iteYes (decide_eq_true (by rw [zl, h1]; rfl)) ?_
      exact k _ x09 t9
    · refine iteNo (decide_eq_false fun z => h1 (by have := V.int.inj z; omega)) ?_
      refine ⟨_, rfl, 1, rfl, l1, _, rfl, SqL.of (hl1' x09), fun r nr => ?_⟩
      rw [cutV_from _ (show (0 : Int) ≤ 1 by decide), show (1 : Int).toNat = 1 from rfl, ← List.map_drop]
      have e10 : Ext H9 (upd H9 r (.lst ((zs.drop 1).map V.str))) := Ext.upd nr
      have f10 : (upd H9 r (.lst ((zs.drop 1).map V.str))) r = some (.lst ((zs.drop 1).map V.str)) := upd_same
      generalize (upd H9 r (.lst ((zs.drop 1).map V.str))) = H10 at e10 f10
      have x10 := x09.trans (LamX.ExtN.of e10)
      refine ⟨_, rfl, ?_⟩
      dsimp only [tNil]
      refine made_good (g.tail h1) f10 (.inr (SqL.of (hl2' x10))) (by rw [List.length_drop]; omega) (by omega) (t9.ext e10) fun d H11 x11 t11 r11 => ?_
      have ra11 := (ra9.ext e10).extN x11
      refine ⟨_, rfl, neR r11 ra11 ?_⟩
      rw [decide_eq_false fun z => absurd (congrArg List.length z.1) (by rw [List.length_drop]; have : zs.length ≠ 0 := fun q => g.ne (List.eq_nil_of_length_eq_zero q); omega)]
      exact k _ (x10.trans x11) t11
end
end K71
end
section
set_option Elab.async false
set_option autoImplicit false
set_option linter.all false
set_option maxRecDepth 100000
set_option maxHeartbeats 4000000
namespace K71
open PySem PySem.Spec PyProof.Rows L2 Ls
open C8 (pss_cut tCut)
open TL
/-! ### what is asked -/
def oddW : List PyData := [.str "far", .str "Far", .str "", .none, .int 7, .str "near", .list [.str "far"], .str "old ", .bool true, .tuple [.str "far"]]
def oddT : List PyData := [.str "a", .str "A", .str "", .none, .int 7, .str "toolong", .list [.str "a"], .str "a b", .bool true]
def titles : List Str := ["a", "b", "zzzzzz", "far"]
structure Ask (d : PyData) : Prop where
  sm : SmD d
  sw : Shw 40 d
  dp : d.depth ≤ 1
  cl : d.canLay0 = true
  nq : d ≠ .str "q"
def goodO (d : PyData) : Bool := d.showable && decide (d.depth ≤ 1) && decide (d.shown.length ≤ 40) && d.canLay0 && match d with | .str z => decide (z.length ≤ 100) && decide (z ≠ "q") | _ => true
theorem all_good : (ruleWords.map PyData.str ++ titles.map PyData.str ++ oddW ++ oddT).all goodO = true := by decide +kernel
theorem ask_of {d : PyData} (h : goodO d = true) : Ask d := by
  unfold goodO at h
  simp only [Bool.and_eq_true, decide_eq_true_eq] at h
  obtain ⟨⟨⟨⟨q1, q2⟩, q3⟩, q4⟩, q5⟩ := h
  refine ⟨fun z e => ?_, ⟨q1, by omega, q3⟩, q2, q4, fun e => ?_⟩
  · subst e
    have q5 : (decide (z.length ≤ 100) && decide (z ≠ "q")) = true := q5
    simp only [Bool.and_eq_true, decide_eq_true_eq] at q5
    omega
  · subst e
    have q5 : (decide (("q" : Str).length ≤ 100) && decide (("q" : Str) ≠ "q")) = true := q5
    simp at q5
theorem ask_word {z : Str} (h : z ∈ ruleWords) : Ask (.str z) := ask_of (List.all_eq_true.mp all_good _ (by simp only [List.mem_append]; exact .inl (.inl (.inl (List.mem_map_of_mem h)))))
theorem ask_title {z : Str} (h : z ∈ titles) : Ask (.str z) := ask_of (List.all_eq_true.mp all_good _ (by simp only [List.mem_append]; exact .inl (.inl (.inr (List.mem_map_of_mem h)))))
theorem ask_oddW {d : PyData} (h : d ∈ oddW) : Ask d := ask_of (List.all_eq_true.mp all_good _ (by simp only [List.mem_append]; exact .inl (.inr h)))
theorem ask_oddT {d : PyData} (h : d ∈ oddT) : Ask d := ask_of (List.all_eq_true.mp all_good _ (by simp only [List.mem_append]; exact .inr h))
theorem badW_mem : ∀ {es : List PyData} {seen : List Str} {d : PyData}, badW seen es = some d → d ∈ es
  | [], _, _, h => by cases h
  | x :: r, seen, d, h => by
    cases hw : wdOf x with
    | none => rw [badW_no hw] at h; cases h; exact List.mem_cons_self
    | some z =>
      rw [badW_yes hw] at h
      by_cases hm : z ∈ seen
      · rw [if_pos hm] at h; cases h; exact List.mem_cons_self
      · rw [if_neg hm] at h; exact List.mem_cons_of_mem _ (badW_mem h)
theorem bad_mem : ∀ {ds : List PyData} {d : PyData}, badOf ds = some d → d ∈ ds
  | [], _, h => by cases h
  | x :: r, d, h => by
    have h : (if nameOf x = none then some x else badOf r) = some d := h
    by_cases q : nameOf x = none
    · rw [if_pos q] at h
      cases h
      exact List.mem_cons_self
    · rw [if_neg q] at h
      exact List.mem_cons_of_mem _ (bad_mem h)
theorem twi_mem : ∀ {seen zs : List Str} {z : Str}, twi seen zs = some z → z ∈ zs
  | _, [], _, h => by cases h
  | seen, x :: r, z, h => by
    have h : (if x ∈ seen then some x else twi (seen ++ [x]) r) = some z := h
    by_cases q : x ∈ seen
    · rw [if_pos q] at h
      cases h
      exact List.mem_cons_self
    · rw [if_neg q] at h
      exact List.mem_cons_of_mem _ (twi_mem h)
def wdF : Flt → Str
  | .rule _ => "rule"
  | .name _ => "name"
  | .twice _ => "twice"
def dF : Flt → PyData
  | .rule d => d
  | .name d => d
  | .twice z => .str z
theorem wd_ne : ∀ f : Flt, ¬ wdF f = "told"
  | .rule _ => by show ¬ ("rule" : Str) = "told"; decide +kernel
  | .name _ => by show ¬ ("name" : Str) = "told"; decide +kernel
  | .twice _ => by show ¬ ("twice" : Str) = "told"; decide +kernel
theorem fltD_eq (f : Flt) : fltD f = .tuple [.str (wdF f), dF f] := by cases f <;> rfl
theorem flt_mem {es ds : List PyData} {f : Flt} (h : ruleF es ds = some f) : dF f ∈ es ∨ dF f ∈ ds ∨ dF f = .none := by
  unfold ruleF at h
  by_cases h0 : es = []
  · rw [if_pos h0] at h; cases h; exact .inr (.inr rfl)
  rw [if_neg h0] at h
  cases hb : badW [] es with
  | some d => rw [hb] at h; cases h; exact .inl (badW_mem hb)
  | none =>
    rw [hb] at h
    have h : pinF ds = some f := h
    cases hc : badOf ds with
    | some d => rw [pinF_bad hc] at h; cases h; exact .inr (.inl (bad_mem hc))
    | none => cases ht : twi [] (namesOf ds) with
      | some z =>
        rw [pinF_two hc ht] at h; cases h
        refine .inr (.inl ?_)
        rw [(bad_none hc).1]
        exact List.mem_map_of_mem (twi_mem ht)
      | none => rw [pinF_ok hc ht] at h; cases h
theorem s_rule : Shw 40 (.str "rule") := ⟨rfl, by decide, by decide +kernel⟩
theorem s_name : Shw 40 (.str "name") := ⟨rfl, by decide, by decide +kernel⟩
theorem s_twice : Shw 40 (.str "twice") := ⟨rfl, by decide, by decide +kernel⟩
theorem s_told : Shw 500 (.str "told") := ⟨rfl, by decide, by decide +kernel⟩
theorem s_none : Shw 40 .none := ⟨rfl, by decide, by decide +kernel⟩
theorem due_shw {es ds : List PyData} (he : ∀ d ∈ es, Ask d) (hd : ∀ d ∈ ds, Ask d) (le : es.length ≤ 10) (ld : ds.length ≤ 10) : Shw 3000 (dueD es ds) := by
  cases hf : ruleF es ds with
  | some f =>
    rw [dueD_some hf, fltD_eq]
    have h1 : Shw 40 (dF f) ∧ (dF f).depth ≤ 1 := by
      rcases flt_mem hf with h | h | h
      · exact ⟨(he _ h).sw, (he _ h).dp⟩
      · exact ⟨(hd _ h).sw, (hd _ h).dp⟩
      · rw [h]; exact ⟨s_none, by decide⟩
    have h2 : Shw 40 (.str (wdF f)) := by
      cases f
      · exact s_rule
      · exact s_name
      · exact s_twice
    exact (h2.tup2 h1.1 (show (0 : Nat) < 20 by decide) (by have := h1.2; omega)).mono (by omega)
  | none =>
    rw [dueD_none hf]
    have h1 : Shw 500 (.tuple es) := (Shw.tupN (k := 1) (fun d h => (he d h).sw) (fun d h => (he d h).dp) (by omega)).mono (by omega)
    have h2 : Shw 500 (.tuple ds) := (Shw.tupN (k := 1) (fun d h => (hd d h).sw) (fun d h => (hd d h).dp) (by omega)).mono (by omega)
    refine (Shw.tupN (n := 500) (k := 2) (ds := [.str "told", .tuple es, .tuple ds]) (fun d h => ?_) (fun d h => ?_) (by omega)).mono (by show 3 * 500 + 2 * 3 + 3 ≤ 3000; omega)
    · simp only [List.mem_cons, List.mem_nil_iff, or_false] at h
      rcases h with rfl | rfl | rfl
      · exact s_told
      · exact h1
      · exact h2
    · simp only [List.mem_cons, List.mem_nil_iff, or_false] at h
      rcases h with rfl | rfl | rfl
      · exact Nat.zero_le _
      · exact depth_tup (fun d h => (he d h).dp)
      · exact depth_tup (fun d h => (hd d h).dp)
theorem lst_shw {ds : List PyData} (hd : ∀ d ∈ ds, Ask d) (ld : ds.length ≤ 10) : Shw 500 (.list ds) := (Shw.listN (k := 1) (fun d h => (hd d h).sw) (fun d h => (hd d h).dp) (by omega)).mono (by omega)
theorem tup_shw {ds : List PyData} (hd : ∀ d ∈ ds, Ask d) (ld : ds.length ≤ 10) : Shw 500 (.tuple ds) := (Shw.tupN (k := 1) (fun d h => (hd d h).sw) (fun d h => (hd d h).dp) (by omega)).mono (by omega)
/-- a list is no table -/
theorem tabs_lst {T : List (Addr × Str)} {H : Hp} {l : Addr} {xs : List V} {o : HO} (t : LamX.Tabs T H) (h : H l = some (.lst xs)) : LamX.Tabs T (upd H l o) := fun q hq => by
  obtain ⟨ps, h1, h2, h3⟩ := t q hq
  have n : ∀ {b : Addr} {u : HO}, H b = some u → (∀ zs, u ≠ .lst zs) → (upd H l o) b = some u := fun {b u} e n => by
    rw [upd_ne fun z => by
      rw [z, h] at e
      exact n xs (Option.some.inj e).symm]
    exact e
  refine ⟨ps, n h1 (fun zs z => by cases z), h2, fun pos cv hcv => ?_⟩
  obtain ⟨c', e1, e2⟩ := h3 pos cv hcv
  exact ⟨c', e1, n e2 (fun zs z => by unfold LamX.CodeO at z; cases z)⟩
theorem RuleAt.updL {CR : Addr} {H : Hp} {a l : Addr} {zs ns : List Str} {xs : List V} {o : HO} (h : RuleAt CR H a zs ns) (hl : H l = some (.lst xs)) : RuleAt CR (upd H l o) a zs ns := by
  obtain ⟨dx, p, t, h1, h2, h3⟩ := h.ex
  exact ⟨⟨dx, p, t, by rw [upd_ne (ne_of h1 hl (by intro z; cases z))]; exact h1, by rw [upd_ne (ne_of h2 hl (by intro z; cases z))]; exact h2, by rw [upd_ne (ne_of h3 hl (by intro z; cases z))]; exact h3⟩, h.wd, h.nm⟩
section
variable {P : Program} {w : World} {K : PySem.W.Frag} {mg : Str → Option Value} {base : Heap} {CE CN CB CW CR : Addr} {tL tN : Tok}
/-- _law_heard(lambda: _law_made(words, tight)) answers what is due -/
theorem made_end {TT : List (Addr × Str)} {H : Hp} {l1 l2 : Addr} {ys xs : List V} {es ds : List PyData} {Q Q' : VK} {E' : XK} (h1 : H l1 = some (.lst ys)) (h2 : H l2 = some (.lst xs)) (he : ArgsAt H ys es) (ha : ArgsAt H xs ds) (hy : ys.length ≤ 6) (hT : LamX.Tabs TT H)
    (hE : ∀ cls d H', HeardE CB CN CW Q cls d H' → E' cls d H') (hQ : ∀ v H1, HeardV CR Q v H1 → Q' v H1) (k : ∀ v H', LamX.ExtN H H' → LamX.Tabs TT H' → TV H' v (dueD es ds) → Q v H') : spMade K CN CB CW CR TT [.ref l1, .ref l2] H Q' E' := by
  refine ⟨l1, l2, ys, xs, es, ds, rfl, h1, .inr (SqL.of h2), he, ha, hy, hT, fun f hf H1 x1 t1 => ?_, fun hf a zs H1 ez x1 t1 r1 => hQ _ _ ⟨a, zs, namesOf ds, rfl, r1, fun p1 p2 q H2 hp1 hp2 e2 hq => k _ H2 (x1.trans (LamX.ExtN.of e2)) (t1.ext e2) ?_⟩⟩
  · have go : ∀ {C : Addr} {fl wd : Str} {v : V} {d : PyData} {H1' : Hp}, LamX.ExtN H H1' → LamX.Tabs TT H1' → Way CB CN CW C fl wd → fltD f = .tuple [.str wd, d] → TV H1' v d → Errs C fl v H1' E' := fun {C fl wd v d H1'} x1 t1 hw hd hv dd H2 e2 hdd =>
      hE _ _ _ ⟨C, dd, v, fl, wd, rfl, rfl, (nw_some hdd).2, hw, fun p H3 e3 hp => k _ H3 (x1.trans (LamX.ExtN.of (e2.trans e3))) (t1.ext (e2.trans e3)) (by rw [dueD_some hf, hd]; exact .tup (nw_some hp).2 (.cons (.str _) (.cons (hv.ext (e2.trans e3)) .nil)))⟩
    cases f with
    | rule d => exact fun v H2 e2 hv => go (x1.trans (LamX.ExtN.of e2)) (t1.ext e2) (.inl ⟨rfl, rfl, rfl⟩) rfl hv
    | name d => exact fun v H2 e2 hv => go (x1.trans (LamX.ExtN.of e2)) (t1.ext e2) (.inr (.inl ⟨rfl, rfl, rfl⟩)) rfl hv
    | twice z => exact go x1 t1 (.inr (.inr ⟨rfl, rfl, rfl⟩)) rfl (.str z)
  · rw [dueD_none hf, ez, (bad_none (ruleF_none hf).2.2.1).1]
    exact .tup (nw_some hq).2 (.cons (.str _) (.cons (.tup (e2 _ _ hp1) (tvs_strs _)) (.cons (.tup (e2 _ _ hp2) (tvs_strs _)) .nil)))
def spLaw (K : PySem.W.Frag) (TT : List (Addr × Str)) : Sp := fun vs H Q _ => ∃ (a : Addr) (ns : List Int), vs = [.ref a] ∧ SqL K H a (ns.map V.int) ∧ ns.length ≤ 63 ∧ LamX.Tabs TT H ∧ ∀ H', Q (.bl true) H'
abbrev s_law : Stmt := top 21
abbrev N_law : List Str := ["_law_script", "_law_pen_here", "_law_lap", "_law_words", "_law_odd", "_law_tight", "_law_due_here", "_law_passed", "_law_habit", "_law_bare"]
theorem sc_law : FnScope N_law ["_law_script"] (defScope s_law) := ⟨rfl, rfl, rfl, by decide +kernel, rfl, by decide +kernel, by decide +kernel⟩
theorem ok_law {f g c2 P2 fe : Addr} {fd fdh : FuncData} {TT : List (Addr × Str)} (F : Fun K "law" "law" s_law f fd) (T : Tx K mg CE CN CB CW CR tL tN) (hC : ClR K CR) (C : RuK K CR fe)
    (F__law_heard : Fun K "_law_heard" "_law_heard" s__law_heard g fdh) (m__law_heard : mg "_law_heard" = some (.ref g)) (b__law_heard : L2.Binds K fdh ["_law_ask"] [])
    (eB : ErrT K CE CB CN CW CB "value" true false false) (eN : ErrT K CE CB CN CW CN "value" false true false) (eW : ErrT K CE CB CN CW CW "name" false false true)
    (hfc : fd.code = .ref c2) (TB : LamX.TabB base mg c2 P2) (hmT : (P2, ("law.<locals>.<lambda>" : Str)) ∈ TT) (huT : ∀ p ∈ TT, p.1 = P2 → p.2 = ("law.<locals>.<lambda>" : Str)) (hsys : (base.get? sysModules).isSome = true)
    (rE : FnR P w K mg base CX0 2 fe (spEq K CR)) (c_words : Prp P w K mg base CX0 1 (· = CR) "words" (spWords CR)) (c_pins : Prp P w K mg base CX0 1 (· = CR) "pins" (spPins CR))
    (c_Rule : Mkc P w K mg base (L2.CX P w) 4 CR "Rule" (spRule1 CR)) (c_Rule_sk : MkSK P w K mg base (L2.CX P w) 4 CR "Rule" "pins" (spRule K CN CB CW CR))
    (c__law_pen : Cal P w K mg base CX0 1 "_law_pen" (spPen K)) (c__law_draw : Cal P w K mg base CX0 1 "_law_draw" spDraw) (c__law_pick : Cal P w K mg base CX0 2 "_law_pick" (spPick K)) (c__law_mixed : Cal P w K mg base CX0 2 "_law_mixed" spMixed)
    (c__law_made : Cal P w K mg base (L2.CX P w) 7 "_law_made" (spMade K CN CB CW CR TT)) (c__law_due : Cal P w K mg base CX0 1 "_law_due" spDue) (c__law_alike_right : Cal P w K mg base CX0 8 "_law_alike_right" (spAlike TT)) :
    FnG P w K mg base CX0 10 f fd ["_law_script"] (spLaw K TT) := by
  have hfe := C.fn
  refine okG F sc_law (fun vs H Q E h => ?_) (fun cdv A outer s H vs Q E hcd hgd hr h => ?_)
  · obtain ⟨a, ns, rfl, _⟩ := h
    rfl
  · obtain ⟨a, ns, rfl, ha, hn, hT, k⟩ := h
    rw [hfc] at hcd
    subst hcd
    have h4 : sizeLine = 16777216 := sizeLine_eq
    refine ⟨_, (pss_cons (ps_set (i := 1) sc_law.nd rfl (by first | exact Or.inl rfl | exact Or.inr rfl) (pe_cal c__law_pen (hr.mono (by decide)) (by rfl) pass0 (pa_cons (pv 0) pa_nil)))
      (pss_cons (ps_for PassesOwn.never rfl (pi_range1 rfl (T.bn _ (by decide +kernel)) (pa_cons pe_int pa_nil)) (pg_name (i := 2) sc_law.nd rfl (by first | exact Or.inl rfl | exact Or.inr rfl))
      (pss_cons (ps_set (i := 3) sc_law.nd rfl (by first | exact Or.inl rfl | exact Or.inr rfl) (pe_slice sl_list (pe_cal c__law_mixed (hr.mono (by decide)) (by rfl) pass0 (pa_cons (pv 1) (pa_cons (pe_lst (pa_cons pe_str (pa_cons pe_str (pa_cons pe_str (pa_cons pe_str (pa_cons pe_str pa_nil)))))) pa_nil))) po_none (po_some (pe_cal c__law_draw (hr.mono (by decide)) (by rfl) pass0 (pa_cons (pv 1) (pa_cons pe_int pa_nil))))))
      (pss_cut (ps_if (pt_cmpR op_eq (pe_cal c__law_draw (hr.mono (by decide)) (by rfl) pass0 (pa_cons (pv 1) (pa_cons pe_int pa_nil))) pe_int (nomark _)) (pss_cons (ps_set (i := 4) sc_law.nd rfl (by first | exact Or.inl rfl | exact Or.inr rfl) (pe_cal c__law_pick (hr.mono (by decide)) (by rfl) pass0 (pa_cons (pv 1) (pa_cons (pe_lst (pa_cons pe_str (pa_cons pe_str (pa_cons pe_str (pa_cons pe_non (pa_cons pe_int (pa_cons pe_str (pa_cons (pe_lst (pa_cons pe_str pa_nil)) (pa_cons pe_str (pa_cons pe_bl (pa_cons (pe_tup (pa_cons pe_str pa_nil)) pa_nil))))))))))) pa_nil))))
      (pss_one (ps_expr (pe_bm PySem.F.plainAttrs_list PySem.F.slot_list_insert PySem.F.type_list_insert mt_insert (pv 3) (pa_cons (pe_cal c__law_draw (hr.mono (by decide)) (by rfl) pass0 (pa_cons (pv 1) (pa_cons (pe_op op_add (pe_callB call_len_seq (by rfl) (T.bn _ (by decide +kernel)) (by decide +kernel) (pa_cons (pv 3) pa_nil)) pe_int) pa_nil))) (pa_cons (pv 4) pa_nil)))))) pss_nil)
      (pss_cons (ps_set (i := 5) sc_law.nd rfl (by first | exact Or.inl rfl | exact Or.inr rfl) (pe_slice sl_list (pe_cal c__law_mixed (hr.mono (by decide)) (by rfl) pass0 (pa_cons (pv 1) (pa_cons (pe_lst (pa_cons pe_str (pa_cons pe_str (pa_cons pe_str (pa_cons pe_str pa_nil))))) pa_nil))) po_none (po_some (pe_cal c__law_draw (hr.mono (by decide)) (by rfl) pass0 (pa_cons (pv 1) (pa_cons pe_int pa_nil))))))
      (pss_cut (ps_if (pt_cmpR op_eq (pe_cal c__law_draw (hr.mono (by decide)) (by rfl) pass0 (pa_cons (pv 1) (pa_cons pe_int pa_nil))) pe_int (nomark _)) (pss_cons (ps_set (i := 4) sc_law.nd rfl (by first | exact Or.inl rfl | exact Or.inr rfl) (pe_cal c__law_pick (hr.mono (by decide)) (by rfl) pass0 (pa_cons (pv 1) (pa_cons (pe_lst (pa_cons pe_str (pa_cons pe_str (pa_cons pe_str (pa_cons pe_non (pa_cons pe_int (pa_cons pe_str (pa_cons (pe_lst (pa_cons pe_str pa_nil)) (pa_cons pe_str (pa_cons pe_bl pa_nil)))))))))) pa_nil))))
      (pss_one (ps_expr (pe_bm PySem.F.plainAttrs_list PySem.F.slot_list_insert PySem.F.type_list_insert mt_insert (pv 5) (pa_cons (pe_cal c__law_draw (hr.mono (by decide)) (by rfl) pass0 (pa_cons (pv 1) (pa_cons (pe_op op_add (pe_callB call_len_seq (by rfl) (T.bn _ (by decide +kernel)) (by decide +kernel) (pa_cons (pv 5) pa_nil)) pe_int) pa_nil))) (pa_cons (pv 4) pa_nil)))))) pss_nil)
      (pss_cons (ps_set (i := 6) sc_law.nd rfl (by first | exact Or.inl rfl | exact Or.inr rfl) (pe_cal c__law_due (hr.mono (by decide)) (by rfl) pass0 (pa_cons (pv 3) (pa_cons (pv 5) pa_nil))))
      (pss_cons (ps_set (i := 7) sc_law.nd rfl (by first | exact Or.inl rfl | exact Or.inr rfl) (pe_callTy call_list_of (by rfl) (T.bn _ (by decide +kernel)) (by decide +kernel) (pa_cons (pv 5) pa_nil)))
      (pss_cons (ps_if (PW.pt (pw_or (pt_cmpR op_ne (pe_callB (call_repr hgd hr hsys) (by rfl) (T.bn _ (by decide +kernel)) (by decide +kernel) (pa_cons (pe_lamS (T := TT) (k := 7) F__law_heard (by rfl) m__law_heard b__law_heard sc__law_heard rfl (.inl rfl) (fun cdv => heard_gives T eB eN eW c_words c_pins (hr.mono (by decide))) TB rfl hmT huT (hr.mono (by decide)) (LamX.lamS_by (sc := defScope s_law) (by decide +kernel)) rfl (fun _ _ _ _ _ => rfl) (fun A outer s H E f c2 hr => (pe_cal c__law_made (hr.mono (by decide)) (by rfl) passLm (pa_cons (pv 3) (pa_cons (pv 5) pa_nil))))) pa_nil)) (pe_callB (call_repr hgd hr hsys) (by rfl) (T.bn _ (by decide +kernel)) (by decide +kernel) (pa_cons (pv 6) pa_nil)) (nomark _)) (pw_or1 (pt_cmpR op_ne (pe_callB (call_repr hgd hr hsys) (by rfl) (T.bn _ (by decide +kernel)) (by decide +kernel) (pa_cons (pv 5) pa_nil)) (pe_callB (call_repr hgd hr hsys) (by rfl) (T.bn _ (by decide +kernel)) (by decide +kernel) (pa_cons (pv 7) pa_nil)) (nomark _))))) (pss_one (ps_ret pe_bl)) pss_nil)
      (pss_one (ps_if (pt_cmpR op_eq (pe_ix ix_tup (pv 6) pe_int (fun _ _ => rfl)) pe_str (nomark _)) (pss_cons (ps_set (i := 8) sc_law.nd rfl (by first | exact Or.inl rfl | exact Or.inr rfl) (pe_cal c__law_made (hr.mono (by decide)) (by rfl) passN (pa_cons (pv 3) (pa_cons (pv 5) pa_nil))))
      (pss_cons (ps_expr (pe_bm PySem.F.plainAttrs_list PySem.F.slot_list_append PySem.F.type_list_append mt_append (pv 5) (pa_cons pe_str pa_nil)))
      (pss_one (ps_if ((pw_or (pt_cmpR op_ne (pe_callB (call_repr hgd hr hsys) (by rfl) (T.bn _ (by decide +kernel)) (by decide +kernel) (pa_cons ((pe_prp c_pins (hr.mono (by decide)) pass0) (pv 8)) pa_nil)) (pe_callB (call_repr hgd hr hsys) (by rfl) (T.bn _ (by decide +kernel)) (by decide +kernel) (pa_cons (pe_ix ix_tup (pv 6) pe_int (fun _ _ => rfl)) pa_nil)) (nomark _)) (pw_or1 (pt_not (pt_val (pe_cal c__law_alike_right (hr.mono (by decide)) (by rfl) pass0 (pa_cons (pv 3) (pa_cons (pv 7) pa_nil)))))))).pt (pss_one (ps_ret pe_bl)) pss_nil)))) pss_nil))))))))))
      (pss_cons (ps_set (i := 9) sc_law.nd rfl (by first | exact Or.inl rfl | exact Or.inr rfl) (pe_mkc c_Rule (hr.mono (by decide)) (by rfl) passN (pa_cons pe_str pa_nil)))
      (pss_one (ps_ret (pe_and (pe_cmpR (op_eqD hr.units) ((pe_prp c_pins (hr.mono (by decide)) pass0) (pv 9)) (pe_tup pa_nil) (nomark _)) (pe_and (pe_cmpR (op_eqD hr.units) (ClX.pe_cval (pe_gref (by rfl) T.m_Rule)) (pe_tup (pa_cons pe_str (pa_cons pe_str (pa_cons pe_str (pa_cons pe_str (pa_cons pe_str pa_nil)))))) (nomark _)) (pe_one (pe_cmpR (op_eqO rE hfe (hr.mono (by decide)) pass0) (pv 9) (pe_makeSK c_Rule_sk (hr.mono (by decide)) (by rfl) passN (pa_cons pe_str pa_nil) (pk_cons (pe_tup pa_nil) pk_nil)) (nomark _)))))))))), ?_⟩
    refine ⟨_, rfl, a, ns, rfl, ha, by omega, fun p c H1 hp e1 => ?_⟩
    have T1 := hT.ext e1
    refine ⟨8, rfl, by decide, by decide, for_range (n := 8) (fun i σ H' => ∃ x2 x3 x4 x5 x6 x7 x8, σ = [some (.ref a), some (.ref p), x2, x3, x4, x5, x6, x7, x8, none] ∧ PenAt H' p c ∧ LamX.Tabs TT H') ⟨_, _, _, _, _, _, _, rfl, hp, T1⟩ ?_ ?_⟩
    · rintro i σ H2 hi ⟨o2, o3, o4, o5, o6, o7, o8, rfl, hp2, T2⟩
      have hi : i < 8 := hi
      refine ⟨_, rfl, (by show 5 ≤ sizeLine; decide), fun q0 nq0 => ?_⟩
      obtain ⟨n1, n2⟩ := hp2.ne nq0
      refine ⟨p, c, q0, ruleWords, rfl, hp2.ext (Ext.upd nq0), upd_same, n1.symm, n2.symm, by decide, fun l us H4 nl nlp nlc hl hus hln hp4 kp4 => ?_⟩
      have T4 := (hp2.ext (Ext.upd nq0)).tabs (T2.ext (Ext.upd nq0)) kp4
      refine ⟨_, rfl, p, c, 6, rfl, hp4, by decide, by decide, fun u H5 u0 u1 hp5 kp5 => ?_⟩
      have T5 := hp4.tabs T4 kp5
      refine ⟨_, rfl, l, _, rfl, SqL.of (kp5 _ _ hl nlp nlc), fun L nL => ?_⟩
      rw [cutV_to _ u0, ← List.map_take]
      obtain ⟨npL, ncL⟩ := hp5.ne nL
      have e6 : Ext H5 (upd H5 L (.lst ((us.take u.toNat).map V.str))) := Ext.upd nL
      have f6 : (upd H5 L (.lst ((us.take u.toNat).map V.str))) L = some (.lst ((us.take u.toNat).map V.str)) := upd_same
      generalize (upd H5 L (.lst ((us.take u.toNat).map V.str))) = H6 at e6 f6
      have hp6 := hp5.ext e6
      have T6 := T5.ext e6
      refine ⟨fun σ' H' => ∃ x4 ys es, σ' = [some (.ref a), some (.ref p), some (.int (0 + (i : Int))), some (.ref L), x4, o5, o6, o7, o8, none] ∧ PenAt H' p c ∧ LamX.Tabs TT H' ∧ H' L = some (.lst ys) ∧ TVs (vis [p, c, L] H') ys es ∧ ys.length ≤ 6 ∧ ∀ d ∈ es, Ask d, ?_, ?_⟩
      · have hsp : ∀ {H' : Hp}, PenAt H' p c → H' L ≠ none → ∀ b ∈ [p, c, L], H' b ≠ none := fun {H'} h hL b hb => by
          obtain ⟨kvs, ns, r, sd, ct, q1, _, q2, _⟩ := h
          simp only [List.mem_cons, List.mem_nil_iff, or_false] at hb
          rcases hb with rfl | rfl | rfl
          · rw [q1]; simp
          · rw [q2]; simp
          · exact hL
        have hask : ∀ d ∈ (us.take u.toNat).map PyData.str, Ask d := fun d hd => by
          obtain ⟨z, hz, rfl⟩ := List.mem_map.mp hd
          exact ask_word (hus z (List.mem_of_mem_take hz))
        have hl5 : ((us.take u.toNat).map V.str).length ≤ 5 := by rw [List.length_map, List.length_take]; omega
        refine ⟨_, rfl, p, c, 3, rfl, hp6, by decide, by decide, fun j H7 j0 j1 hp7 kp7 => ?_⟩
        have T7 := hp6.tabs T6 kp7
        have f7 := kp7 _ _ f6 npL.symm ncL.symm
        refine ⟨rfl, _, rfl, ?_⟩
        refine ite2 (fun _ => ?_) (fun _ => ?_)
        · refine ⟨_, rfl, (by show 1 ≤ sizeLine; decide), fun n1 hn1 => ⟨(by show 1 ≤ sizeLine; decide), fun n2 hn2 => ⟨(by show 10 ≤ sizeLine; decide), fun O hO => ?_⟩⟩⟩
          have a1 : n1 ≠ n2 := ne_of_none upd_same hn2
          have a2 : n2 ≠ O := ne_of_none upd_same hO
          have a3 : n1 ≠ O := ne_of_none (by rw [upd_ne a1]; exact upd_same) hO
          have m2 : H7 n2 = none := by rw [upd_ne a1.symm] at hn2; exact hn2
          obtain ⟨npO, ncO⟩ := ((hp7.ext (Ext.upd hn1)).ext (Ext.upd hn2)).ne hO
          have e8 := (Ext.upd (o := .lst [V.str "far"]) hn1).trans ((Ext.upd (o := .tup [V.str "far"]) hn2).trans (Ext.upd (o := .lst [V.str "far", V.str "Far", V.str "", V.non, V.int 7, V.str "near", V.ref n1, V.str "old ", V.bl true, V.ref n2]) hO))
          have g3 : (upd (upd (upd H7 n1 (.lst [V.str "far"])) n2 (.tup [V.str "far"])) O (.lst [V.str "far", V.str "Far", V.str "", V.non, V.int 7, V.str "near", V.ref n1, V.str "old ", V.bl true, V.ref n2])) O = some (.lst [V.str "far", V.str "Far", V.str "", V.non, V.int 7, V.str "near", V.ref n1, V.str "old ", V.bl true, V.ref n2]) := upd_same
          have g1 : (upd (upd (upd H7 n1 (.lst [V.str "far"])) n2 (.tup [V.str "far"])) O (.lst [V.str "far", V.str "Far", V.str "", V.non, V.int 7, V.str "near", V.ref n1, V.str "old ", V.bl true, V.ref n2])) n1 = some (.lst [V.str "far"]) := by rw [upd_ne a3, upd_ne a1]; exact upd_same
          have g2 : (upd (upd (upd H7 n1 (.lst [V.str "far"])) n2 (.tup [V.str "far"])) O (.lst [V.str "far", V.str "Far", V.str "", V.non, V.int 7, V.str "near", V.ref n1, V.str "old ", V.bl true, V.ref n2])) n2 = some (.tup [V.str "far"]) := by rw [upd_ne a2]; exact upd_same
          refine ⟨p, c, O, _, rfl, hp7.ext e8, npO.symm, ncO.symm, g3, (by show 0 < 10; decide), (by show 10 ≤ 1000; decide), ?_⟩
          generalize (upd (upd (upd H7 n1 (.lst [V.str "far"])) n2 (.tup [V.str "far"])) O (.lst [V.str "far", V.str "Far", V.str "", V.non, V.int 7, V.str "near", V.ref n1, V.str "old ", V.bl true, V.ref n2])) = H8 at e8 g1 g2 g3
          refine fun x H9 hx hp9 kp9 => ?_
          have tvn : TVs (nw H7 H8) [V.str "far", V.str "Far", V.str "", V.non, V.int 7, V.str "near", V.ref n1, V.str "old ", V.bl true, V.ref n2] oddW :=
            .cons (.str _) (.cons (.str _) (.cons (.str _) (.cons .non (.cons (.int _) (.cons (.str _) (.cons (.lst (by rw [nw_at hn1]; exact g1) (.cons (.str _) .nil)) (.cons (.str _) (.cons (.bl _) (.cons (.tup (by rw [nw_at m2]; exact g2) (.cons (.str _) .nil)) .nil)))))))))
          have hp8 := hp7.ext e8
          have f8 := e8 _ _ f7
          obtain ⟨d, hd, tvd⟩ := ((tvs_new (hsp hp7 (by rw [f7]; simp)) tvn).ext (vis_keep kp9 (by simp) (by simp))).mem hx
          have T9 := hp8.tabs (T7.ext e8) kp9
          have f9 := kp9 _ _ f8 npL.symm ncL.symm
          refine ⟨_, rfl, .inl ⟨rfl, _, SqL.of f9⟩, _, rfl, _, rfl, L, _, rfl, .inl (SqL.of f9), _, _, rfl, rfl, p, c, _, rfl, hp9, by omega, by omega, fun v H10 v0 v1 hp10 kp10 => ?_⟩
          have f10 := kp10 _ _ f9 npL.symm ncL.symm
          refine ⟨_, rfl, L, _, v, x, rfl, rfl, f10, by omega, v0, by omega, ?_⟩
          refine ⟨x, _, (((us.take u.toNat).map PyData.str).take v.toNat ++ [d] ++ ((us.take u.toNat).map PyData.str).drop v.toNat), rfl, hp10.upd npL ncL, ?_, upd_same, ?_, ?_, ?_⟩
          · exact tabs_lst (hp9.tabs T9 kp10) f10
          · rw [vis_upd (by simp)]
            exact TVs.put _ (tvs_strs _) (tvd.ext (vis_keep kp10 (by simp) (by simp)))
          · rw [put_len]; omega
          · intro y hy
            rcases put_mem hy with hy | rfl
            · exact hask y hy
            · exact ask_oddW hd
        · exact ⟨_, _, _, rfl, hp7, T7, f7, tvs_strs _, by omega, hask⟩
      rintro σ' H7 ⟨o4', ys, es, rfl, hp7, T7, f7, tv7, hy6, hes⟩
      refine ⟨_, rfl, (by show 4 ≤ sizeLine; decide), fun q0 nq0 => ?_⟩
      obtain ⟨n1, n2⟩ := hp7.ne nq0
      refine ⟨p, c, q0, titles, rfl, hp7.ext (Ext.upd nq0), upd_same, n1.symm, n2.symm, by decide, fun l2 us2 H9 nl2 nlp2 nlc2 hl2 hus2 hln2 hp9 kp9 => ?_⟩
      have T9 := (hp7.ext (Ext.upd nq0)).tabs (T7.ext (Ext.upd nq0)) kp9
      refine ⟨_, rfl, p, c, 4, rfl, hp9, by decide, by decide, fun u2 H10 u20 u21 hp10 kp10 => ?_⟩
      have T10 := hp9.tabs T9 kp10
      have f10 := kp10 _ _ (kp9 _ _ (Ext.upd nq0 _ _ f7) npL.symm ncL.symm) npL.symm ncL.symm
      have tv10 := ((tv7.ext (vis_mono (Ext.upd (o := .lst (titles.map V.str)) nq0))).ext (vis_keep kp9 (by simp) (by simp))).ext (vis_keep kp10 (by simp) (by simp))
      refine ⟨_, rfl, l2, _, rfl, SqL.of (kp10 _ _ hl2 nlp2 nlc2), fun M nM => ?_⟩
      rw [cutV_to _ u20, ← List.map_take]
      obtain ⟨npM, ncM⟩ := hp10.ne nM
      have nLM : L ≠ M := ne_of_none f10 nM
      have e11 : Ext H10 (upd H10 M (.lst ((us2.take u2.toNat).map V.str))) := Ext.upd nM
      have f11 : (upd H10 M (.lst ((us2.take u2.toNat).map V.str))) M = some (.lst ((us2.take u2.toNat).map V.str)) := upd_same
      have tv11 : TVs (vis [p, c, L, M] (upd H10 M (.lst ((us2.take u2.toNat).map V.str)))) ys es := (tv10.ext (vis_add nM)).ext (vis_mono e11)
      generalize (upd H10 M (.lst ((us2.take u2.toNat).map V.str))) = H11 at e11 f11 tv11
      have g11 := e11 _ _ f10
      have hp11 := hp10.ext e11
      have T11 := T10.ext e11
      refine ⟨fun σ' H' => ∃ x4 xs ds, σ' = [some (.ref a), some (.ref p), some (.int (0 + (i : Int))), some (.ref L), x4, some (.ref M), o6, o7, o8, none] ∧ PenAt H' p c ∧ LamX.Tabs TT H' ∧ H' L = some (.lst ys) ∧ TVs (vis [p, c, L, M] H') ys es ∧ H' M = some (.lst xs) ∧ TVs (vis [p, c, L, M] H') xs ds ∧ xs.length ≤ 4 ∧ ∀ d ∈ ds, Ask d, ?_, ?_⟩
      · have hsp : ∀ {H' : Hp}, PenAt H' p c → H' L ≠ none → H' M ≠ none → ∀ b ∈ [p, c, L, M], H' b ≠ none := fun {H'} h hL hM b hb => by
          obtain ⟨kvs, ns, r, sd, ct, q1, _, q2, _⟩ := h
          simp only [List.mem_cons, List.mem_nil_iff, or_false] at hb
          rcases hb with rfl | rfl | rfl | rfl
          · rw [q1]; simp
          · rw [q2]; simp
          · exact hL
          · exact hM
        have hask : ∀ d ∈ (us2.take u2.toNat).map PyData.str, Ask d := fun d hd => by
          obtain ⟨z, hz, rfl⟩ := List.mem_map.mp hd
          exact ask_title (hus2 z (List.mem_of_mem_take hz))
        have hl5 : ((us2.take u2.toNat).map V.str).length ≤ 3 := by rw [List.length_map, List.length_take]; omega
        refine ⟨_, rfl, p, c, 4, rfl, hp11, by decide, by decide, fun j H12 j0 j1 hp12 kp12 => ?_⟩
        have T12 := hp11.tabs T11 kp12
        have f12 := kp12 _ _ f11 npM.symm ncM.symm
        have g12 := kp12 _ _ g11 npL.symm ncL.symm
        have tv12 := tv11.ext (vis_keep kp12 (by simp) (by simp))
        refine ⟨rfl, _, rfl, ?_⟩
        refine ite2 (fun _ => ?_) (fun _ => ?_)
        · refine ⟨_, rfl, (by show 1 ≤ sizeLine; decide), fun n1 hn1 => ⟨(by show 9 ≤ sizeLine; decide), fun O hO => ?_⟩⟩
          have a3 : n1 ≠ O := ne_of_none upd_same hO
          obtain ⟨npO, ncO⟩ := (hp12.ext (Ext.upd hn1)).ne hO
          have e13 := (Ext.upd (o := .lst [V.str "a"]) hn1).trans (Ext.upd (o := .lst [V.str "a", V.str "A", V.str "", V.non, V.int 7, V.str "toolong", V.ref n1, V.str "a b", V.bl true]) hO)
          have g3 : (upd (upd H12 n1 (.lst [V.str "a"])) O (.lst [V.str "a", V.str "A", V.str "", V.non, V.int 7, V.str "toolong", V.ref n1, V.str "a b", V.bl true])) O = some (.lst [V.str "a", V.str "A", V.str "", V.non, V.int 7, V.str "toolong", V.ref n1, V.str "a b", V.bl true]) := upd_same
          have g1 : (upd (upd H12 n1 (.lst [V.str "a"])) O (.lst [V.str "a", V.str "A", V.str "", V.non, V.int 7, V.str "toolong", V.ref n1, V.str "a b", V.bl true])) n1 = some (.lst [V.str "a"]) := by rw [upd_ne a3]; exact upd_same
          refine ⟨p, c, O, _, rfl, hp12.ext e13, npO.symm, ncO.symm, g3, (by show 0 < 9; decide), (by show 9 ≤ 1000; decide), ?_⟩
          generalize (upd (upd H12 n1 (.lst [V.str "a"])) O (.lst [V.str "a", V.str "A", V.str "", V.non, V.int 7, V.str "toolong", V.ref n1, V.str "a b", V.bl true])) = H13 at e13 g1 g3
          refine fun x H14 hx hp14 kp14 => ?_
          have tvn : TVs (nw H12 H13) [V.str "a", V.str "A", V.str "", V.non, V.int 7, V.str "toolong", V.ref n1, V.str "a b", V.bl true] oddT :=
            .cons (.str _) (.cons (.str _) (.cons (.str _) (.cons .non (.cons (.int _) (.cons (.str _) (.cons (.lst (by rw [nw_at hn1]; exact g1) (.cons (.str _) .nil)) (.cons (.str _) (.cons (.bl _) .nil))))))))
          have hp13 := hp12.ext e13
          have f13 := e13 _ _ f12
          have g13 := e13 _ _ g12
          have tv14 := (tv12.ext (vis_mono e13)).ext (vis_keep kp14 (by simp) (by simp))
          obtain ⟨d, hd, tvd⟩ := ((tvs_new (hsp hp12 (by rw [g12]; simp) (by rw [f12]; simp)) tvn).ext (vis_keep kp14 (by simp) (by simp))).mem hx
          have T14 := hp13.tabs (T12.ext e13) kp14
          have f14 := kp14 _ _ f13 npM.symm ncM.symm
          have g14 := kp14 _ _ g13 npL.symm ncL.symm
          refine ⟨_, rfl, .inl ⟨rfl, _, SqL.of f14⟩, _, rfl, _, rfl, M, _, rfl, .inl (SqL.of f14), _, _, rfl, rfl, p, c, _, rfl, hp14, by omega, by omega, fun v H15 v0 v1 hp15 kp15 => ?_⟩
          have f15 := kp15 _ _ f14 npM.symm ncM.symm
          have g15 := kp15 _ _ g14 npL.symm ncL.symm
          refine ⟨_, rfl, M, _, v, x, rfl, rfl, f15, by omega, v0, by omega, ?_⟩
          refine ⟨x, _, (((us2.take u2.toNat).map PyData.str).take v.toNat ++ [d] ++ ((us2.take u2.toNat).map PyData.str).drop v.toNat), rfl, hp15.upd npM ncM, tabs_lst (hp14.tabs T14 kp15) f15, by rw [upd_ne nLM]; exact g15, ?_, upd_same, ?_, ?_, ?_⟩
          · rw [vis_upd (by simp)]
            exact tv14.ext (vis_keep kp15 (by simp) (by simp))
          · rw [vis_upd (by simp)]
            exact TVs.put _ (tvs_strs _) (tvd.ext (vis_keep kp15 (by simp) (by simp)))
          · rw [put_len]; omega
          · intro y hy
            rcases put_mem hy with hy | rfl
            · exact hask y hy
            · exact ask_oddT hd
        · exact ⟨_, _, _, rfl, hp12, T12, g12, tv12, f12, tvs_strs _, by omega, hask⟩
      rintro σ' H12 ⟨o4'', xs, ds, rfl, hp12, T12, g12, tw12, f12, tx12, hx4, hds⟩
      have lye : ys.length = es.length := tw12.len
      have lxd : xs.length = ds.length := tx12.len
      have he12 : ArgsAt H12 ys es := ⟨tw12.ext vis_ext, fun d hd => (hes d hd).sm, by omega⟩
      have ha12 : ArgsAt H12 xs ds := ⟨tx12.ext vis_ext, fun d hd => (hds d hd).sm, by omega⟩
      have dsh := due_shw hes hds (by omega) (by omega)
      have lsh := lst_shw hds (by omega)
      refine ⟨_, rfl, _, rfl, L, M, ys, xs, es, ds, rfl, g12, f12, he12, ha12, fun d hd => (hes d hd).cl, fun dv H13 e13 t13 => ?_⟩
      refine ⟨_, rfl, M, _, rfl, .inl (SqL.of (e13 _ _ f12)), fun N nN => ?_⟩
      have e14 : Ext H13 (upd H13 N (.lst xs)) := Ext.upd nN
      have f14 : (upd H13 N (.lst xs)) N = some (.lst xs) := upd_same
      generalize (upd H13 N (.lst xs)) = H14 at e14 f14
      have e1214 := e13.trans e14
      refine ⟨T12.ext e1214, fun H15 x15 T15 E' Q' H16 e16 hE hQ => ?_⟩
      have x1216 := (LamX.ExtN.of e1214).trans (x15.trans (LamX.ExtN.of e16))
      refine ⟨_, rfl, _, rfl, made_end (x1216 _ _ g12 fun ps z => nomatch z) (x1216 _ _ f12 fun ps z => nomatch z) (he12.extN x1216) (ha12.extN x1216) hy6 (T15.ext e16) hE hQ fun v H17 x17 T17 t17 => ?_⟩
      refine ⟨v, _, rfl, t17, dsh.sh, Nat.le_trans dsh.dp (by decide), Nat.le_trans dsh.ln (by decide), ?_⟩
      have x1217 := x1216.trans x17
      have x1317 := (LamX.ExtN.of e14).trans (x15.trans ((LamX.ExtN.of e16).trans x17))
      have x1417 := x15.trans ((LamX.ExtN.of e16).trans x17)
      have t17' := tv_extN x1317 t13
      refine ⟨_, rfl, dv, _, rfl, t17', dsh.sh, Nat.le_trans dsh.dp (by decide), Nat.le_trans dsh.ln (by decide), rfl, _, rfl, ?_⟩
      refine iteNo (by rw [decide_eq_true rfl]; rfl) ?_
      have f17 := x1217 _ _ f12 fun ps z => nomatch z
      have g17 := x1217 _ _ g12 fun ps z => nomatch z
      have n17 := x1417 _ _ f14 fun ps z => nomatch z
      have hp17 := hp12.extN x1217
      have he17 := he12.extN x1217
      have ha17 := ha12.extN x1217
      refine ⟨_, rfl, .ref M, _, rfl, .lst f17 ha17.tv, lsh.sh, Nat.le_trans lsh.dp (by decide), Nat.le_trans lsh.ln (by decide), ?_⟩
      refine ⟨_, rfl, .ref N, _, rfl, .lst n17 ha17.tv, lsh.sh, Nat.le_trans lsh.dp (by decide), Nat.le_trans lsh.ln (by decide), rfl, _, rfl, ?_⟩
      refine iteNo (by rw [decide_eq_true rfl]; rfl) ?_
      cases hf : ruleF es ds with
      | some fl =>
        rw [dueD_some hf, fltD_eq] at t17'
        cases t17' with
        | tup ht hts =>
          cases hts with
          | cons h1 h2 =>
            cases tv_str h1
            refine ⟨_, rfl, _, _, 0, .str _, rfl, rfl, SqT.of ht, atI_nat (j := 0) rfl, rfl, _, rfl, ?_⟩
            refine iteNo (strNo (wd_ne fl)) ?_
            exact ⟨_, _, _, _, _, _, _, rfl, hp17, T17⟩
      | none =>
        obtain ⟨zs, ns', rfl, rfl, gd⟩ := good_of hf
        rw [dueD_none hf] at t17'
        cases t17' with
        | tup ht hts =>
          cases hts with
          | cons h1 h2 =>
            cases tv_str h1
            cases h2 with
            | cons h3 h4 =>
              cases h4 with
              | cons h5 h6 =>
                cases h6
                refine ⟨_, rfl, _, _, 0, .str _, rfl, rfl, SqT.of ht, atI_nat (j := 0) rfl, rfl, _, rfl, ?_⟩
                refine iteYes (decide_eq_true rfl) ?_
                have hya := tvs_back tw12
                subst hya
                have hxa := tvs_back tx12
                subst hxa
                have hq : ("q" : Str) ∉ ns' := fun hm => (hds (.str "q") (List.mem_map_of_mem hm)).nq rfl
                have zl6 : zs.length ≤ 6 := by rw [List.length_map] at hy6; exact hy6
                have nl4 : ns'.length ≤ 4 := by rw [List.length_map] at hx4; exact hx4
                refine ⟨_, rfl, _, rfl, ?_⟩
                dsimp only [tNil]
                refine made_good gd g17 (.inr (SqL.of f17)) zl6 (by omega) T17 fun ar H18 x18 T18 r18 => ?_
                have f18 := x18 _ _ f17 fun ps z => nomatch z
                have g18 := x18 _ _ g17 fun ps z => nomatch z
                have n18 := x18 _ _ n17 fun ps z => nomatch z
                have ht18 := x18 _ _ ht fun ps z => nomatch z
                have h5' := tv_extN x18 h5
                have hp18 := hp17.extN x18
                have lm : (ns'.map V.str).length = ns'.length := List.length_map _
                refine ⟨_, rfl, .inl ⟨rfl, _, SqL.of f18⟩, M, _, .str "q", rfl, rfl, f18, by rw [lm]; omega, ?_⟩
                cases h5' with
                | tup ht2 hts2 =>
                  have e2 := tvs_back hts2
                  subst e2
                  have nMN : N ≠ M := fun z => by
                    have q1 := e13 _ _ f12
                    rw [← z, nN] at q1
                    cases q1
                  have g19 : (upd H18 M (.lst (ns'.map V.str ++ [V.str "q"]))) L = some (.lst (zs.map V.str)) := by rw [upd_ne nLM]; exact g18
                  have n19 : (upd H18 M (.lst (ns'.map V.str ++ [V.str "q"]))) N = some (.lst (ns'.map V.str)) := by rw [upd_ne nMN]; exact n18
                  have ht19 : (upd H18 M (.lst (ns'.map V.str ++ [V.str "q"]))) _ = _ := (upd_ne (ne_of ht18 f18 (by intro z; cases z))).trans ht18
                  have ht29 : (upd H18 M (.lst (ns'.map V.str ++ [V.str "q"]))) _ = _ := (upd_ne (ne_of ht2 f18 (by intro z; cases z))).trans ht2
                  have hp19 : PenAt (upd H18 M (.lst (ns'.map V.str ++ [V.str "q"]))) p c := hp18.upd npM ncM
                  have T19 : LamX.Tabs TT (upd H18 M (.lst (ns'.map V.str ++ [V.str "q"]))) := tabs_lst T18 f18
                  have r19 : RuleAt CR (upd H18 M (.lst (ns'.map V.str ++ [V.str "q"]))) ar zs ns' := by
                    have := r18.updL (o := .lst (ns'.map V.str ++ [V.str "q"])) f18
                    exact this
                  generalize (upd H18 M (.lst (ns'.map V.str ++ [V.str "q"]))) = H19 at g19 n19 ht19 ht29 hp19 T19 r19
                  obtain ⟨dx, pp, tt, k1, k2, k3⟩ := r19.ex
                  have tsh := tup_shw hds (by omega)
                  refine ⟨_, rfl, ar, CR, dx, _, rfl, k1, rfl, ar, zs, ns', rfl, r19, fun p2 q2 => ?_⟩
                  refine ⟨.ref p2, .tuple (ns'.map .str), rfl, .tup q2 (tvs_strs _), tsh.sh, Nat.le_trans tsh.dp (by decide), Nat.le_trans tsh.ln (by decide), ?_⟩
                  refine ⟨_, rfl, _, _, 2, .ref _, rfl, rfl, SqT.of ht19, atI_nat (j := 2) rfl, .ref _, .tuple (ns'.map .str), rfl, .tup ht29 (tvs_strs _), tsh.sh, Nat.le_trans tsh.dp (by decide), Nat.le_trans tsh.ln (by decide), rfl, _, rfl, ?_⟩
                  refine iteNo (by rw [decide_eq_true rfl]; rfl) ?_
                  refine ⟨_, rfl, _, rfl, L, N, zs, ns', rfl, g19, n19, gd, zl6, by omega, hq, T19, fun H20 x20 T20 => ⟨_, rfl, ?_⟩⟩
                  exact ⟨_, _, _, _, _, _, _, rfl, hp19.extN x20, T20⟩
    · rintro σ H2 ⟨x2, x3, x4, x5, x6, x7, x8, rfl, hp2, T2⟩
      refine fun x dx nx ndx _ => ⟨x, dx, "old", rfl, upd_same, by decide, fun H3 hk hr3 => ⟨rfl, ?_⟩⟩
      obtain ⟨dy, pp, tt, k1, k2, k3⟩ := hr3.ex
      refine ⟨_, rfl, x, CR, dy, _, rfl, k1, rfl, x, ["old"], [], rfl, hr3, fun p2 q2 => ?_⟩
      refine ⟨(by show 0 ≤ sizeLine; decide), fun t nt => ?_⟩
      have e4 : Ext H3 (upd H3 t (.tup [])) := Ext.upd nt
      have f4 : (upd H3 t (.tup [])) t = some (.tup []) := upd_same
      generalize (upd H3 t (.tup [])) = H4 at e4 f4
      refine ⟨_, _, .tup (SqT.of (e4 _ _ q2)) .nil, .tup (SqT.of f4) .nil, rfl, rfl, ?_⟩
      refine ⟨_, rfl, iteYes (by rfl) ?_⟩
      obtain ⟨mc, aW, uW, cr, cv, hW⟩ := hC.ws
      refine ⟨CR, mc, .ref aW, uW, rfl, cr, cv, (by show 5 ≤ sizeLine; decide), fun t2 nt2 => ?_⟩
      have e5 : Ext H4 (upd H4 t2 (.tup [V.str "dead", V.str "far", V.str "old", V.str "clean", V.str "cheap"])) := Ext.upd nt2
      have f5 : (upd H4 t2 (.tup [V.str "dead", V.str "far", V.str "old", V.str "clean", V.str "cheap"])) t2 = some (.tup (ruleWords.map V.str)) := upd_same
      generalize (upd H4 t2 (.tup [V.str "dead", V.str "far", V.str "old", V.str "clean", V.str "cheap"])) = H5 at e5 f5
      refine ⟨_, _, .tup (hW _) (dp_strs _), .tup (SqT.of f5) (dp_strs _), shaped_strs _ fun z hz => word_sok hz, shaped_strs _ fun z hz => word_sok hz, ?_⟩
      rw [eqv_tups]
      refine ⟨_, rfl, iteYes (decide_eq_true rfl) ?_⟩
      refine ⟨_, rfl, (by show 0 ≤ sizeLine; decide), fun t3 nt3 => ?_⟩
      have e6 : Ext H5 (upd H5 t3 (.tup [])) := Ext.upd nt3
      have f6 : (upd H5 t3 (.tup [])) t3 = some (.tup []) := upd_same
      refine ⟨_, rfl, fun y dy2 ny ndy hne => ?_⟩
      have hf0 : ruleF [.str "old"] [] = none := ruleF_ok (by simp) (by rw [badW_yes (wdOf_in (by decide)), if_neg (by simp)]; rfl) rfl rfl
      have ey : Ext (upd H5 t3 (.tup [])) (upd (upd (upd H5 t3 (.tup [])) dy2 (.own y)) y (.ins CR dy2 [])) := (Ext.upd ndy).trans (Ext.upd (by rw [upd_ne hne.symm]; exact ny))
      refine ⟨y, dy2, t3, [], [], [.str "old"], rfl, rfl, upd_same, ⟨.cons (.str _) .nil, fun d hd z e => ?_, by show 1 ≤ 100; decide⟩, ⟨.nil, by simp, by show 0 ≤ 100; decide⟩, .inl (SqT.of (ey _ _ f6)), fun fl hf => ?_, fun _ zs H' ez hk hr' => ⟨rfl, ?_⟩⟩
      · have : d = .str "old" := by simpa using hd
        rw [this] at e
        cases e
        decide
      · rw [hf0] at hf
        cases hf
      · have ez : zs = [("old" : Str)] := by
          cases zs with
          | nil => cases ez
          | cons a r => cases r with
            | nil => cases ez; rfl
            | cons b r => cases ez
        subst ez
        have up : ∀ {b : Addr} {o : HO}, H3 b = some o → H' b = some o := fun {b o} q => by
          have q6 := e6 _ _ (e5 _ _ (e4 _ _ q))
          exact hk b o (ey _ _ q6) (ne_of_none q6 ny)
        have hx' : RuleAt CR H' x ["old"] [] := ⟨⟨dy, pp, tt, up k1, up k2, up k3⟩, hr3.wd, hr3.nm⟩
        obtain ⟨dz, p9, t9, j1, _, _⟩ := hr'.ex
        refine ⟨x, CR, dy, _, .ref CR, rfl, up k1, C.eq, .base (.ins j1 hC.cl C.ha C.hn C.htk C.hm), C.nfR, x, _, ["old"], [], rfl, hx', .inl ⟨y, ["old"], [], rfl, hr', _, rfl, ?_⟩⟩
        rw [decide_eq_true ⟨rfl, rfl⟩]
        exact k _
end
end K71
end
section
set_option Elab.async false
set_option autoImplicit false
set_option linter.all false
set_option maxRecDepth 100000
set_option maxHeartbeats 4000000
namespace K71
open PySem PySem.Spec PyProof.Rows L2 Ls
open C8 (pss_cut tCut)
open TL
section
variable {P : Program} {w : World} {K : PySem.W.Frag} {mg : Str → Option Value} {base : Heap} {CE CN CB CW CR : Addr} {tL tN : Tok}
abbrev s_BadRule_init : Stmt := inClass (top 3) 0
theorem sc_BadRule_init : ScS ["self", "value"] ["self", "value"] (defScope s_BadRule_init) := ⟨rfl, rfl, rfl, by decide +kernel, rfl, by decide +kernel, by decide +kernel, by decide +kernel⟩
theorem ok_BadRule_init {f cda cc C : Addr} {fd : FuncData} (F : Ls.FunS K "__init__" "BadRule.__init__" s_BadRule_init f fd cda cc) (S : SupE P K mg C C cc cda) (no : PySem.W.findIn K (.ref C) "value" = some none) :
    FnOk P w K mg base CX0 1 f fd ["self", "value"] (spX C ["value"]) := by
  obtain ⟨oc, od, kV, doc, pm, an, ct, osl, rfl, lk, hcd⟩ := F.ex
  refine fn_superE (N := ["self", "value"]) lk hcd sc_BadRule_init rfl rfl rfl rfl rfl (fun vs H Q E h => ?_) (fun A outer s H vs Q E hr h => ?_) (fun _ => rfl) (fun _ => rfl) (fun _ => rfl) (fun _ => rfl) (fun _ => rfl)
  · obtain ⟨a, ys, rfl, hl, _⟩ := h
    simpa using hl
  · obtain ⟨a, ys, rfl, hl, ha, k⟩ := h
    obtain ⟨y, rfl⟩ : ∃ y, ys = [y] := by
      match ys, hl with
      | [y], _ => exact ⟨y, rfl⟩
    refine ⟨a, C, C, [y], _, _, rfl, ha, S, pa_cons pe_str pa_nil, pss_one (ps_ost (pv 0) (pv 1) rfl), ?_⟩
    refine ⟨(by show 1 ≤ 1000; decide), ha, _, rfl, _, rfl, a, C, rfl, S.oex, no, .inl ⟨ha, fun dx n ne => ?_⟩⟩
    refine k dx _ n ne upd_same (by rw [upd_ne ne]; exact upd_same) fun b h1 h2 => ?_
    rw [upd_ne h1, upd_ne h2]
abbrev s_BadName_init : Stmt := inClass (top 2) 0
theorem sc_BadName_init : ScS ["self", "value"] ["self", "value"] (defScope s_BadName_init) := ⟨rfl, rfl, rfl, by decide +kernel, rfl, by decide +kernel, by decide +kernel, by decide +kernel⟩
theorem ok_BadName_init {f cda cc C : Addr} {fd : FuncData} (F : Ls.FunS K "__init__" "BadName.__init__" s_BadName_init f fd cda cc) (S : SupE P K mg C C cc cda) (no : PySem.W.findIn K (.ref C) "value" = some none) :
    FnOk P w K mg base CX0 1 f fd ["self", "value"] (spX C ["value"]) := by
  obtain ⟨oc, od, kV, doc, pm, an, ct, osl, rfl, lk, hcd⟩ := F.ex
  refine fn_superE (N := ["self", "value"]) lk hcd sc_BadName_init rfl rfl rfl rfl rfl (fun vs H Q E h => ?_) (fun A outer s H vs Q E hr h => ?_) (fun _ => rfl) (fun _ => rfl) (fun _ => rfl) (fun _ => rfl) (fun _ => rfl)
  · obtain ⟨a, ys, rfl, hl, _⟩ := h
    simpa using hl
  · obtain ⟨a, ys, rfl, hl, ha, k⟩ := h
    obtain ⟨y, rfl⟩ : ∃ y, ys = [y] := by
      match ys, hl with
      | [y], _ => exact ⟨y, rfl⟩
    refine ⟨a, C, C, [y], _, _, rfl, ha, S, pa_cons pe_str pa_nil, pss_one (ps_ost (pv 0) (pv 1) rfl), ?_⟩
    refine ⟨(by show 1 ≤ 1000; decide), ha, _, rfl, _, rfl, a, C, rfl, S.oex, no, .inl ⟨ha, fun dx n ne => ?_⟩⟩
    refine k dx _ n ne upd_same (by rw [upd_ne ne]; exact upd_same) fun b h1 h2 => ?_
    rw [upd_ne h1, upd_ne h2]
abbrev s_Twice_init : Stmt := inClass (top 4) 0
theorem sc_Twice_init : ScS ["self", "name"] ["self", "name"] (defScope s_Twice_init) := ⟨rfl, rfl, rfl, by decide +kernel, rfl, by decide +kernel, by decide +kernel, by decide +kernel⟩
theorem ok_Twice_init {f cda cc C : Addr} {fd : FuncData} (F : Ls.FunS K "__init__" "Twice.__init__" s_Twice_init f fd cda cc) (S : SupE P K mg C C cc cda) (no : PySem.W.findIn K (.ref C) "name" = some none) :
    FnOk P w K mg base CX0 1 f fd ["self", "name"] (spX C ["name"]) := by
  obtain ⟨oc, od, kV, doc, pm, an, ct, osl, rfl, lk, hcd⟩ := F.ex
  refine fn_superE (N := ["self", "name"]) lk hcd sc_Twice_init rfl rfl rfl rfl rfl (fun vs H Q E h => ?_) (fun A outer s H vs Q E hr h => ?_) (fun _ => rfl) (fun _ => rfl) (fun _ => rfl) (fun _ => rfl) (fun _ => rfl)
  · obtain ⟨a, ys, rfl, hl, _⟩ := h
    simpa using hl
  · obtain ⟨a, ys, rfl, hl, ha, k⟩ := h
    obtain ⟨y, rfl⟩ : ∃ y, ys = [y] := by
      match ys, hl with
      | [y], _ => exact ⟨y, rfl⟩
    refine ⟨a, C, C, [y], _, _, rfl, ha, S, pa_cons pe_str pa_nil, pss_one (ps_ost (pv 0) (pv 1) rfl), ?_⟩
    refine ⟨(by show 1 ≤ 1000; decide), ha, _, rfl, _, rfl, a, C, rfl, S.oex, no, .inl ⟨ha, fun dx n ne => ?_⟩⟩
    refine k dx _ n ne upd_same (by rw [upd_ne ne]; exact upd_same) fun b h1 h2 => ?_
    rw [upd_ne h1, upd_ne h2]
end
end K71
end
section
set_option Elab.async false
set_option linter.all false
set_option maxRecDepth 100000
set_option maxHeartbeats 8000000
namespace K71
open PySem PySem.Spec PyProof.Rows L2 Ls
theorem all_mk {l : PySem.W.OpenLaw} {w : World} {K : PySem.W.Frag} {q : Program} {h : Heap} {mg : Str → Option Value} {fa : Addr} (X : K.In h) (G : h.Ns mainGlobals mg) (hfa : mg "law" = some (.ref fa))
    (ow : ∀ (x : Str) (fx : Addr), ((recsOf q).any fun e => e.name == x) = true → mg x = some (.ref fx) → LamX.OwnTab K fx h)
    {tL tN : Tok} {zL : Str}
    {CE : Addr}
    {CB : Addr}
    {CN : Addr}
    {CW : Addr}
    {fB_ ccB cdaB : Addr} {clB cclB : Value} {cldB cddB : Option Addr} {cslB ccsB : Array (Option Value)} {vsB : Array Value} {fileB : Str} {tfB : Tok} {cdatB : ClassData}
    {xnmB xqB : Str} {xNB : Addr} {xbsB xbmB xsubB : List Value} {xsnB : List Str} {xabB : Bool} {xcolB : Option Bool} {xddB : Option Addr} {xaB xbB xcB xdB xeB : Option Value}
    {odIB anIB : Option Addr} {slIB : Array (Option Value)} {ocIB kVIB dcIB pmIB ctIB : Value}
    {fN_ ccN cdaN : Addr} {clN cclN : Value} {cldN cddN : Option Addr} {cslN ccsN : Array (Option Value)} {vsN : Array Value} {fileN : Str} {tfN : Tok} {cdatN : ClassData}
    {xnmN xqN : Str} {xNN : Addr} {xbsN xbmN xsubN : List Value} {xsnN : List Str} {xabN : Bool} {xcolN : Option Bool} {xddN : Option Addr} {xaN xbN xcN xdN xeN : Option Value}
    {odIN anIN : Option Addr} {slIN : Array (Option Value)} {ocIN kVIN dcIN pmIN ctIN : Value}
    {fW_ ccW cdaW : Addr} {clW cclW : Value} {cldW cddW : Option Addr} {cslW ccsW : Array (Option Value)} {vsW : Array Value} {fileW : Str} {tfW : Tok} {cdatW : ClassData}
    {xnmW xqW : Str} {xNW : Addr} {xbsW xbmW xsubW : List Value} {xsnW : List Str} {xabW : Bool} {xcolW : Option Bool} {xddW : Option Addr} {xaW xbW xcW xdW xeW : Option Value}
    {odIW anIW : Option Addr} {slIW : Array (Option Value)} {ocIW kVIW dcIW pmIW ctIW : Value}
    {CR fR_ : Addr}
    {odRI anRI : Option Addr} {slRI : Array (Option Value)} {ocRI dcRI pmRI ctRI : Value}
    {cdRI : Value}
    {DD aD aW : Addr} {ddW ddD : Option Addr} {nW_ nD_ : Nat} {slW slD_ : Array (Option Value)} {t1 t2 t3 t4 t5 : Tok} {z1 z2 z3 z4 z5 : Str} {mk_R : Value}
    {fE : Addr}
    {odE anE : Option Addr} {slE : Array (Option Value)} {ocE kVE dcE pmE ctE : Value}
    {cdE : Value}
    {p_words g_words : Addr} {rest_words : List Value}
    {odPwords anPwords : Option Addr} {slPwords : Array (Option Value)} {ocPwords kVPwords dcPwords pmPwords ctPwords : Value}
    {cdPwords : Value}
    {p_pins g_pins : Addr} {rest_pins : List Value}
    {odPpins anPpins : Option Addr} {slPpins : Array (Option Value)} {ocPpins kVPpins dcPpins pmPpins ctPpins : Value}
    {cdPpins : Value}
    {f_is_name : Addr}
    {od_is_name an_is_name : Option Addr} {sl_is_name : Array (Option Value)} {oc_is_name kV_is_name dc_is_name pm_is_name ct_is_name : Value}
    {cd_is_name : Value}
    {f_need_names : Addr}
    {od_need_names an_need_names : Option Addr} {sl_need_names : Array (Option Value)} {oc_need_names kV_need_names dc_need_names pm_need_names ct_need_names : Value}
    {cd_need_names : Value}
    {f__law_pen : Addr}
    {od__law_pen an__law_pen : Option Addr} {sl__law_pen : Array (Option Value)} {oc__law_pen kV__law_pen dc__law_pen pm__law_pen ct__law_pen : Value}
    {cd__law_pen : Value}
    {f__law_draw : Addr}
    {od__law_draw an__law_draw : Option Addr} {sl__law_draw : Array (Option Value)} {oc__law_draw kV__law_draw dc__law_draw pm__law_draw ct__law_draw : Value}
    {cd__law_draw : Value}
    {f__law_pick : Addr}
    {od__law_pick an__law_pick : Option Addr} {sl__law_pick : Array (Option Value)} {oc__law_pick kV__law_pick dc__law_pick pm__law_pick ct__law_pick : Value}
    {cd__law_pick : Value}
    {f__law_mixed : Addr}
    {od__law_mixed an__law_mixed : Option Addr} {sl__law_mixed : Array (Option Value)} {oc__law_mixed kV__law_mixed dc__law_mixed pm__law_mixed ct__law_mixed : Value}
    {cd__law_mixed : Value}
    {f__law_made : Addr}
    {q1 P1 : Addr} {qd1 : Option Addr} {qv1 : Array Value} {qs1 : Array (Option Value)} {qf1 : Str} {qt1 qg1 qh1 : Tok} {qi1 qj1 : Int} {qb1 : Bool}
    {od__law_made an__law_made : Option Addr} {sl__law_made : Array (Option Value)} {oc__law_made kV__law_made dc__law_made pm__law_made ct__law_made : Value}
    {f__law_heard : Addr}
    {od__law_heard an__law_heard : Option Addr} {sl__law_heard : Array (Option Value)} {oc__law_heard kV__law_heard dc__law_heard pm__law_heard ct__law_heard : Value}
    {cd__law_heard : Value}
    {f__law_due : Addr}
    {od__law_due an__law_due : Option Addr} {sl__law_due : Array (Option Value)} {oc__law_due kV__law_due dc__law_due pm__law_due ct__law_due : Value}
    {cd__law_due : Value}
    {f__law_alike_right : Addr}
    {od__law_alike_right an__law_alike_right : Option Addr} {sl__law_alike_right : Array (Option Value)} {oc__law_alike_right kV__law_alike_right dc__law_alike_right pm__law_alike_right ct__law_alike_right : Value}
    {cd__law_alike_right : Value}
    {f_law : Addr}
    {q2 P2 : Addr} {qd2 : Option Addr} {qv2 : Array Value} {qs2 : Array (Option Value)} {qf2 : Str} {qt2 qg2 qh2 : Tok} {qi2 qj2 : Int} {qb2 : Bool}
    {od_law an_law : Option Addr} {sl_law : Array (Option Value)} {oc_law kV_law dc_law pm_law ct_law : Value}
    (b0 : PySem.W.nsIn K mainGlobals "len" = some none)
    (b1 : PySem.W.nsIn K mainGlobals "int" = some none)
    (b2 : PySem.W.nsIn K mainGlobals "abs" = some none)
    (b3 : PySem.W.nsIn K mainGlobals "list" = some none)
    (b4 : PySem.W.nsIn K mainGlobals "isinstance" = some none)
    (b5 : PySem.W.nsIn K mainGlobals "all" = some none)
    (b6 : PySem.W.nsIn K mainGlobals "range" = some none)
    (b7 : PySem.W.nsIn K mainGlobals "tuple" = some none)
    (b8 : PySem.W.nsIn K mainGlobals "super" = some none)
    (b9 : PySem.W.nsIn K mainGlobals "repr" = some none)
    (b10 : PySem.W.nsIn K mainGlobals "enumerate" = some none)
    (b11 : PySem.W.nsIn K mainGlobals "ValueError" = some none)
    (b12 : PySem.W.nsIn K mainGlobals "str" = some none)
    (gL : PySem.W.nsIn K mainGlobals "LETTERS" = some (some (.str zL tL)))
    (eL : zL = lettersS)
    (gN : PySem.W.nsIn K mainGlobals "LONGEST_NAME" = some (some (.int 6 tN)))
    (hn : PySem.W.specialIn K (.builtin "object.__class__") "__get__" = some (some (.builtin "getset_descriptor.__get__")))
    (htk : PySem.W.takesIn K (.builtin "object.__class__") = some true)
    (any_ : PySem.W.nsIn K cStatics "thirdparty.any" = some none)
    (top_ : (l.prog.main.scope.names.lookup ("super" : Str)).isSome = false)
    (gCE : PySem.W.nsIn K mainGlobals "StowError" = some (some (.ref CE)))
    (eE1 : PySem.W.subIn K (.ref CE) (.type "BaseException") = some true)
    (eE2 : PySem.W.hasDictIn K CE = true)
    (eE3 : PySem.W.typeIn K (.ref CE) = some (.type "type"))
    (gB_ : PySem.W.nsIn K mainGlobals "BadRule" = some (some (.ref CB)))
    (xoB : K.lookup CB = some (excClassObj xnmB xqB CB xNB xbsB xbmB true xsnB xsubB xabB xcolB xddB xaB xbB xcB xdB xeB "ValueError.__new__"))
    (xrB : PySem.HandSPX.refsVE xbmB = true)
    (saB : PySem.W.findIn K (.ref CB) "__setattr__" = some (some (.builtin "object.__setattr__")))
    (beB : PySem.W.subIn K (.ref CB) (.type "BaseException") = some true)
    (tyB : PySem.W.typeIn K (.ref CB) = some (.type "type"))
    (kpB : PySem.W.keepIn K (.ref CB) = true)
    (inB : PySem.W.findIn K (.ref CB) "__init__" = some (some (.ref fB_)))
    (tf_B : PySem.W.typeIn K (.ref fB_) = some (.type "function"))
    (lIB : K.lookup fB_ = some ⟨ocIB, odIB, .func (PySem.W.ksFn "__init__" "BadRule.__init__" (defArgs s_BadRule_init) (defBody s_BadRule_init) (defScope s_BadRule_init) .none kVIB dcIB pmIB anIB (.ref cdaB) ctIB ccB), slIB⟩)
    (cIB : PySem.W.codeIn K (.ref cdaB) "BadRule.__init__" = true)
    (kIB : PySem.W.keepIn K (.ref fB_) = true)
    (ceB : K.lookup ccB = some ⟨clB, cldB, .cell (some (.ref CB)), cslB⟩)
    (coB : K.lookup cdaB = some ⟨cclB, cddB, .fields vsB, ccsB⟩)
    (v2B : vsB[2]? = some (.str fileB tfB))
    (flB : ((l.prog.main.file : Str) == fileB) = true)
    (cd_B : PySem.W.clsIn K CB = some cdatB)
    (sbB : PySem.W.mroIn K CB (.ref CB) = some true)
    (svB : PySem.W.mroIn K CB (.type "ValueError") = some true)
    (fd_B : PySem.W.ks_superIn K CB CB "__init__" = some (some (.builtin "ValueError.__init__")))
    (noB_value : PySem.W.findIn K (.ref CB) "value" = some none)
    (suB : PySem.W.subIn K (.ref CB) (.ref CE) = some true)
    (xgB : PySem.W.findIn K (.ref CB) "__getattribute__" = some (some (.builtin "BaseException.__getattribute__")))
    (xkB : PySem.W.findIn K (.ref CB) "__getattr__" = some none)
    (hdB : PySem.W.hasDictIn K CB = true)
    (haB : PySem.W.findIn K (.ref CB) "__class__" = some (some (.builtin "object.__class__")))
    (hmB : PySem.W.mroIn K CB (.type "object") = some true)
    (gN_ : PySem.W.nsIn K mainGlobals "BadName" = some (some (.ref CN)))
    (xoN : K.lookup CN = some (excClassObj xnmN xqN CN xNN xbsN xbmN true xsnN xsubN xabN xcolN xddN xaN xbN xcN xdN xeN "ValueError.__new__"))
    (xrN : PySem.HandSPX.refsVE xbmN = true)
    (saN : PySem.W.findIn K (.ref CN) "__setattr__" = some (some (.builtin "object.__setattr__")))
    (beN : PySem.W.subIn K (.ref CN) (.type "BaseException") = some true)
    (tyN : PySem.W.typeIn K (.ref CN) = some (.type "type"))
    (kpN : PySem.W.keepIn K (.ref CN) = true)
    (inN : PySem.W.findIn K (.ref CN) "__init__" = some (some (.ref fN_)))
    (tf_N : PySem.W.typeIn K (.ref fN_) = some (.type "function"))
    (lIN : K.lookup fN_ = some ⟨ocIN, odIN, .func (PySem.W.ksFn "__init__" "BadName.__init__" (defArgs s_BadName_init) (defBody s_BadName_init) (defScope s_BadName_init) .none kVIN dcIN pmIN anIN (.ref cdaN) ctIN ccN), slIN⟩)
    (cIN : PySem.W.codeIn K (.ref cdaN) "BadName.__init__" = true)
    (kIN : PySem.W.keepIn K (.ref fN_) = true)
    (ceN : K.lookup ccN = some ⟨clN, cldN, .cell (some (.ref CN)), cslN⟩)
    (coN : K.lookup cdaN = some ⟨cclN, cddN, .fields vsN, ccsN⟩)
    (v2N : vsN[2]? = some (.str fileN tfN))
    (flN : ((l.prog.main.file : Str) == fileN) = true)
    (cd_N : PySem.W.clsIn K CN = some cdatN)
    (sbN : PySem.W.mroIn K CN (.ref CN) = some true)
    (svN : PySem.W.mroIn K CN (.type "ValueError") = some true)
    (fd_N : PySem.W.ks_superIn K CN CN "__init__" = some (some (.builtin "ValueError.__init__")))
    (noN_value : PySem.W.findIn K (.ref CN) "value" = some none)
    (suN : PySem.W.subIn K (.ref CN) (.ref CE) = some true)
    (xgN : PySem.W.findIn K (.ref CN) "__getattribute__" = some (some (.builtin "BaseException.__getattribute__")))
    (xkN : PySem.W.findIn K (.ref CN) "__getattr__" = some none)
    (hdN : PySem.W.hasDictIn K CN = true)
    (haN : PySem.W.findIn K (.ref CN) "__class__" = some (some (.builtin "object.__class__")))
    (hmN : PySem.W.mroIn K CN (.type "object") = some true)
    (gW_ : PySem.W.nsIn K mainGlobals "Twice" = some (some (.ref CW)))
    (xoW : K.lookup CW = some (excClassObj xnmW xqW CW xNW xbsW xbmW true xsnW xsubW xabW xcolW xddW xaW xbW xcW xdW xeW "ValueError.__new__"))
    (xrW : PySem.HandSPX.refsVE xbmW = true)
    (saW : PySem.W.findIn K (.ref CW) "__setattr__" = some (some (.builtin "object.__setattr__")))
    (beW : PySem.W.subIn K (.ref CW) (.type "BaseException") = some true)
    (tyW : PySem.W.typeIn K (.ref CW) = some (.type "type"))
    (kpW : PySem.W.keepIn K (.ref CW) = true)
    (inW : PySem.W.findIn K (.ref CW) "__init__" = some (some (.ref fW_)))
    (tf_W : PySem.W.typeIn K (.ref fW_) = some (.type "function"))
    (lIW : K.lookup fW_ = some ⟨ocIW, odIW, .func (PySem.W.ksFn "__init__" "Twice.__init__" (defArgs s_Twice_init) (defBody s_Twice_init) (defScope s_Twice_init) .none kVIW dcIW pmIW anIW (.ref cdaW) ctIW ccW), slIW⟩)
    (cIW : PySem.W.codeIn K (.ref cdaW) "Twice.__init__" = true)
    (kIW : PySem.W.keepIn K (.ref fW_) = true)
    (ceW : K.lookup ccW = some ⟨clW, cldW, .cell (some (.ref CW)), cslW⟩)
    (coW : K.lookup cdaW = some ⟨cclW, cddW, .fields vsW, ccsW⟩)
    (v2W : vsW[2]? = some (.str fileW tfW))
    (flW : ((l.prog.main.file : Str) == fileW) = true)
    (cd_W : PySem.W.clsIn K CW = some cdatW)
    (sbW : PySem.W.mroIn K CW (.ref CW) = some true)
    (svW : PySem.W.mroIn K CW (.type "ValueError") = some true)
    (fd_W : PySem.W.ks_superIn K CW CW "__init__" = some (some (.builtin "ValueError.__init__")))
    (noW_name : PySem.W.findIn K (.ref CW) "name" = some none)
    (suW : PySem.W.subIn K (.ref CW) (.ref CE) = some true)
    (xgW : PySem.W.findIn K (.ref CW) "__getattribute__" = some (some (.builtin "BaseException.__getattribute__")))
    (xkW : PySem.W.findIn K (.ref CW) "__getattr__" = some none)
    (hdW : PySem.W.hasDictIn K CW = true)
    (haW : PySem.W.findIn K (.ref CW) "__class__" = some (some (.builtin "object.__class__")))
    (hmW : PySem.W.mroIn K CW (.type "object") = some true)
    (kvB : PySem.W.kitOne K (.ref CB) (.type "ValueError") = some true)
    (kBB_ : PySem.W.kitOne K (.ref CB) (.ref CB) = some true)
    (kBN_ : PySem.W.kitOne K (.ref CB) (.ref CN) = some false)
    (kBW_ : PySem.W.kitOne K (.ref CB) (.ref CW) = some false)
    (kvN : PySem.W.kitOne K (.ref CN) (.type "ValueError") = some true)
    (kNB_ : PySem.W.kitOne K (.ref CN) (.ref CB) = some false)
    (kNN_ : PySem.W.kitOne K (.ref CN) (.ref CN) = some true)
    (kNW_ : PySem.W.kitOne K (.ref CN) (.ref CW) = some false)
    (kvW : PySem.W.kitOne K (.ref CW) (.type "ValueError") = some true)
    (kWB_ : PySem.W.kitOne K (.ref CW) (.ref CB) = some false)
    (kWN_ : PySem.W.kitOne K (.ref CW) (.ref CN) = some false)
    (kWW_ : PySem.W.kitOne K (.ref CW) (.ref CW) = some true)
    (gR_ : PySem.W.nsIn K mainGlobals "Rule" = some (some (.ref CR)))
    (pgR : PySem.W.plainGet K CR Str.empty = true)
    (hdR : PySem.W.hasDictIn K CR = true)
    (poR : PySem.W.plainOver K CR = true)
    (saR : PySem.W.findIn K (.ref CR) "__setattr__" = some (some (.builtin "object.__setattr__")))
    (nR_row_words : PySem.W.findIn K (.ref CR) "row_words" = some none)
    (nR_row_pins : PySem.W.findIn K (.ref CR) "row_pins" = some none)
    (haR : PySem.W.findIn K (.ref CR) "__class__" = some (some (.builtin "object.__class__")))
    (hmR : PySem.W.mroIn K CR (.type "object") = some true)
    (mkR : PySem.W.makesIn K CR = true)
    (inR : PySem.W.findIn K (.ref CR) "__init__" = some (some (.ref fR_)))
    (fnR : PySem.W.isFn K (.ref fR_) = true)
    (kpR : PySem.W.keepIn K (.ref CR) = true)
    (lRI : K.lookup fR_ = some ⟨ocRI, odRI, .func (PySem.W.fnOf "__init__" "Rule.__init__" (defArgs s_Rule_init) (defBody s_Rule_init) (defScope s_Rule_init) .none (.ref DD) dcRI pmRI anRI cdRI ctRI), slRI⟩)
    (cRI : PySem.W.codeIn K cdRI "Rule.__init__" = true)
    (kRI : PySem.W.keepIn K (.ref fR_) = true)
    (hD : PySem.W.nsIn K DD "pins" = some (some (.ref aD)))
    (lD : K.lookup aD = some ⟨.type "tuple", ddD, .seq #[] nD_, slD_⟩)
    (ty_R : PySem.W.typeIn K (.ref CR) = some mk_R)
    (rd_R : PySem.W.readsIn K CR mk_R = true)
    (ga_R : PySem.W.specialIn K (.ref CR) "__getattribute__" = some (some (.builtin "type.__getattribute__")))
    (mo_R : PySem.W.findCls K (.ref CR) mk_R "WORDS" = some (.val (.ref aW)))
    (lW : K.lookup aW = some ⟨.type "tuple", ddW, .seq #[.str z1 t1, .str z2 t2, .str z3 t3, .str z4 t4, .str z5 t5] nW_, slW⟩)
    (eW : ([z1, z2, z3, z4, z5] : List Str) = ruleWords)
    (kRR : PySem.W.kitOne K (.ref CR) (.ref CR) = some true)
    (kRL : PySem.W.kitOne K (.type "list") (.ref CR) = some false)
    (kRT : PySem.W.kitOne K (.type "tuple") (.ref CR) = some false)
    (aE : PySem.W.findIn K (.ref CR) "__eq__" = some (some (.ref fE)))
    (neR : PySem.W.findIn K (.ref CR) "__ne__" = some (some (.builtin "object.__ne__")))
    (nfR : PySem.W.notFirst K CR (.ref CR) = true)
    (nfL : PySem.W.notFirst K CR (.type "list") = true)
    (nfT : PySem.W.notFirst K CR (.type "tuple") = true)
    (iE : PySem.W.isFn K (.ref fE) = true)
    (lE : K.lookup fE = some ⟨ocE, odE, .func (PySem.W.fnOf "__eq__" "Rule.__eq__" (defArgs s_Rule_eq) (defBody s_Rule_eq) (defScope s_Rule_eq) .none kVE dcE pmE anE cdE ctE), slE⟩)
    (cE : PySem.W.codeIn K cdE "Rule.__eq__" = true)
    (kE : PySem.W.keepIn K (.ref fE) = true)
    (pa_words : PySem.W.findIn K (.ref CR) "words" = some (some (.ref p_words)))
    (pg_words : PySem.W.specialIn K (.ref p_words) "__get__" = some (some (.builtin "property.__get__")))
    (pt_words : PySem.W.takesIn K (.ref p_words) = some true)
    (pr_words : PySem.W.recIn K p_words "property" = some (.ref g_words :: rest_words))
    (lPwords : K.lookup g_words = some ⟨ocPwords, odPwords, .func (PySem.W.fnOf "words" "Rule.words" (defArgs s_Rule_words) (defBody s_Rule_words) (defScope s_Rule_words) .none kVPwords dcPwords pmPwords anPwords cdPwords ctPwords), slPwords⟩)
    (cPwords : PySem.W.codeIn K cdPwords "Rule.words" = true)
    (kPwords : PySem.W.keepIn K (.ref g_words) = true)
    (pa_pins : PySem.W.findIn K (.ref CR) "pins" = some (some (.ref p_pins)))
    (pg_pins : PySem.W.specialIn K (.ref p_pins) "__get__" = some (some (.builtin "property.__get__")))
    (pt_pins : PySem.W.takesIn K (.ref p_pins) = some true)
    (pr_pins : PySem.W.recIn K p_pins "property" = some (.ref g_pins :: rest_pins))
    (lPpins : K.lookup g_pins = some ⟨ocPpins, odPpins, .func (PySem.W.fnOf "pins" "Rule.pins" (defArgs s_Rule_pins) (defBody s_Rule_pins) (defScope s_Rule_pins) .none kVPpins dcPpins pmPpins anPpins cdPpins ctPpins), slPpins⟩)
    (cPpins : PySem.W.codeIn K cdPpins "Rule.pins" = true)
    (kPpins : PySem.W.keepIn K (.ref g_pins) = true)
    (a_is_name : PySem.W.nsIn K mainGlobals "is_name" = some (some (.ref f_is_name)))
    (l_is_name : K.lookup f_is_name = some ⟨oc_is_name, od_is_name, .func (PySem.W.fnOf "is_name" "is_name" (defArgs s_is_name) (defBody s_is_name) (defScope s_is_name) .none kV_is_name dc_is_name pm_is_name an_is_name cd_is_name ct_is_name), sl_is_name⟩)
    (c_is_name : PySem.W.codeIn K cd_is_name "is_name" = true)
    (k_is_name : PySem.W.keepIn K (.ref f_is_name) = true)
    (a_need_names : PySem.W.nsIn K mainGlobals "need_names" = some (some (.ref f_need_names)))
    (l_need_names : K.lookup f_need_names = some ⟨oc_need_names, od_need_names, .func (PySem.W.fnOf "need_names" "need_names" (defArgs s_need_names) (defBody s_need_names) (defScope s_need_names) .none kV_need_names dc_need_names pm_need_names an_need_names cd_need_names ct_need_names), sl_need_names⟩)
    (c_need_names : PySem.W.codeIn K cd_need_names "need_names" = true)
    (k_need_names : PySem.W.keepIn K (.ref f_need_names) = true)
    (a__law_pen : PySem.W.nsIn K mainGlobals "_law_pen" = some (some (.ref f__law_pen)))
    (l__law_pen : K.lookup f__law_pen = some ⟨oc__law_pen, od__law_pen, .func (PySem.W.fnOf "_law_pen" "_law_pen" (defArgs s__law_pen) (defBody s__law_pen) (defScope s__law_pen) .none kV__law_pen dc__law_pen pm__law_pen an__law_pen cd__law_pen ct__law_pen), sl__law_pen⟩)
    (c__law_pen : PySem.W.codeIn K cd__law_pen "_law_pen" = true)
    (k__law_pen : PySem.W.keepIn K (.ref f__law_pen) = true)
    (a__law_draw : PySem.W.nsIn K mainGlobals "_law_draw" = some (some (.ref f__law_draw)))
    (l__law_draw : K.lookup f__law_draw = some ⟨oc__law_draw, od__law_draw, .func (PySem.W.fnOf "_law_draw" "_law_draw" (defArgs s__law_draw) (defBody s__law_draw) (defScope s__law_draw) .none kV__law_draw dc__law_draw pm__law_draw an__law_draw cd__law_draw ct__law_draw), sl__law_draw⟩)
    (c__law_draw : PySem.W.codeIn K cd__law_draw "_law_draw" = true)
    (k__law_draw : PySem.W.keepIn K (.ref f__law_draw) = true)
    (a__law_pick : PySem.W.nsIn K mainGlobals "_law_pick" = some (some (.ref f__law_pick)))
    (l__law_pick : K.lookup f__law_pick = some ⟨oc__law_pick, od__law_pick, .func (PySem.W.fnOf "_law_pick" "_law_pick" (defArgs s__law_pick) (defBody s__law_pick) (defScope s__law_pick) .none kV__law_pick dc__law_pick pm__law_pick an__law_pick cd__law_pick ct__law_pick), sl__law_pick⟩)
    (c__law_pick : PySem.W.codeIn K cd__law_pick "_law_pick" = true)
    (k__law_pick : PySem.W.keepIn K (.ref f__law_pick) = true)
    (a__law_mixed : PySem.W.nsIn K mainGlobals "_law_mixed" = some (some (.ref f__law_mixed)))
    (l__law_mixed : K.lookup f__law_mixed = some ⟨oc__law_mixed, od__law_mixed, .func (PySem.W.fnOf "_law_mixed" "_law_mixed" (defArgs s__law_mixed) (defBody s__law_mixed) (defScope s__law_mixed) .none kV__law_mixed dc__law_mixed pm__law_mixed an__law_mixed cd__law_mixed ct__law_mixed), sl__law_mixed⟩)
    (c__law_mixed : PySem.W.codeIn K cd__law_mixed "_law_mixed" = true)
    (k__law_mixed : PySem.W.keepIn K (.ref f__law_mixed) = true)
    (a__law_made : PySem.W.nsIn K mainGlobals "_law_made" = some (some (.ref f__law_made)))
    (l__law_made : K.lookup f__law_made = some ⟨oc__law_made, od__law_made, .func (PySem.W.fnOf "_law_made" "_law_made" (defArgs s__law_made) (defBody s__law_made) (defScope s__law_made) .none kV__law_made dc__law_made pm__law_made an__law_made (.ref q1) ct__law_made), sl__law_made⟩)
    (c__law_made : PySem.W.codeIn K (.ref q1) "_law_made" = true)
    (k__law_made : PySem.W.keepIn K (.ref f__law_made) = true)
    (qo1 : K.lookup q1 = some ⟨.type "code", qd1, .fields qv1, qs1⟩)
    (qp1 : qv1[11]? = some (.ref P1))
    (qr1 : qv1.getD 11 .none = .ref P1)
    (qs_1 : qv1.getD 18 .none = .str qf1 qt1)
    (qu1 : qv1.getD 7 .none = .int qi1 qg1)
    (qv_1 : qv1.getD 9 .none = .bool qb1)
    (qw1 : qv1.getD 10 .none = .int qj1 qh1)
    (qx1 : q1 ≠ P1)
    (qn1 : K.lookup P1 = none)
    (rc1 : ((recsOf q).any fun e => e.name == "_law_made") = true)
    (a__law_heard : PySem.W.nsIn K mainGlobals "_law_heard" = some (some (.ref f__law_heard)))
    (l__law_heard : K.lookup f__law_heard = some ⟨oc__law_heard, od__law_heard, .func (PySem.W.fnOf "_law_heard" "_law_heard" (defArgs s__law_heard) (defBody s__law_heard) (defScope s__law_heard) .none kV__law_heard dc__law_heard pm__law_heard an__law_heard cd__law_heard ct__law_heard), sl__law_heard⟩)
    (c__law_heard : PySem.W.codeIn K cd__law_heard "_law_heard" = true)
    (k__law_heard : PySem.W.keepIn K (.ref f__law_heard) = true)
    (a__law_due : PySem.W.nsIn K mainGlobals "_law_due" = some (some (.ref f__law_due)))
    (l__law_due : K.lookup f__law_due = some ⟨oc__law_due, od__law_due, .func (PySem.W.fnOf "_law_due" "_law_due" (defArgs s__law_due) (defBody s__law_due) (defScope s__law_due) .none kV__law_due dc__law_due pm__law_due an__law_due cd__law_due ct__law_due), sl__law_due⟩)
    (c__law_due : PySem.W.codeIn K cd__law_due "_law_due" = true)
    (k__law_due : PySem.W.keepIn K (.ref f__law_due) = true)
    (a__law_alike_right : PySem.W.nsIn K mainGlobals "_law_alike_right" = some (some (.ref f__law_alike_right)))
    (l__law_alike_right : K.lookup f__law_alike_right = some ⟨oc__law_alike_right, od__law_alike_right, .func (PySem.W.fnOf "_law_alike_right" "_law_alike_right" (defArgs s__law_alike_right) (defBody s__law_alike_right) (defScope s__law_alike_right) .none kV__law_alike_right dc__law_alike_right pm__law_alike_right an__law_alike_right cd__law_alike_right ct__law_alike_right), sl__law_alike_right⟩)
    (c__law_alike_right : PySem.W.codeIn K cd__law_alike_right "_law_alike_right" = true)
    (k__law_alike_right : PySem.W.keepIn K (.ref f__law_alike_right) = true)
    (a_law : PySem.W.nsIn K mainGlobals "law" = some (some (.ref f_law)))
    (l_law : K.lookup f_law = some ⟨oc_law, od_law, .func (PySem.W.fnOf "law" "law" (defArgs s_law) (defBody s_law) (defScope s_law) .none kV_law dc_law pm_law an_law (.ref q2) ct_law), sl_law⟩)
    (c_law : PySem.W.codeIn K (.ref q2) "law" = true)
    (k_law : PySem.W.keepIn K (.ref f_law) = true)
    (qo2 : K.lookup q2 = some ⟨.type "code", qd2, .fields qv2, qs2⟩)
    (qp2 : qv2[11]? = some (.ref P2))
    (qr2 : qv2.getD 11 .none = .ref P2)
    (qs_2 : qv2.getD 18 .none = .str qf2 qt2)
    (qu2 : qv2.getD 7 .none = .int qi2 qg2)
    (qv_2 : qv2.getD 9 .none = .bool qb2)
    (qw2 : qv2.getD 10 .none = .int qj2 qh2)
    (qx2 : q2 ≠ P2)
    (qn2 : K.lookup P2 = none)
    (rc2 : ((recsOf q).any fun e => e.name == "law") = true)
    (qne12 : P1 ≠ P2) :
    LawG l w K CX0 10 63 "_law_script" mg fa h := by
  have e := hfa.symm.trans (PySem.W.mg_of X G a_law)
  cases e
  subst eL
  have T : Tx K mg CE CN CB CW CR tL tN := ⟨by
    intro x hx
    simp only [bns, List.mem_cons, List.not_mem_nil, or_false] at hx
    rcases hx with rfl | rfl | rfl | rfl | rfl | rfl | rfl | rfl | rfl | rfl | rfl | rfl | rfl
    · exact PySem.W.mg_none_of X G b0
    · exact PySem.W.mg_none_of X G b1
    · exact PySem.W.mg_none_of X G b2
    · exact PySem.W.mg_none_of X G b3
    · exact PySem.W.mg_none_of X G b4
    · exact PySem.W.mg_none_of X G b5
    · exact PySem.W.mg_none_of X G b6
    · exact PySem.W.mg_none_of X G b7
    · exact PySem.W.mg_none_of X G b8
    · exact PySem.W.mg_none_of X G b9
    · exact PySem.W.mg_none_of X G b10
    · exact PySem.W.mg_none_of X G b11
    · exact PySem.W.mg_none_of X G b12, PySem.W.mg_of X G gL, PySem.W.mg_of X G gN, PySem.W.mg_of X G gCE, PySem.W.mg_of X G gN_, PySem.W.mg_of X G gB_, PySem.W.mg_of X G gW_, PySem.W.mg_of X G gR_⟩
  have FSB : Ls.FunS K "__init__" "BadRule.__init__" s_BadRule_init fB_ _ cdaB ccB := ⟨⟨_, _, _, _, _, _, _, _, rfl, lIB, cIB⟩, kIB⟩
  have OXB : OexC K CB := ⟨⟨_, _, _, _, _, _, _, _, _, _, _, _, _, _, _, xoB, xrB⟩, saB, beB, tyB, kpB⟩
  have SEB : SupE l.prog K mg CB CB ccB cdaB := ⟨⟨_, _, _, ceB⟩, ⟨_, _, _, _, _, _, coB, v2B, flB⟩, ⟨_, cd_B⟩, sbB, svB, T.bn _ (by decide +kernel), top_, any_, fd_B, OXB⟩
  have exmB := PySem.W.exm_ref eE1 eE2 eE3 suB
  have ecB : ExcC K CB := ⟨xgB, xkB, beB, hdB, haB, hn, htk, hmB⟩
  have xfB : XfC K CB := ⟨xgB, xkB, beB, hdB⟩
  have FSN : Ls.FunS K "__init__" "BadName.__init__" s_BadName_init fN_ _ cdaN ccN := ⟨⟨_, _, _, _, _, _, _, _, rfl, lIN, cIN⟩, kIN⟩
  have OXN : OexC K CN := ⟨⟨_, _, _, _, _, _, _, _, _, _, _, _, _, _, _, xoN, xrN⟩, saN, beN, tyN, kpN⟩
  have SEN : SupE l.prog K mg CN CN ccN cdaN := ⟨⟨_, _, _, ceN⟩, ⟨_, _, _, _, _, _, coN, v2N, flN⟩, ⟨_, cd_N⟩, sbN, svN, T.bn _ (by decide +kernel), top_, any_, fd_N, OXN⟩
  have exmN := PySem.W.exm_ref eE1 eE2 eE3 suN
  have ecN : ExcC K CN := ⟨xgN, xkN, beN, hdN, haN, hn, htk, hmN⟩
  have xfN : XfC K CN := ⟨xgN, xkN, beN, hdN⟩
  have FSW : Ls.FunS K "__init__" "Twice.__init__" s_Twice_init fW_ _ cdaW ccW := ⟨⟨_, _, _, _, _, _, _, _, rfl, lIW, cIW⟩, kIW⟩
  have OXW : OexC K CW := ⟨⟨_, _, _, _, _, _, _, _, _, _, _, _, _, _, _, xoW, xrW⟩, saW, beW, tyW, kpW⟩
  have SEW : SupE l.prog K mg CW CW ccW cdaW := ⟨⟨_, _, _, ceW⟩, ⟨_, _, _, _, _, _, coW, v2W, flW⟩, ⟨_, cd_W⟩, sbW, svW, T.bn _ (by decide +kernel), top_, any_, fd_W, OXW⟩
  have exmW := PySem.W.exm_ref eE1 eE2 eE3 suW
  have ecW : ExcC K CW := ⟨xgW, xkW, beW, hdW, haW, hn, htk, hmW⟩
  have xfW : XfC K CW := ⟨xgW, xkW, beW, hdW⟩
  have eTB : ErrT K CE CB CN CW CB "value" true false false := ⟨exmB, ecB, kvB, kBB_, kBN_, kBW_, xfB, noB_value⟩
  have eTN : ErrT K CE CB CN CW CN "value" false true false := ⟨exmN, ecN, kvN, kNB_, kNN_, kNW_, xfN, noN_value⟩
  have eTW : ErrT K CE CB CN CW CW "name" false false true := ⟨exmW, ecW, kvW, kWB_, kWN_, kWW_, xfW, noW_name⟩
  have CL_R : Cls K CR := ⟨pgR, hdR, poR, saR⟩
  have hC : ClR K CR := ⟨CL_R, nR_row_words, nR_row_pins, _, _, _, ⟨rd_R, ga_R⟩, ⟨mo_R, rfl⟩, fun H => .inr ⟨_, _, _, lW, rfl, rfl, by show 5 ≤ sizeLine; decide, by
    rw [← eW]
    exact .cons ⟨_, rfl⟩ (.cons ⟨_, rfl⟩ (.cons ⟨_, rfl⟩ (.cons ⟨_, rfl⟩ (.cons ⟨_, rfl⟩ .nil))))⟩⟩
  have hE0 : ∀ H, SqT K H aD [] := fun H => .inr ⟨_, _, _, lD, rfl, rfl, by show 0 ≤ sizeLine; decide, .nil⟩
  have RK : RuK K CR fE := ⟨haR, hn, htk, hmR, kRR, kRL, kRT, aE, neR, nfR, nfL, nfT, iE⟩
  have FRI := fun_mk (st := s_Rule_init) lRI cRI kRI
  have MR : Mk K CR fR_ := ⟨mkR, inR, fnR, kpR⟩
  have FE := fun_mk (st := s_Rule_eq) lE cE kE
  have BE := FE.binds (ps := ["self", "other"]) fun _ _ _ _ _ _ us hl => match us, hl with | [_, _], _ => rfl
  have FPwords := fun_mk (st := s_Rule_words) lPwords cPwords kPwords
  have BPwords := FPwords.binds (ps := ["self"]) fun _ _ _ _ _ _ us hl => match us, hl with | [_], _ => rfl
  have FPpins := fun_mk (st := s_Rule_pins) lPpins cPpins kPpins
  have BPpins := FPpins.binds (ps := ["self"]) fun _ _ _ _ _ _ us hl => match us, hl with | [_], _ => rfl
  have F_is_name := fun_mk (st := s_is_name) l_is_name c_is_name k_is_name
  have B_is_name := F_is_name.binds (ps := ["value"]) fun _ _ _ _ _ _ us hl => match us, hl with | [_], _ => rfl
  have F_need_names := fun_mk (st := s_need_names) l_need_names c_need_names k_need_names
  have B_need_names := F_need_names.binds (ps := ["values"]) fun _ _ _ _ _ _ us hl => match us, hl with | [_], _ => rfl
  have F__law_pen := fun_mk (st := s__law_pen) l__law_pen c__law_pen k__law_pen
  have B__law_pen := F__law_pen.binds (ps := ["_law_script"]) fun _ _ _ _ _ _ us hl => match us, hl with | [_], _ => rfl
  have F__law_draw := fun_mk (st := s__law_draw) l__law_draw c__law_draw k__law_draw
  have B__law_draw := F__law_draw.binds (ps := ["_law_pen_here", "_law_many"]) fun _ _ _ _ _ _ us hl => match us, hl with | [_, _], _ => rfl
  have F__law_pick := fun_mk (st := s__law_pick) l__law_pick c__law_pick k__law_pick
  have B__law_pick := F__law_pick.binds (ps := ["_law_pen_here", "_law_some"]) fun _ _ _ _ _ _ us hl => match us, hl with | [_, _], _ => rfl
  have F__law_mixed := fun_mk (st := s__law_mixed) l__law_mixed c__law_mixed k__law_mixed
  have B__law_mixed := F__law_mixed.binds (ps := ["_law_pen_here", "_law_some"]) fun _ _ _ _ _ _ us hl => match us, hl with | [_, _], _ => rfl
  have F__law_made := fun_mk (st := s__law_made) l__law_made c__law_made k__law_made
  have B__law_made := F__law_made.binds (ps := ["_law_words", "_law_tight"]) fun _ _ _ _ _ _ us hl => match us, hl with | [_, _], _ => rfl
  have F__law_heard := fun_mk (st := s__law_heard) l__law_heard c__law_heard k__law_heard
  have B__law_heard := F__law_heard.binds (ps := ["_law_ask"]) fun _ _ _ _ _ _ us hl => match us, hl with | [_], _ => rfl
  have F__law_due := fun_mk (st := s__law_due) l__law_due c__law_due k__law_due
  have B__law_due := F__law_due.binds (ps := ["_law_words", "_law_tight"]) fun _ _ _ _ _ _ us hl => match us, hl with | [_, _], _ => rfl
  have F__law_alike_right := fun_mk (st := s__law_alike_right) l__law_alike_right c__law_alike_right k__law_alike_right
  have B__law_alike_right := F__law_alike_right.binds (ps := ["_law_words", "_law_tight"]) fun _ _ _ _ _ _ us hl => match us, hl with | [_, _], _ => rfl
  have F_law := fun_mk (st := s_law) l_law c_law k_law
  refine ⟨_, [(q1, P1), (q2, P2)], spLaw K [(P1, ("_law_made.<locals>.<lambda>" : Str)), (P2, ("law.<locals>.<lambda>" : Str))], ?_, ?_, ?_, fun s u => .of_eq (fd := PySem.W.fnOf "law" "law" (defArgs s_law) (defBody s_law) (defScope s_law) .none kV_law dc_law pm_law an_law (.ref q2) ct_law) rfl, ?_, ?_⟩
  · intro p hp
    simp only [List.mem_cons, List.not_mem_nil, or_false] at hp
    rcases hp with rfl | rfl
    · exact ow "_law_made" _ rc1 (PySem.W.mg_of X G a__law_made) q1 P1 _ _ _ _ _ _ l__law_made rfl rfl qo1 qp1
    · exact ow "law" _ rc2 (PySem.W.mg_of X G a_law) q2 P2 _ _ _ _ _ _ l_law rfl rfl qo2 qp2
  · intro p hp
    simp only [List.mem_cons, List.not_mem_nil, or_false] at hp
    rcases hp with rfl | rfl
    · exact qn1
    · exact qn2
  · intro p hp
    simp only [List.mem_cons, List.not_mem_nil, or_false] at hp
    rcases hp with rfl | rfl
    · exact ⟨_, _, _, _, _, _, _, _, _, X _ _ qo1, rfl, rfl, qp1, qr1, qs_1, qu1, qv_1, qw1, qx1⟩
    · exact ⟨_, _, _, _, _, _, _, _, _, X _ _ qo2, rfl, rfl, qp2, qr2, qs_2, qu2, qv_2, qw2, qx2⟩
  · intro H a ns hl _ hH hS
    refine ⟨a, ns, rfl, hS, hl, fun p hp => ?_, fun _ => rfl⟩
    simp only [List.mem_cons, List.not_mem_nil, or_false] at hp
    rcases hp with rfl | rfl
    · exact LamX.TabS.nil (hH (q1, P1) (by simp))
    · exact LamX.TabS.nil (hH (q2, P2) (by simp))
  intro base _ _ TBs hsys
  have TB1 := TBs (q1, P1) (by simp)
  have TB2 := TBs (q2, P2) (by simp)
  have hu1 : ∀ p ∈ [(P1, ("_law_made.<locals>.<lambda>" : Str)), (P2, ("law.<locals>.<lambda>" : Str))], p.1 = P1 → p.2 = ("_law_made.<locals>.<lambda>" : Str) := fun p hp e => by
    simp only [List.mem_cons, List.not_mem_nil, or_false] at hp
    rcases hp with rfl | rfl
    · rfl
    · exact absurd e.symm qne12
  have hu2 : ∀ p ∈ [(P1, ("_law_made.<locals>.<lambda>" : Str)), (P2, ("law.<locals>.<lambda>" : Str))], p.1 = P2 → p.2 = ("law.<locals>.<lambda>" : Str) := fun p hp e => by
    simp only [List.mem_cons, List.not_mem_nil, or_false] at hp
    rcases hp with rfl | rfl
    · exact absurd e qne12
    · rfl
  have raw : ∀ {CX : CXT} {k : Nat} {f : Addr} {fd : FuncData} {ps : List Str} {sp : Sp}, FnOk l.prog w K mg base CX k f fd ps sp → Binds K fd ps [] → FnR l.prog w K mg base CX k f sp := fun {CX k f fd ps sp} F b => (F.raw b .nil).imp fun vs H Q E h => by rw [List.append_nil]; exact h
  have x_BadRule : Xer l.prog w K mg base CB "BadRule" ["value"] := ⟨T.m_BadRule, OXB, _, _, _, inB, tf_B, ok_BadRule_init FSB SEB noB_value, Binds.all fun us hl => match us, hl with | [_, _], _ => rfl⟩
  have x_BadName : Xer l.prog w K mg base CN "BadName" ["value"] := ⟨T.m_BadName, OXN, _, _, _, inN, tf_N, ok_BadName_init FSN SEN noN_value, Binds.all fun us hl => match us, hl with | [_, _], _ => rfl⟩
  have x_Twice : Xer l.prog w K mg base CW "Twice" ["name"] := ⟨T.m_Twice, OXW, _, _, _, inW, tf_W, ok_Twice_init FSW SEW noW_name, Binds.all fun us hl => match us, hl with | [_, _], _ => rfl⟩
  have c_is_name : Cal l.prog w K mg base CX0 1 "is_name" spName := ⟨_, PySem.W.mg_of X G a_is_name, k_is_name, raw (ok_name F_is_name T) B_is_name⟩
  have c_need_names : Cal l.prog w K mg base (L2.CX l.prog w) 3 "need_names" (spNN K CN CW) := ⟨_, PySem.W.mg_of X G a_need_names, k_need_names, raw (fn_or (ok_nnT F_need_names T c_is_name x_BadName x_Twice) (ok_nnL F_need_names T c_is_name x_BadName x_Twice)) B_need_names⟩
  have c_Rule : Mkc l.prog w K mg base (L2.CX l.prog w) 4 CR "Rule" (spRule1 CR) := c_rule1 lRI cRI hD hE0 T hC MR c_need_names x_BadRule
  have c_Rule_sk : MkSK l.prog w K mg base (L2.CX l.prog w) 4 CR "Rule" "pins" (spRule K CN CB CW CR) := c_rule FRI T hC MR c_need_names x_BadRule
  have rE : FnR l.prog w K mg base CX0 2 fE (spEq K CR) := raw (ok_eq FE T hC RK) BE
  have c_words : Prp l.prog w K mg base CX0 1 (· = CR) "words" (spWords CR) := ⟨p_words, g_words, _, fun C h => by
    cases h
    exact ⟨CL_R, pa_words, pg_words, pt_words, _, pr_words⟩, ok_words FPwords T hC, BPwords⟩
  have c_pins : Prp l.prog w K mg base CX0 1 (· = CR) "pins" (spPins CR) := ⟨p_pins, g_pins, _, fun C h => by
    cases h
    exact ⟨CL_R, pa_pins, pg_pins, pt_pins, _, pr_pins⟩, ok_pins FPpins T hC, BPpins⟩
  have c__law_pen : Cal l.prog w K mg base CX0 1 "_law_pen" (spPen K) := ⟨_, PySem.W.mg_of X G a__law_pen, k__law_pen, raw (ok_pen F__law_pen T) B__law_pen⟩
  have c__law_draw : Cal l.prog w K mg base CX0 1 "_law_draw" spDraw := ⟨_, PySem.W.mg_of X G a__law_draw, k__law_draw, raw (ok_draw F__law_draw T) B__law_draw⟩
  have c__law_pick : Cal l.prog w K mg base CX0 2 "_law_pick" (spPick K) := ⟨_, PySem.W.mg_of X G a__law_pick, k__law_pick, raw (ok_pick F__law_pick T c__law_draw) B__law_pick⟩
  have c__law_mixed : Cal l.prog w K mg base CX0 2 "_law_mixed" spMixed := ⟨_, PySem.W.mg_of X G a__law_mixed, k__law_mixed, raw (ok_mixed F__law_mixed T c__law_draw) B__law_mixed⟩
  have c__law_made : Cal l.prog w K mg base (L2.CX l.prog w) 7 "_law_made" (spMade K CN CB CW CR [(P1, ("_law_made.<locals>.<lambda>" : Str)), (P2, ("law.<locals>.<lambda>" : Str))]) := ⟨_, PySem.W.mg_of X G a__law_made, k__law_made, raw (ok_made F__law_made T rfl TB1 (by simp) hu1 c_Rule_sk) B__law_made⟩
  have c__law_due : Cal l.prog w K mg base CX0 1 "_law_due" spDue := ⟨_, PySem.W.mg_of X G a__law_due, k__law_due, raw (ok_due F__law_due T hsys) B__law_due⟩
  have c__law_alike_right : Cal l.prog w K mg base CX0 8 "_law_alike_right" (spAlike [(P1, ("_law_made.<locals>.<lambda>" : Str)), (P2, ("law.<locals>.<lambda>" : Str))]) := ⟨_, PySem.W.mg_of X G a__law_alike_right, k__law_alike_right, raw (ok_alike F__law_alike_right T hC RK rE c__law_made) B__law_alike_right⟩
  have mh := PySem.W.mg_of X G a__law_heard
  exact ok_law F_law T hC RK F__law_heard mh B__law_heard eTB eTN eTW rfl TB2 (by simp) hu2 hsys rE c_words c_pins c_Rule c_Rule_sk c__law_pen c__law_draw c__law_pick c__law_mixed c__law_made c__law_due c__law_alike_right
theorem walk {l : PySem.W.OpenLaw} {q : Program} {loose : List Str} {XP : (Str → Option Value) → Heap → Prop} {YP : World → Heap → Prop} {d : DefRec} {K : Params → PySem.W.Frag} (hn : l.most = some 63) (hdf : d.params.defaults = []) (him : importsNone q = true)
    (hY : ∀ (w : World) (h : Heap), YP w h → (K w.params).In h)
    (F : ∀ (w : World) (mg : Str → Option Value) (fa : Addr) (h : Heap), (K w.params).In h → h.Ns mainGlobals mg → mg d.name = some (.ref fa) → (∀ (x : Str) (fx : Addr), ((recsOf q).any fun e => e.name == x) = true → mg x = some (.ref fx) → LamX.OwnTab (K w.params) fx h) → LawG l w (K w.params) CX0 10 63 "_law_script" mg fa h) :
    PySem.W.WalkO q loose XP YP l.row.toRowW d [] (fun f vs => PySem.call f vs) :=
  walk_G (n := 63) (k := 10) (x := "_law_script") (CX := fun _ => CX0) hn (by decide) hdf ⟨rfl, by decide, by decide⟩ him hY (fun w mg fa h _ => F w mg fa h) fun _ _ _ _ _ z => z
end K71
end
section
set_option Elab.async false
set_option linter.all false
set_option maxRecDepth 100000
set_option maxHeartbeats 8000000
namespace HeadH
open PySem PySem.W PySem.Calls PyProof.Rows
def nms0 : List PySem.Str := ["StowError", "BadName", "BadRule", "Twice", "LETTERS", "LONGEST_NAME", "is_name", "need_names", "Rule", "_law_pen", "_law_draw", "_law_pick", "_law_mixed", "_law_heard", "_law_due", "_law_alike_right"]
def nms : List PySem.Str := nms0
end HeadH
open PySem PySem.W PySem.Calls PyProof.Rows
local macro_rules
  | `(tactic| o_head $H) => do
    let a := H.raw[1][1]
    let as : Lean.TSyntax `term := ⟨a[1]⟩
    let ob ← `(fun s => (List.map (HandSHeadRun.getT s) $as, List.map (HandSHeadRun.getT s) $(⟨a[3]⟩)))
    let (ho, run, hw, hc) := (Lean.mkIdent `ho, Lean.mkIdent `run, Lean.mkIdent `hw, Lean.mkIdent `hc)
    `(tactic| refine HandSHeadRun.head_any (r := OpenLaw.row PySem.Challenge.rw_loopstow_k71_rules_made) (q := view (OpenLaw.row PySem.Challenge.rw_loopstow_k71_rules_made).prog [17, 21]) (H := $H) (ob := $ob) (M := 9000) (loose := HeadH.nms) (d := HandSHeadRun.topDef (OpenLaw.row PySem.Challenge.rw_loopstow_k71_rules_made).prog 21) (kwd := []) ?$ho (by kernel_rfl) (fun s => by kernel_rfl) ?$run (by kernel_rfl) (by kernel_rfl) (by kernel_rfl) (by rfl) (by first | assumption | decide +kernel) (by decide +kernel) ⟨rfl, rfl, rfl, rfl, rfl, by decide +kernel⟩ ?$hw ?$hc)
set_option maxRecDepth 100000 in
set_option maxHeartbeats 0 in
theorem PySem.Challenge.cw_loopstow_k71_rules_made_holds : PySem.Challenge.rw_loopstow_k71_rules_made.Holds := by
  w_on; o_law; k_head; (case ho => intro s; exact Prod.ext (congrArg (fun f => List.map f _) (funext fun a => HandSHeadRun.getT_eq s a)) (congrArg (fun f => List.map f _) (funext fun a => HandSHeadRun.getT_eq s a))); (case run => intro w os; kernel_rfl); (case hw => w_witness2)
  k_fill
  refine K71.walk (l := PySem.Challenge.rw_loopstow_k71_rules_made) rfl rfl (by decide +kernel) (fun w h Y => PySem.W.km_in_of Y) ?F
  case F =>
    intro w mg fa h KX G hmg ow
    refine' K71.all_mk KX G hmg ow ?b0 ?b1 ?b2 ?b3 ?b4 ?b5 ?b6 ?b7 ?b8 ?b9 ?b10 ?b11 ?b12 ?gL ?eL ?gN ?hn ?htk ?any_ ?top_ ?gCE ?eE1 ?eE2 ?eE3 ?gB_ ?xoB ?xrB ?saB ?beB ?tyB ?kpB ?inB ?tf_B ?lIB ?cIB ?kIB ?ceB ?coB ?v2B ?flB ?cd_B ?sbB ?svB ?fd_B ?noB_value ?suB ?xgB ?xkB ?hdB ?haB ?hmB ?gN_ ?xoN ?xrN ?saN ?beN ?tyN ?kpN ?inN ?tf_N ?lIN ?cIN ?kIN ?ceN ?coN ?v2N ?flN ?cd_N ?sbN ?svN ?fd_N ?noN_value ?suN ?xgN ?xkN ?hdN ?haN ?hmN ?gW_ ?xoW ?xrW ?saW ?beW ?tyW ?kpW ?inW ?tf_W ?lIW ?cIW ?kIW ?ceW ?coW ?v2W ?flW ?cd_W ?sbW ?svW ?fd_W ?noW_name ?suW ?xgW ?xkW ?hdW ?haW ?hmW ?kvB ?kBB_ ?kBN_ ?kBW_ ?kvN ?kNB_ ?kNN_ ?kNW_ ?kvW ?kWB_ ?kWN_ ?kWW_ ?gR_ ?pgR ?hdR ?poR ?saR ?nR_row_words ?nR_row_pins ?haR ?hmR ?mkR ?inR ?fnR ?kpR ?lRI ?cRI ?kRI ?hD ?lD ?ty_R ?rd_R ?ga_R ?mo_R ?lW ?eW ?kRR ?kRL ?kRT ?aE ?neR ?nfR ?nfL ?nfT ?iE ?lE ?cE ?kE ?pa_words ?pg_words ?pt_words ?pr_words ?lPwords ?cPwords ?kPwords ?pa_pins ?pg_pins ?pt_pins ?pr_pins ?lPpins ?cPpins ?kPpins ?a_is_name ?l_is_name ?c_is_name ?k_is_name ?a_need_names ?l_need_names ?c_need_names ?k_need_names ?a__law_pen ?l__law_pen ?c__law_pen ?k__law_pen ?a__law_draw ?l__law_draw ?c__law_draw ?k__law_draw ?a__law_pick ?l__law_pick ?c__law_pick ?k__law_pick ?a__law_mixed ?l__law_mixed ?c__law_mixed ?k__law_mixed ?a__law_made ?l__law_made ?c__law_made ?k__law_made ?qo1 ?qp1 ?qr1 ?qs_1 ?qu1 ?qv_1 ?qw1 ?qx1 ?qn1 ?rc1 ?a__law_heard ?l__law_heard ?c__law_heard ?k__law_heard ?a__law_due ?l__law_due ?c__law_due ?k__law_due ?a__law_alike_right ?l__law_alike_right ?c__law_alike_right ?k__law_alike_right ?a_law ?l_law ?c_law ?k_law ?qo2 ?qp2 ?qr2 ?qs_2 ?qu2 ?qv_2 ?qw2 ?qx2 ?qn2 ?rc2 ?qne12
    (case b0 => k_is)
    (case b1 => k_is)
    (case b2 => k_is)
    (case b3 => k_is)
    (case b4 => k_is)
    (case b5 => k_is)
    (case b6 => k_is)
    (case b7 => k_is)
    (case b8 => k_is)
    (case b9 => k_is)
    (case b10 => k_is)
    (case b11 => k_is)
    (case b12 => k_is)
    (case gL => k_is)
    (case eL => decide +kernel)
    (case gN => k_is)
    (case hn => k_is)
    (case htk => k_is)
    (case any_ => k_is)
    (case top_ => decide +kernel)
    (case gCE => k_is)
    (case eE1 => k_is)
    (case eE2 => k_is)
    (case eE3 => k_is)
    (case gB_ => k_is)
    (case xoB => k_is)
    (case xrB => rfl)
    (case saB => k_is)
    (case beB => k_is)
    (case tyB => k_is)
    (case kpB => k_is)
    (case inB => k_is)
    (case tf_B => k_is)
    (case lIB => k_is)
    (case cIB => k_is)
    (case kIB => k_is)
    (case ceB => k_is)
    (case coB => k_is)
    (case v2B => rfl)
    (case flB => decide +kernel)
    (case cd_B => k_is)
    (case sbB => k_is)
    (case svB => k_is)
    (case fd_B => ks_is)
    (case noB_value => k_is)
    (case suB => k_is)
    (case xgB => k_is)
    (case xkB => k_is)
    (case hdB => k_is)
    (case haB => k_is)
    (case hmB => k_is)
    (case gN_ => k_is)
    (case xoN => k_is)
    (case xrN => rfl)
    (case saN => k_is)
    (case beN => k_is)
    (case tyN => k_is)
    (case kpN => k_is)
    (case inN => k_is)
    (case tf_N => k_is)
    (case lIN => k_is)
    (case cIN => k_is)
    (case kIN => k_is)
    (case ceN => k_is)
    (case coN => k_is)
    (case v2N => rfl)
    (case flN => decide +kernel)
    (case cd_N => k_is)
    (case sbN => k_is)
    (case svN => k_is)
    (case fd_N => ks_is)
    (case noN_value => k_is)
    (case suN => k_is)
    (case xgN => k_is)
    (case xkN => k_is)
    (case hdN => k_is)
    (case haN => k_is)
    (case hmN => k_is)
    (case gW_ => k_is)
    (case xoW => k_is)
    (case xrW => rfl)
    (case saW => k_is)
    (case beW => k_is)
    (case tyW => k_is)
    (case kpW => k_is)
    (case inW => k_is)
    (case tf_W => k_is)
    (case lIW => k_is)
    (case cIW => k_is)
    (case kIW => k_is)
    (case ceW => k_is)
    (case coW => k_is)
    (case v2W => rfl)
    (case flW => decide +kernel)
    (case cd_W => k_is)
    (case sbW => k_is)
    (case svW => k_is)
    (case fd_W => ks_is)
    (case noW_name => k_is)
    (case suW => k_is)
    (case xgW => k_is)
    (case xkW => k_is)
    (case hdW => k_is)
    (case haW => k_is)
    (case hmW => k_is)
    (case kvB => kit_is)
    (case kBB_ => kit_is)
    (case kBN_ => kit_is)
    (case kBW_ => kit_is)
    (case kvN => kit_is)
    (case kNB_ => kit_is)
    (case kNN_ => kit_is)
    (case kNW_ => kit_is)
    (case kvW => kit_is)
    (case kWB_ => kit_is)
    (case kWN_ => kit_is)
    (case kWW_ => kit_is)
    (case gR_ => k_is)
    (case pgR => k_is)
    (case hdR => k_is)
    (case poR => k_is)
    (case saR => k_is)
    (case nR_row_words => k_is)
    (case nR_row_pins => k_is)
    (case haR => k_is)
    (case hmR => k_is)
    (case mkR => k_is)
    (case inR => k_is)
    (case fnR => k_is)
    (case kpR => k_is)
    (case lRI => k_is)
    (case cRI => k_is)
    (case kRI => k_is)
    (case hD => k_is)
    (case lD => k_is)
    (case ty_R => k_is)
    (case rd_R => k_is)
    (case ga_R => k_is)
    (case mo_R => k_is)
    (case lW => k_is)
    (case eW => decide +kernel)
    (case kRR => kit_is)
    (case kRL => kit_is)
    (case kRT => kit_is)
    (case aE => k_is)
    (case neR => k_is)
    (case nfR => k_is)
    (case nfL => k_is)
    (case nfT => k_is)
    (case iE => k_is)
    (case lE => k_is)
    (case cE => k_is)
    (case kE => k_is)
    (case pa_words => k_is)
    (case pg_words => k_is)
    (case pt_words => k_is)
    (case pr_words => k_is)
    (case lPwords => k_is)
    (case cPwords => k_is)
    (case kPwords => k_is)
    (case pa_pins => k_is)
    (case pg_pins => k_is)
    (case pt_pins => k_is)
    (case pr_pins => k_is)
    (case lPpins => k_is)
    (case cPpins => k_is)
    (case kPpins => k_is)
    (case a_is_name => k_is)
    (case l_is_name => k_is)
    (case c_is_name => k_is)
    (case k_is_name => k_is)
    (case a_need_names => k_is)
    (case l_need_names => k_is)
    (case c_need_names => k_is)
    (case k_need_names => k_is)
    (case a__law_pen => k_is)
    (case l__law_pen => k_is)
    (case c__law_pen => k_is)
    (case k__law_pen => k_is)
    (case a__law_draw => k_is)
    (case l__law_draw => k_is)
    (case c__law_draw => k_is)
    (case k__law_draw => k_is)
    (case a__law_pick => k_is)
    (case l__law_pick => k_is)
    (case c__law_pick => k_is)
    (case k__law_pick => k_is)
    (case a__law_mixed => k_is)
    (case l__law_mixed => k_is)
    (case c__law_mixed => k_is)
    (case k__law_mixed => k_is)
    (case a__law_made => k_is)
    (case l__law_made => k_is)
    (case c__law_made => k_is)
    (case k__law_made => k_is)
    (case qo1 => k_is)
    (case qp1 => rfl)
    (case qr1 => rfl)
    (case qs_1 => rfl)
    (case qu1 => rfl)
    (case qv_1 => rfl)
    (case qw1 => rfl)
    (case qx1 => decide)
    (case qn1 => first | rfl | kernel_rfl)
    (case rc1 => decide +kernel)
    (case a__law_heard => k_is)
    (case l__law_heard => k_is)
    (case c__law_heard => k_is)
    (case k__law_heard => k_is)
    (case a__law_due => k_is)
    (case l__law_due => k_is)
    (case c__law_due => k_is)
    (case k__law_due => k_is)
    (case a__law_alike_right => k_is)
    (case l__law_alike_right => k_is)
    (case c__law_alike_right => k_is)
    (case k__law_alike_right => k_is)
    (case a_law => k_is)
    (case l_law => k_is)
    (case c_law => k_is)
    (case k_law => k_is)
    (case qo2 => k_is)
    (case qp2 => rfl)
    (case qr2 => rfl)
    (case qs_2 => rfl)
    (case qu2 => rfl)
    (case qv_2 => rfl)
    (case qw2 => rfl)
    (case qx2 => decide)
    (case qn2 => first | rfl | kernel_rfl)
    (case rc2 => decide +kernel)
    (case qne12 => decide)
end
