import PyProof.Rows.All
import Wide.All
import OpenK.AllK
import Wide.FinOn
import KE.KSuper
import KE.KCallOwn
import HandS.ForMost
import HandS.ClsMeth
import HandS.OwnEq
import HandS.FStr
import HandS.IsInst
import HandS.Star
import HandS.SlotsOwn
import HandS.Defaults
import HandS.RaiseMore
import PyProof.NeKinds
import HandS.Walk
import KE.KFromBytes
import HandS.Exc
import HandS.ExcInit
import HandS.ExcSuper
import HandS.ExcIs
import KE.KExcIs
import HandS.ExcField
import HandS.ExcValue
import HandS.Lambda
import HandS.EndTab
import HandS.EndOwn
import HandS.Words
import HandS.WordsExc
import HandS.Dict
import HandS.Text
import PyProof.InstNe
import PyProof.ReprLen
import KE.KRevSl
import HandS.SetFor
import HandS.Style
import HandS.Set
import HandS.Strs
import HandS.SetKeys
import HandS.More
import HandS.Property
import HandS.List
import PyProof.P3Eq
import HandS.ExcOwn
import PyProof.FitsInt
import HandS.MakeKw
import HandS.Codes
import PySem.Challenge.RW_loopstow_k01_deeds
import HandS.TupAny
import HandS.Flow
import KE.RegKSuper
import KE.RegKIsAll
import KE.KStateDown
import HandS.Head0
import HandS.Head1
import HandS.Head2
section
set_option Elab.async false
set_option linter.all false
set_option maxRecDepth 100000
set_option maxHeartbeats 4000000
/-! Own rules over the hand layer. -/
namespace Ls
open PySem PySem.Spec PyProof.Rows L2

/-! ### what a for walks: one of two kinds -/
theorem PI.or {X : Cx} {tg iter : Expr} {w1 w2 : TI} (h1 : PI X tg iter w1) (h2 : PI X tg iter w2) : PI X tg iter (fun σ H R => w1 σ H R ∨ w2 σ H R) :=
  ⟨fun pins s σ H R I h => h.elim (fun h => h1.run pins s σ H R I h) (fun h => h2.run pins s σ H R I h)⟩
/-- a list or a tuple -/
theorem pi_seq {X : Cx} {tg l : Expr} {tl : TE} (hl : PE X l tl) : PI X tg l (fun σ H R => iList X.K tl σ H R ∨ iTup X.K tl σ H R) := PI.or (pi_list hl) (pi_tup hl)

/-! ### f(k = v, ..), no positional argument -/
section
variable {X : Cx} {CX : CXT} {k : Nat} {f : Addr} {fd : FuncData} {ps ks : List Str} {sp : Sp} {E : XK} {x : Str} {p pos : Pos} {kws : List Keyword} {tk : TA} {g : List Value → List Value → List Value} {gV : List V → List V → List V}
theorem pe_callK0 (F : FnOk X.prog X.w X.K X.mg X.base CX k f fd ps sp) (hr : Room k X.A) (hg : Gl X x) (hm : X.mg x = some (.ref f)) (hk : PySem.W.keepIn X.K (.ref f) = true) (hb : KBn X.K fd ps 0 ks g gV) (hx : Passes CX X E)
    (hkw : PK X kws tk) (hall : (backToKw pos (keywordEach kws X.env)).all (·.1.isSome) = true := by rfl) (hks : (backToKw pos (keywordEach kws X.env)).filterMap (·.1) = ks := by rfl)
    (hdb : (x == ("__debug__" : Str)) = false := by decide)
    (hpl : ((backTo pos (starEach [] X.env)).any (·.1) || (backToKw pos (keywordEach kws X.env)).any (·.1.isNone)) = false := by rfl) :
    PE X (.Call (.Name x p) [] kws pos) (tCallN 0 ks.length sp gV E tNil tk) := by
  refine ⟨fun pins s σ H Q I h => ?_⟩
  refine wpAny_Call_Name_kw (ld_glob I hg hm ?_ hdb)
  refine PySem.W.callWith_KW0 (h₀ := X.base) I.ok.mod.kin hk hall ?_ hpl
  refine thn (hkw.run pos pins s σ H _ I h) fun ws s2 ⟨zs, H2, I2, rz, l1, l2, q2⟩ => ⟨I2.kIn, ?_⟩
  rw [hks]
  exact run_fnN (us := []) (vs := []) F hr hb hx I2 .nil rz l1 l2 q2
/-- one parameter, given by its name -/
theorem kbn_one {K : PySem.W.Frag} {x qual : Str} {st : Stmt} {f : Addr} {fd : FuncData} {a : Str} (F : Fun K x qual st f fd)
    (h : ∀ (kV doc pm : Value) (an : Option Addr) (cdv ct u : Value), bindArgs (PySem.W.fnOf x qual (defArgs st) (defBody st) (defScope st) .none kV doc pm an cdv ct) ⟨[], [(a, u)]⟩ = pure [(a, u)]) :
    KBn K fd [a] 0 [a] (fun _ ws => ws) (fun _ zs => zs) := by
  obtain ⟨oc, od, kV, doc, pm, an, cdv, ct, osl, rfl, lk, hcd⟩ := F.ex
  refine ⟨fun s us ws _ l1 l2 => ?_, fun _ r => r⟩
  match us, ws, l1, l2 with
  | [], [u], _, _ => exact .of_eq (h kV doc pm an cdv ct u)
end

/-! ### str(x), x an instance whose class has the text's own __str__ -/
def rStrOwn (K : PySem.W.Frag) (g : Addr) (sp : Sp) (E : XK) : List V → Hp → VK → Prop := fun xs H Q => ∃ a C dx fs, xs = [V.ref a] ∧ H a = some (.ins C dx fs) ∧ PySem.W.findIn K (.ref C) "__str__" = some (some (.ref g)) ∧ sp [.ref a] H (fun z H' => ∃ y, z = .str y ∧ Q z H') E
section
variable {X : Cx} {CX : CXT} {g : Addr} {n : Nat} {sp : Sp} {E : XK}
theorem call_strOwn (hf : PySem.W.isFn X.K (.ref g) = true) (F : FnR X.prog X.w X.K X.mg X.base CX n g sp) (hr : Room (n + 2) X.A) (hx : Passes CX X E) : CallR X (.type "str") (rStrOwn X.K g sp E) := by
  intro pins s σ H xs us Q I r h
  obtain ⟨a, C, dx, fs, rfl, ha, hs, q⟩ := h
  obtain ⟨u, rfl, ru⟩ := r.one
  cases (show u = Value.ref a from ru)
  obtain ⟨mA, O, _⟩ := ins_get I.hok ha
  obtain ⟨od, J, _⟩ := O.look
  have hr2 : Room n X.A.in1.in1 := (show Room (n + 1) X.A.in1 from Room.in1 hr).in1
  refine PySem.W.kso_call hr2.units0 I.kIn J hs hf (wpAny_mono (wpAny_call (SlX.run_at (us := [.ref a]) (ws := [.ref a]) F hr2 I.env0.in1.in1 hx I (.cons rfl .nil) q)) (fun w s' z => ?_) fun _ _ x => x)
  obtain ⟨z', H', I', rz, y, ey, qz⟩ := z
  subst ey
  obtain ⟨t, e⟩ := (show ∃ t, w = Value.str y t from rz)
  cases e
  exact ⟨.str y, H', I', ⟨t, rfl⟩, qz⟩
/-- .. the written part by its own name (for a block) -/
theorem call_strOwnK {P : Program} {w : World} {K : PySem.W.Frag} {mg : Str → Option Value} {base : Heap} (hf : PySem.W.isFn K (.ref g) = true) (F : FnR P w K mg base CX n g sp) {A : Around} (hr : Room (n + 2) A) (hP : X.prog = P) (hw : X.w = w) (hK : X.K = K) (hmg : X.mg = mg) (hb : X.base = base) (hA : X.A = A) (hx : Passes CX X E) :
    CallR X (.type "str") (rStrOwn K g sp E) := by
  subst hP hw hK hmg hb hA
  exact call_strOwn hf F hr hx
end
end Ls
end
section
set_option Elab.async false
set_option linter.all false
set_option maxRecDepth 100000
set_option maxHeartbeats 4000000
namespace Ls
open PySem PySem.Spec PyProof.Rows L2

/-! ### a def that closes over __class__, its first statement super().__init__(..) -/
structure ScS (N ps : List Str) (sc : Scope) : Prop where
  kind : sc.kind = .function
  co : sc.isCoroutine = false
  gen : sc.isGenerator = false
  nd : N.Nodup
  pre : N.take ps.length = ps
  par : ∀ x ∈ ps, sc.names.lookup x = some .local
  nocell : ∀ y ∈ sc.names, y.2 ≠ .cell
  free : ∀ y ∈ sc.names, y.2 = .free → y.1 = "__class__"

def cxS (CX : CXT) (P : Program) (w : World) (K : PySem.W.Frag) (mg : Str → Option Value) (base : Heap) (N : List Str) (qual : Str) (scope : Scope) (f : Addr) (cd : Value) (cc : Addr) (A : Around) (outer : List Env) (s : Shared) (H : Hp) (E : XK) : Cx where
  prog := P
  w := w
  K := K
  mg := mg
  base := base
  A := A.deeper (PySem.W.ksEnv qual scope s.heap.objs.size f cd cc)
  N := N
  s_0 := s
  H_0 := H
  env := PySem.W.ksEnv qual scope s.heap.objs.size f cd cc
  outer := outer
  stack := PySem.W.ksEnv qual scope s.heap.objs.size f cd cc :: outer
  ex := []
  calm := true
  fn := fun x => !(x == ("__class__" : Str))
  pn := []
  xe := fun e s' => wpAny (model P w) (A.deeper (PySem.W.ksEnv qual scope s.heap.objs.size f cd cc)) (leaving (PySem.W.ksEnv qual scope s.heap.objs.size f cd cc) e) (fun _ s'' => CX outer H s E e s'') (fun e' s'' => CX outer H s E e' s'') s'

theorem rev_lookup {x : Str} {v : Value} : ∀ {ps : List Str} {us : List Value} {i : Nat}, ps.Nodup → ps[i]? = some x → us[i]? = some v → (ps.zip us).reverse.lookup x = some v
  | [], _, _, _, h, _ => by simp at h
  | _ :: _, [], _, _, _, h => by simp at h
  | p :: ps, u :: us, 0, nd, h1, h2 => by
    simp at h1 h2
    subst h1; subst h2
    rw [List.zip_cons_cons, List.reverse_cons, List.lookup_append]
    have : (ps.zip us).reverse.lookup p = none := by
      rw [List.lookup_eq_none_iff]
      rintro ⟨a, b⟩ hm
      have hm' := List.mem_reverse.mp hm
      have ha := (List.of_mem_zip hm').1
      have : p ≠ a := fun e => (List.nodup_cons.mp nd).1 (e ▸ ha)
      simpa using this
    rw [this]
    simp [List.lookup]
  | p :: ps, u :: us, i + 1, nd, h1, h2 => by
    rw [List.zip_cons_cons, List.reverse_cons, List.lookup_append, rev_lookup (i := i) (List.nodup_cons.mp nd).2 (by simpa using h1) (by simpa using h2)]
    rfl

section
variable {CX : CXT} {P : Program} {w : World} {K : PySem.W.Frag} {mg : Str → Option Value} {base : Heap} {N ps : List Str} {qual : Str} {scope : Scope} {f cc : Addr} {cd : Value} {A : Around} {outer : List Env} {s : Shared} {H : Hp} {E : XK} {us : List Value} {vs : List V}

theorem inv_startS {h1 : Heap} {tk : Nat} {ocell : Obj} {vc : Option Value} (S : ScS N ps scope) (hd : A.handled = none) (e0 : Env0 P w K mg base A outer s H) (hl : vs.length = ps.length) (r : Vals vs us)
    (hcell : K.lookup cc = some ocell) (hcd : ocell.data = .cell vc)
    (hns : h1.Ns s.heap.objs.size (fun x => (ps.zip us).reverse.lookup x)) (hk : ∀ b o, s.heap.get? b = some o → h1.get? b = some o) :
    Inv (cxS CX P w K mg base N qual scope f cd cc A outer s H E) [] (start N vs) H { s with heap := h1, toks := tk } := by
  have hpl : ps.length ≤ N.length := by have := congrArg List.length S.pre; rw [List.length_take] at this; omega
  have hccb : base.get? cc = some ocell := e0.mod.kin _ _ hcell
  have lkc : ∀ x c, List.lookup x [(("__class__" : Str), cc)] = some c → x = "__class__" ∧ c = cc := fun x c e => by
    by_cases hx : x = "__class__"
    · subst hx
      simp [List.lookup] at e
      exact ⟨rfl, e.symm⟩
    · have : (x == ("__class__" : Str)) = false := by simpa using hx
      simp [List.lookup, this] at e
  have noA : ∀ b : Addr, b ∉ (cxS CX P w K mg base N qual scope f cd cc A outer s H E).ex := fun b z => absurd (show b ∈ ([] : List Addr) from z) (by simp)
  refine ⟨⟨e0.mod, S.kind, rfl, rfl, Nat.le_refl _, fun y z c q1 q2 => ?_, fun y hy => ?_, fun y c hfn h => ?_, fun _ => hd, Around.frames_deeper e0.frames, .inr ⟨rfl, rfl⟩, fun b z => absurd z (noA b), e0.bs, e0.bsz, fun b _ _ => noA b, fun b z => absurd z (noA b), e0.funs, e0.frf⟩,
    rfl, e0.bare, Un.kept hk, ⟨_, hns, fun i y v q1 q2 q3 => ?_⟩, fun y c h => ?_, e0.hok.fresh (Nat.le_refl _), fun y c h => ?_, fun p hp => absurd (show p ∈ ([] : List (Addr × Obj)) from hp) (by simp), e0.hok.kept hk, ?_⟩
  · rw [(lkc y c q1).1, (lkc z c q2).1]
  · have hy : scope.names.lookup y = some .cell ∨ scope.names.lookup y = some .free := hy
    rcases hy with hy | hy
    · exact absurd rfl (S.nocell _ (PySem.mem_of_lookup hy))
    · have e := S.free _ (PySem.mem_of_lookup hy) rfl
      have e' : y = "__class__" := e
      subst e'
      exact ⟨cc, by show List.lookup _ [_] = _; simp [List.lookup]⟩
  · have e := (lkc y c h).1
    subst e
    exact absurd (show (!(("__class__" : Str) == ("__class__" : Str))) = true from hfn) (by simp)
  · have hi : i < vs.length := by
      unfold L2.start at q2
      by_cases hi : i < vs.length
      · exact hi
      · rw [List.getElem?_append_right (by simpa using hi)] at q2
        rw [List.getElem?_replicate] at q2
        split at q2 <;> cases q2
    have ha : vs[i]? = some v := by
      unfold L2.start at q2
      rw [List.getElem?_append_left (by simpa using hi), List.getElem?_map] at q2
      cases e : vs[i]? with
      | none => rw [e] at q2; cases q2
      | some a => rw [e] at q2; cases q2; rfl
    obtain ⟨u, hu, rv⟩ := r.get ha
    have hp : ps[i]? = some y := by
      rw [← S.pre, List.getElem?_take_of_lt (by omega)]; exact q1
    have ndP : ps.Nodup := by rw [← S.pre]; exact S.nd.sublist (List.take_sublist _ _)
    exact ⟨u, rv, .inl ⟨S.par y (List.mem_of_getElem? hp), rev_lookup ndP hp hu⟩⟩
  · obtain ⟨_, e⟩ := lkc y c h
    subst e
    exact ⟨vc, ocell, hk _ _ (e0.bs _ _ hccb).1, hcd⟩
  · obtain ⟨_, e⟩ := lkc y c h
    subst e
    exact (e0.bs _ _ hccb).2
  · unfold L2.start
    show _ = N.length
    rw [List.length_append, List.length_map, List.length_replicate]
    omega
end

/-- what the written part says for super().__init__ in a def of the class at D, of an instance of the class at C -/
structure SupT (P : Program) (K : PySem.W.Frag) (mg : Str → Option Value) (C D cc cda : Addr) (m : Str) (f2 : Addr) : Prop where
  cell : ∃ cl cld csl, K.lookup cc = some ⟨cl, cld, .cell (some (.ref D)), csl⟩
  code : ∃ ccl cdd vs ccs file tf, K.lookup cda = some ⟨ccl, cdd, .fields vs, ccs⟩ ∧ vs[2]? = some (.str file tf) ∧ ((P.main.file : Str) == file) = true
  clD : ∃ cdD, PySem.W.clsIn K D = some cdD
  sub : PySem.W.mroIn K C (.ref D) = some true
  sup : mg "super" = none
  top : (P.main.scope.names.lookup ("super" : Str)).isSome = false
  any : PySem.W.nsIn K cStatics "thirdparty.any" = some none
  fnd : PySem.W.ks_superIn K C D m = some (some (.ref f2))
  ty : PySem.W.typeIn K (.ref f2) = some (.type "function")
  fi : PySem.W.fnIn K f2 = true

section
variable {CX : CXT} {P : Program} {w : World} {K : PySem.W.Frag} {mg : Str → Option Value} {base : Heap} {k : Nat} {f cc cda : Addr} {name qual : Str} {params : Arguments} {scope : Scope} {dV kV doc pm ct oc : Value} {an od : Option Addr}
    {osl : Array (Option Value)} {N ps : List Str} {sp : Sp} {e : PySem.Expr} {es : List PySem.Expr} {rest : List Stmt} {m : Str} {p0 p1 apos pos epos : Pos} {pl : Sem Bool}
theorem fn_super (lk : K.lookup f = some ⟨oc, od, .func (PySem.W.ksFn name qual params (.Expr (.Call (.Attribute (.Call (.Name "super" p0) [] [] p1) m apos) (e :: es) [] pos) epos :: rest) scope dV kV doc pm an (.ref cda) ct cc), osl⟩)
    (hcd : PySem.W.codeIn K (.ref cda) qual = true) (S : ScS N ps scope)
    {ar : Arg} (hp0 : (params.posonlyargs ++ params.args).head? = some ar) (hps : ps.head? = some ar.arg) (hN0 : N.head? = some ar.arg) (har : scope.names.lookup ar.arg = some .local)
    (hks : scope.names.lookup ("super" : Str) = some .globalImplicit) (hkc : scope.names.lookup ("__class__" : Str) = some .free) (hmc : (m == ("__class__" : Str)) = false)
    (len : ∀ vs H Q E, sp vs H Q E → vs.length = ps.length)
    (hbody : ∀ (A : Around) (outer : List Env) (s : Shared) (H : Hp) (vs : List V) (Q : VK) (E : XK), Room k (A.deeper (PySem.W.ksEnv qual scope s.heap.objs.size f (.ref cda) cc)) → sp vs H Q E →
      ∃ (x C D dx f2 : Addr) (fs : List (Str × V)) (vs' : List V) (ta : TA) (u : TS) (spM : Sp) (CX' : CXT) (E' : XK), vs = .ref x :: vs' ∧ H x = some (.ins C dx fs) ∧ SupT P K mg C D cc cda m f2 ∧
        PA (cxS CX P w K mg base N qual scope f (.ref cda) cc A outer s H E) (e :: es) ta ∧ FnR P w K mg base CX' k f2 spM ∧ Passes CX' (cxS CX P w K mg base N qual scope f (.ref cda) cc A outer s H E) E' ∧
        PSs (cxS CX P w K mg base N qual scope f (.ref cda) cc A outer s H E) rest u ∧
        ta (start N vs) H (fun ws H1 => spM (.ref x :: ws) H1 (fun _ H2 => u { nx := fun _ H' => Q .non H', rt := Q } (start N vs) H2) E'))
    (hi : ∀ L, interactive (PySem.W.ksEnv qual scope L f (.ref cda) cc) = false) (hsw : ∀ L, swapsWith (.Call (.Attribute (.Call (.Name "super" p0) [] [] p1) m apos) (e :: es) [] pos) none epos.line (PySem.W.ksEnv qual scope L f (.ref cda) cc) = pure false)
    (he : ∀ L, eval (.Call (.Attribute (.Call (.Name "super" p0) [] [] p1) m apos) (e :: es) [] pos) (PySem.W.ksEnv qual scope L f (.ref cda) cc) = (do
      let ov ← attributeBase (.Call (.Name "super" p0) [] [] p1) m (PySem.W.ksEnv qual scope L f (.ref cda) cc) (eval (.Call (.Name "super" p0) [] [] p1) (PySem.W.ksEnv qual scope L f (.ref cda) cc))
      standAt apos.atName
      let (fn, first) ← holding [ov] (getMethod ov m pl)
      callWith pos fn first (backTo pos (starEach (e :: es) (PySem.W.ksEnv qual scope L f (.ref cda) cc))) []))
    (hst : ∀ L, starEach (e :: es) (PySem.W.ksEnv qual scope L f (.ref cda) cc) = (false, eval e (PySem.W.ksEnv qual scope L f (.ref cda) cc)) :: starEach es (PySem.W.ksEnv qual scope L f (.ref cda) cc))
    (hpl : ∀ L, (backTo pos (starEach es (PySem.W.ksEnv qual scope L f (.ref cda) cc))).any (·.1) = false) :
    FnOk P w K mg base CX (k + 1) f (PySem.W.ksFn name qual params (.Expr (.Call (.Attribute (.Call (.Name "super" p0) [] [] p1) m apos) (e :: es) [] pos) epos :: rest) scope dV kV doc pm an (.ref cda) ct cc) ps sp := by
  refine ⟨len, fun A outer s H args us vs Q E hr e0 hb r hsp => ?_⟩
  have hl := len _ _ _ _ hsp
  have KX : K.In s.heap := e0.mod.kin.keeps fun b o e => (e0.bs b o e).1
  have lim : s.heap.NoLimit := e0.mod.nolimit.keeps fun b o e => (e0.bs b o e).1
  obtain ⟨x, C, D, dx, f2, fs, vs', ta, u, spM, CX', E', rfl, hx, T, hta, FM, hpx, hrest, hq⟩ := hbody A outer s H vs Q E (hr.deeper _) hsp
  obtain ⟨cl, cld, csl, hcell⟩ := T.cell
  obtain ⟨ccl, cdd, cvs, ccs, file, tf, hcode, hvs, hfile⟩ := T.code
  obtain ⟨cdD, hD⟩ := T.clD
  refine PySem.ks_codeAny_call_defAt (binds := ps.zip us) hr.depth (KX _ _ lk) rfl lim (PySem.W.codeRec_of KX hcd) rfl hb S.nocell (fun y hy => S.par y.1 (List.of_mem_zip hy).1) (fun h1 hns hk => ?_) S.co S.gen S.kind
  have I : Inv (cxS CX P w K mg base N qual scope f (.ref cda) cc A outer s H E) [] (start N (.ref x :: vs')) H { s with heap := h1, toks := s.toks + (ps.zip us).length } :=
    inv_startS (vs := .ref x :: vs') S hr.hd e0 hl r hcell rfl hns hk
  have hX : K.In h1 := I.kIn
  obtain ⟨mA, O, _⟩ := ins_get I.hok hx
  obtain ⟨odx, J, _⟩ := O.look
  obtain ⟨oD, hD1, hD2⟩ : ∃ oD, h1.get? D = some oD ∧ oD.data = .cls cdD := by
    unfold PySem.W.clsIn at hD
    split at hD
    · rename_i c d cd' sl ho
      cases hD
      exact ⟨_, hX _ _ ho, rfl⟩
    · cases hD
  have hbase : ∀ b o, s.heap.get? b = some o → h1.get? b = some o := hk
  refine PySem.ks_wpAt_execs_cons (PySem.ks_wpAt_Expr_any (PySem.ks_wpAt_MethodCall (pl := pl) ?_ (he _)) (hi _) (hsw _))
  refine PySem.ks_wpAt_super_base (env := PySem.W.ksEnv qual scope s.heap.objs.size f (.ref cda) cc) hks hkc hmc rfl (hX _ _ lk) rfl hp0 rfl (hX _ _ hcode) rfl hvs hfile T.top ?_
  obtain ⟨mb, hb1, hb2⟩ := I.mod.blt
  refine PySem.W.ks_loadName_global S.kind hks (Calls.loadGlobal_builtin (env := PySem.W.ksEnv qual scope s.heap.objs.size f (.ref cda) cc) (I.mod.glob.keeps I.bk) T.sup (hb1.keeps I.bk) ((hb2 _ (by decide +kernel)).trans (show bootBuiltins "super" = some (.type "super") by first | rfl | kernel_rfl)) ⟨rfl, ?_⟩)
  refine wpAny_loadName_free S.kind hkc (by show List.lookup _ [_] = _; simp [List.lookup]) ⟨_, hX _ _ hcell, rfl⟩ ?_
  have hself : (ps.zip us).reverse.lookup ar.arg = some (.ref x) := by
    match ps, us, hps, r with
    | p :: ps', u' :: us', hp', .cons ru _ =>
      have hp'' : p = ar.arg := by simpa using hp'
      subst hp''
      cases (show u' = Value.ref x from ru)
      have ndP : (ar.arg :: ps').Nodup := by
        have := S.pre
        rw [← this]
        exact S.nd.sublist (List.take_sublist _ _)
      exact rev_lookup (i := 0) ndP rfl rfl
  refine wpAny_loadName_local S.kind har hns hself ?_
  refine PySem.ks_wpAny_isType_cls hD1 hD2 ⟨rfl, ?_⟩
  refine PySem.ks_wpAny_call_super hD1 hD2 J.at_ J.cls (fun c e => ?_) (PySem.W.looks_mroIn hX T.sub) (fun h' hso k' => ?_)
  · have := J.no
    unfold PySem.W.notCls at this
    rw [e] at this
    exact Bool.noConfusion this
  -- the super object is pinned
  have I1 : Inv (cxS CX P w K mg base N qual scope f (.ref cda) cc A outer s H E) [(h1.objs.size, PySem.W.ks_superObj D x C)] (start N (.ref x :: vs')) H { s with heap := h', toks := s.toks + (ps.zip us).length } :=
    ClX.pin_new (s := { s with heap := h1, toks := s.toks + (ps.zip us).length }) (t' := s.toks + (ps.zip us).length) I k' (Nat.le_refl _) hso (fun v z => nomatch z)
  have hX' : K.In h' := I1.kIn
  have fnd := T.fnd
  cases hc : PySem.W.clsIn K C with
  | none => unfold PySem.W.ks_superIn at fnd; rw [hc] at fnd; cases fnd
  | some cdC =>
    unfold PySem.W.ks_superIn at fnd
    rw [hc] at fnd
    obtain ⟨of, hof, hofc⟩ : ∃ of, h'.get? f2 = some of ∧ of.cls = .type "function" := by
      have ht' : (K.lookup f2).map (·.cls) = some (.type "function") := T.ty
      cases z : K.lookup f2 with
      | none => rw [z] at ht'; cases ht'
      | some of => rw [z] at ht'; exact ⟨of, hX' _ _ z, Option.some.inj ht'⟩
    refine PySem.ks_wpAny_getMethod_super (h := h') hso (PySem.W.looks_opaque hX' T.any) (l₀ := cdC.mro) ?_ rfl hX' fnd hof hofc (PySem.W.ks_ne hX J hc) hmc ?_
    · exact fun A Q E s k q => wpAny_bind ((PySem.W.looks_clsIn hX' hc) A _ E s k (wpAny_pure q))
    · have I2 := ClX.pin_new (s := { s with heap := h', toks := s.toks + (ps.zip us).length }) (o := PySem.W.methodObj (.ref f2) (.ref x)) (t' := s.toks + (ps.zip us).length + 1) I1 (fun _ _ z => Heap.get?_push_of_some _ z) (Nat.le_refl _) (Heap.get?_push_size h' rfl) (fun v z => nomatch z)
      refine ClX.callwith_cm (X := cxS CX P w K mg base N qual scope f (.ref cda) cc A outer s H E) I2 (ClX.base_none I1 (Nat.le_refl _)) T.fi (thn (hta.run pos _ _ _ H _ I2 hq) fun us2 s3 ⟨ws, H2, I3, rv, q2⟩ => ⟨⟨ClX.pin_at I3, I3.kIn⟩, ?_⟩) (hst _) (hpl _)
      refine thn (ClX.run_cm FM (hr.deeper _) hpx I3 rv q2) fun v s4 h4 => ?_
      obtain ⟨v4, H4, I4, _, q4⟩ := ClX.unpinE h4
      refine wpAt_of_wpAny (wpAny_mono (hrest.run [] s4 _ H4 _ I4 q4) (fun fl s' hs => ?_) fun e s' hs => hs)
      have fin : ∀ {σ' : L2.St} {H' : Hp} {v : V} {u : Value}, Inv (cxS CX P w K mg base N qual scope f (.ref cda) cc A outer s H E) [] σ' H' s' → RelV v u → Q v H' → CE outer P w H s Q u s' :=
        fun {σ' H' v u} J rv q => ⟨v, H', J.os, J.bare, J.base, J.hok, rv, q⟩
      cases fl with
      | ret u =>
        obtain ⟨v, σ', H', J, rv, q⟩ := hs
        exact fin J rv q
      | next =>
        obtain ⟨σ', H', J, q⟩ := hs
        exact fin (v := V.non) (u := Value.none) J rfl q
      | brk =>
        obtain ⟨_, _, _, q⟩ := hs
        exact False.elim q
      | cont =>
        obtain ⟨_, _, _, q⟩ := hs
        exact False.elim q
end
end Ls
end
section
set_option Elab.async false
set_option linter.all false
set_option maxRecDepth 100000
set_option maxHeartbeats 4000000
namespace LsN
open PySem PySem.SeqAt
open AutoSeq1 (wpAny_loadPart')
open MeetsSeq MeetsSeq2 MeetsSeq3 SeqRoads2
section
variable {prog : Program} {w : World} {A : Around} {R : Result → Shared → Prop}
theorem ne_loopG (l b : Addr) (N : Nat) (I : Nat → Shared → Prop) (hl : GQ.ListI prog w A (fun e s' => R (.error e) s') l b N I)
    (fin : ∀ s, I N s → R (.ok (.ret (.bool false))) s) (k : Nat) :
    ∀ i : Nat, N - i = k → i ≤ N → ∀ s, I i s →
      wpAny (model prog w) A.in1 (Builtin.«list.__eq__.loop» ⟨[.ref l, .ref b, rawInt i, rawInt 3], []⟩) (GQ.FinOf prog w A R) (fun e s' => R (.error e) s') s := by
  induction k with
  | zero =>
    intro i hk hi s h
    obtain ⟨items, items2, n, n2, hl1, hb1, hs1, hs2, _⟩ := hl _ _ h
    have hi' : i = N := by omega
    have hR : R (.ok (.ret (.bool false))) s := fin s (hi' ▸ h)
    obtain ⟨hp, g, d, tk, os⟩ := s
    wp_walk using wpAny_loadPart' hl1, wpAny_loadPart' hb1
    have hi1 : items[((i : Nat) : Int).toNat]? = none := by simp; omega
    have hi2 : items2[((i : Nat) : Int).toNat]? = none := by simp; omega
    rw [hi1, hi2]
    wp_walk using wpAny_loadPart' hl1, wpAny_loadPart' hb1
    show R (.ok (.ret (.bool (items.size != items2.size)))) _
    rw [hs1, hs2]
    simpa using hR
  | succ k ih =>
    intro i hk hi s h
    obtain ⟨items, items2, n, n2, hl1, hb1, hs1, hs2, turn⟩ := hl _ _ h
    have hlt : i < items.size := by omega
    have hlt2 : i < items2.size := by omega
    have ht := turn hlt hlt2
    obtain ⟨hp, g, d, tk, os⟩ := s
    wp_walk using wpAny_loadPart' hl1, wpAny_loadPart' hb1
    have hi1 : items[((i : Nat) : Int).toNat]? = some items[i] := by simp [hlt]
    have hi2 : items2[((i : Nat) : Int).toNat]? = some items2[i] := by simp [hlt2]
    have hc : ((i : Int) + 1) = ((i + 1 : Nat) : Int) := by omega
    rw [hi1, hi2]
    refine wpAny_bind (wpAny_mono ht (fun r s2 h2 => ?_) fun _ _ x => x)
    obtain ⟨hr, h2⟩ := h2
    subst hr
    have hrec := ih (i + 1) (by omega) (by omega) s2 h2
    obtain ⟨hp2, g2, d2, tk2, os2⟩ := s2
    wp_walk
    rw [hc]
    exact ⟨plainId_quiet plain_eq_loop _, codeAny_builtin entry_eq_loop (by
      rw [Around.under_plainId plain_eq_loop _]
      exact hrec)⟩
theorem list_neG (l b : Addr) (N : Nat) (I : Nat → Shared → Prop) (hl : GQ.ListI prog w A (fun e s' => R (.error e) s') l b N I)
    (fin : ∀ s, I N s → R (.ok (.ret (.bool false))) s) {s : Shared} (h : I 0 s) :
    wpAny (model prog w) A.in1 (Builtin.«list.__ne__» ⟨[.ref l, .ref b], []⟩) (GQ.FinOf prog w A R) (fun e s' => R (.error e) s') s := by
  obtain ⟨items, items2, n, n2, hl1, hb1, hs1, hs2, _⟩ := hl _ _ h
  have hrec := ne_loopG (A := A) (R := R) l b N I hl fin _ 0 rfl (Nat.zero_le _) s h
  obtain ⟨hp, g, d, tk, os⟩ := s
  have f3 := AutoSeq1.sub_list_list
  have hne : ¬ (items.size != items2.size) = true := by simp [hs1, hs2]
  wp_walk using wpAny_loadPart' hl1, wpAny_loadPart' hb1
  exact ⟨plainId_quiet plain_eq_loop _, codeAny_builtin entry_eq_loop (by
    rw [Around.under_plainId plain_eq_loop _]
    exact hrec)⟩
end
section
variable {prog : Program} {w : World} {A : Around} {E : Value → Shared → Prop} {s : Shared}
theorem rc_listNe {l b : Addr} {N : Nat} {Q : Value → Shared → Prop} (hu : A.units < cLine) (I : Nat → Shared → Prop) (hl : GQ.ListI prog w A E l b N I)
    (fin : ∀ s, I N s → Q (.bool false) s) (h : I 0 s) : wpAny (model prog w) A (richCompare .NotEq (.ref l) (.ref b)) Q E s := by
  obtain ⟨items, items2, n, n2, hl1, hb1, _, _, _⟩ := hl _ _ h
  refine wpAny_richCompare_same_room (op := .NotEq) ⟨_, hl1, rfl⟩ ⟨_, hb1, rfl⟩ F.slot_list_ne (GQ.call_here F.slot_list_ne ⟨_, hl1, rfl⟩ F.entry_list_ne (F.args_list_ne_2 _ _) ?_) hu
  exact list_neG (R := wants (fun v s' => v ≠ .notImplemented ∧ Q v s') E) l b N I hl (fun s' q => ⟨(fun x => nomatch x), fin s' q⟩) h
end
end LsN
namespace Ls
open PySem PySem.Spec PyProof.Rows L2
section
variable {X : Cx} {n : Nat} {D : Eqv}
/-- x != y of two lists whose items are equal (by ==, which only makes objects): False -/
def rNeG (D : Eqv) : R2 := fun x y H Q => DList D x y H ∧ ∀ H', Ext H H' → Q (.bl false) H'
theorem op_neG (hD : Mon D) (h : EqG X n D) (hr : Room (n + 1) X.A) : OpR X (compareOp .NotEq) (rNeG D) := by
  intro pins s σ H x y v u Q I rx ry hq
  obtain ⟨⟨a, b, xs, ys, rfl, rfl, ha, hb, p⟩, q⟩ := hq
  cases (show v = Value.ref a from rx)
  cases (show u = Value.ref b from ry)
  show wpAny (model X.prog X.w) X.A (richCompare .NotEq (.ref a) (.ref b)) (EP X pins σ Q) X.xe s
  have sb : L2.Sub X (n + 1) X.A := ⟨hr, rfl⟩
  refine LsN.rc_listNe (N := xs.length) hr.units0 (fun _ s' => LoopI X pins σ H s') (fun i s' q => ?_) (fun s' q' => ?_) ⟨H, I, Ext.rfl'⟩
  · obtain ⟨H1, I1, e1⟩ := id q
    obtain ⟨z, its, k, r, e⟩ := I1.hok a _ (e1 _ _ ha)
    obtain ⟨z2, its2, k2, r2, e2⟩ := I1.hok b _ (e1 _ _ hb)
    refine ⟨its.toArray, its2.toArray, k, k2, e, e2, by rw [List.size_toArray, ← r.length], by rw [List.size_toArray, ← r2.length, ← p.1], fun h1 h2 => ?_⟩
    exact turnG hD h sb p r r2 i h1 h2 s' q
  · obtain ⟨H', I', e'⟩ := q'
    exact ⟨.bl false, H', I', rfl, q H' e'⟩
end
end Ls
end
section
set_option Elab.async false
set_option linter.all false
set_option maxRecDepth 100000
set_option maxHeartbeats 4000000
namespace Ls
open PySem PySem.Spec PyProof.Rows L2

/-! ### callees in one word -/
section
variable (P : Program) (w : World) (K : PySem.W.Frag) (mg : Str → Option Value) (base : Heap) (CX : CXT) (k : Nat)
/-- the def under the module's name x keeps sp -/
structure Cal (x : Str) (sp : Sp) : Prop where
  ex : ∃ f, mg x = some (.ref f) ∧ PySem.W.keepIn K (.ref f) = true ∧ FnR P w K mg base CX k f sp
/-- .. called with one keyword -/
structure CalK (x a : Str) (sp : Sp) : Prop where
  ex : ∃ f fd, mg x = some (.ref f) ∧ PySem.W.keepIn K (.ref f) = true ∧ KBn K fd [a] 0 [a] (fun _ ws => ws) (fun _ zs => zs) ∧ FnOk P w K mg base CX k f fd [a] sp
/-- the class at C under the module's name x; its __init__ keeps sp -/
structure Mkc (C : Addr) (x : Str) (sp : Sp) : Prop where
  ex : ∃ f, mg x = some (.ref C) ∧ Mk K C f ∧ FnR P w K mg base CX k f sp
/-- the classmethod m of the class at C keeps sp -/
structure Clm (C : Addr) (m : Str) (sp : Sp) : Prop where
  ex : ∃ mc p g, ClX.CRead K C mc ∧ ClX.CMet K C mc m p g ∧ FnR P w K mg base CX k g sp
end
def tCl (sp : Sp) (E : XK) (t : TA) : TE := fun σ H Q => t σ H fun vs H1 => sp vs H1 Q E
section
variable {X : Cx} {CX : CXT} {k : Nat} {C : Addr} {sp : Sp} {E : XK} {x m a : Str} {p pos apos : Pos} {e o : PySem.Expr} {es : List PySem.Expr} {kws : List Keyword} {ta : TE} {t tk : TA} {pl : Sem Bool}
theorem pe_cal (c : Cal X.prog X.w X.K X.mg X.base CX k x sp) (hr : Room k X.A) (hg : Gl X x) (hx : Passes CX X E) (ha : PA X (e :: es) t) (hd : (x == ("__debug__" : Str)) = false := by decide)
    (he : starEach (e :: es) X.env = (false, eval e X.env) :: starEach es X.env := by rfl) (hpl : (backTo pos (starEach es X.env)).any (·.1) = false := by rfl) :
    PE X (.Call (.Name x p) (e :: es) [] pos) (tCl sp E t) := by
  obtain ⟨f, hm, hk, F⟩ := c.ex
  refine ⟨fun pins s σ H Q I h => ?_⟩
  refine wpAny_Call_Name_kw (ld_glob I hg hm ?_ hd)
  refine PySem.W.callWith_K (h₀ := X.base) I.ok.mod.kin hk (thn (ha.run pos pins s σ H _ I h) fun us s1 ⟨vs, H1, I1, r, q⟩ => ⟨I1.kIn, ?_⟩) he hpl
  exact wpAny_call (run_fnR F hr hx I1 r q)
theorem pe_calk (c : CalK X.prog X.w X.K X.mg X.base CX k x a sp) (hr : Room k X.A) (hg : Gl X x) (hx : Passes CX X E)
    (hkw : PK X kws tk) (hall : (backToKw pos (keywordEach kws X.env)).all (·.1.isSome) = true := by rfl) (hks : (backToKw pos (keywordEach kws X.env)).filterMap (·.1) = [a] := by rfl)
    (hdb : (x == ("__debug__" : Str)) = false := by decide)
    (hpl : ((backTo pos (starEach [] X.env)).any (·.1) || (backToKw pos (keywordEach kws X.env)).any (·.1.isNone)) = false := by rfl) :
    PE X (.Call (.Name x p) [] kws pos) (tCallN 0 1 sp (fun _ zs => zs) E tNil tk) := by
  obtain ⟨f, fd, hm, hk, hb, F⟩ := c.ex
  exact pe_callK0 F hr hg hm hk hb hx hkw hall hks hdb hpl
theorem pe_mkc (c : Mkc X.prog X.w X.K X.mg X.base CX k C x sp) (hr : Room (k + 1) X.A) (hg : Gl X x) (hx : Passes CX X E) (ha : PA X (e :: es) t) (hdb : (x == ("__debug__" : Str)) = false := by decide)
    (he : starEach (e :: es) X.env = (false, eval e X.env) :: starEach es X.env := by rfl) (hpl : (backTo pos (starEach es X.env)).any (·.1) = false := by rfl) :
    PE X (.Call (.Name x p) (e :: es) [] pos) (StX.tMakeR C sp E t) := by
  obtain ⟨f, hm, M, F⟩ := c.ex
  exact StX.pe_makeR M F hr hg hm hx ha hdb he hpl
theorem pe_clm (c : Clm X.prog X.w X.K X.mg X.base CX k C m sp) (hr : Room k X.A) (ho : PE X o ta) (hx : Passes CX X E) (ha : PA X (e :: es) t)
    (hst : starEach (e :: es) X.env = (false, eval e X.env) :: starEach es X.env := by rfl) (hpl : (backTo pos (starEach es X.env)).any (·.1) = false := by rfl)
    (ht : eval (.Call (.Attribute o m apos) (e :: es) [] pos) X.env = (do
      let ov ← eval o X.env
      standAt apos.atName
      let (f, first) ← holding [ov] (getMethod ov m pl)
      callWith pos f first (backTo pos (starEach (e :: es) X.env)) (backToKw pos (keywordEach [] X.env))) := by rfl) :
    PE X (.Call (.Attribute o m apos) (e :: es) [] pos) (ClX.tCMeth C sp E ta t) := by
  obtain ⟨mc, p, g, r, c, F⟩ := c.ex
  exact ClX.pe_cmeth (pl := pl) ho r c F hr hx ha hst hpl ht
end

theorem iteNo {c : Bool} {A B : Prop} (hc : c = false) (h : B) : if c = true then A else B := by rw [hc, if_neg Bool.false_ne_true]; exact h
theorem strNo {a b : Str} (h : ¬ a = b) : decide (V.str a = V.str b) = false := decide_eq_false fun e => h (V.str.inj e)
theorem iteYes {c : Bool} {A B : Prop} (hc : c = true) (h : A) : if c = true then A else B := by rw [hc, if_pos rfl]; exact h
/-! ### constants of the module -/
section
variable {X : Cx} {x z : Str} {i : Int} {tk : Tok} {a : Addr} {pos : Pos}
theorem pe_gstr (hg : Gl X x) (hm : X.mg x = some (.str z tk)) (hd : (x == ("__debug__" : Str)) = false := by decide) : PE X (.Name x pos) (tC (.str z)) := pe_glob hg hm ⟨_, rfl⟩ hd
theorem pe_gint (hg : Gl X x) (hm : X.mg x = some (.int i tk)) (hd : (x == ("__debug__" : Str)) = false := by decide) : PE X (.Name x pos) (tC (.int i)) := pe_glob hg hm ⟨_, rfl⟩ hd
theorem pe_gref (hg : Gl X x) (hm : X.mg x = some (.ref a)) (hd : (x == ("__debug__" : Str)) = false := by decide) : PE X (.Name x pos) (tC (.ref a)) := pe_glob hg hm rfl hd
theorem pe_gty {T : String} (hg : Gl X x) (hm : X.mg x = none) (hv : bootBuiltins x = some (.type T)) (hn : x ≠ "__name__" := by decide) (hd : (x == ("__debug__" : Str)) = false := by decide) : PE X (.Name x pos) (tC (.ty T)) := pe_bltn hg hm hv rfl hn hd
end

/-! ### what a dict's table says behind a store -/
theorem len_put {κ : Type} [DecidableEq κ] {kvs : List (κ × V)} {k : κ} {x v : V} (h : valV kvs k = some x) : (putK kvs k v).length = kvs.length := by
  unfold putK
  rw [valV_any, h]
  simp
theorem val_same {κ : Type} [DecidableEq κ] {kvs : List (κ × V)} {k : κ} {v : V} : valV (putK kvs k v) k = some v := by rw [valV_put, if_pos rfl]
theorem val_other {κ : Type} [DecidableEq κ] {kvs : List (κ × V)} {k j : κ} {v : V} {r : Option V} (hne : ¬ j = k) (h : valV kvs j = r) : valV (putK kvs k v) j = r := by rw [valV_put, if_neg hne]; exact h

/-! ### heaps that keep all but two objects -/
def Keep (p c : Addr) (H H' : Hp) : Prop := ∀ b o, H b = some o → b ≠ p → b ≠ c → H' b = some o
theorem Keep.refl {p c : Addr} {H : Hp} : Keep p c H H := fun _ _ e _ _ => e
theorem Keep.trans {p c : Addr} {H H1 H2 : Hp} (a : Keep p c H H1) (b : Keep p c H1 H2) : Keep p c H H2 := fun d o e h1 h2 => b d o (a d o e h1 h2) h1 h2
theorem Keep.upd1 {p c : Addr} {H : Hp} {o : HO} : Keep p c H (upd H p o) := fun b u e h1 _ => by rw [upd_ne h1]; exact e
theorem Keep.upd2 {p c : Addr} {H : Hp} {o : HO} : Keep p c H (upd H c o) := fun b u e _ h2 => by rw [upd_ne h2]; exact e
theorem Keep.ext {p c : Addr} {H H' : Hp} (e : Ext H H') : Keep p c H H' := fun b o h _ _ => e b o h
theorem Keep.new {p c a : Addr} {H : Hp} {o : HO} (h : H a = none) : Keep p c H (upd H a o) := Keep.ext (Ext.upd h)

/-! ### rules within a comprehension's block: the written part by its own name -/
section
variable {X : Cx} {K : PySem.W.Frag}
theorem pi_listK {tg l : PySem.Expr} {tl : TE} (hK : X.K = K) (hl : PE X l tl) : PI X tg l (iList K tl) := by subst hK; exact pi_list hl
theorem pi_tupK {tg l : PySem.Expr} {tl : TE} (hK : X.K = K) (hl : PE X l tl) : PI X tg l (iTup K tl) := by subst hK; exact pi_tup hl
def rTupOf (K : PySem.W.Frag) : List V → Hp → VK → Prop := fun xs H Q => ∃ p ys, xs = [.ref p] ∧ ((SqL K H p ys ∧ ∀ l, H l = none → Q (.ref l) (upd H l (.tup ys))) ∨ (SqT K H p ys ∧ Q (.ref p) H))
theorem call_tupK (hK : X.K = K) : CallR X (.type "tuple") (rTupOf K) := by subst hK; exact call_tuple_of
def rLenSeq (K : PySem.W.Frag) : List V → Hp → VK → Prop := fun xs H Q => ∃ p ys, xs = [.ref p] ∧ (SqL K H p ys ∨ SqT K H p ys) ∧ Q (.int ys.length) H
theorem call_lenK (hK : X.K = K) : CallR X (.builtin "len") (rLenSeq K) := by subst hK; exact call_len_seq
theorem call_isiB (hK : X.K = K) : CallR X (.builtin "isinstance") (rIsi K) := by subst hK; exact call_isi
def rJoinK (K : PySem.W.Frag) : V → List V → Hp → VK → Prop := fun x xs H Q => ∃ a p, ∃ ys : List Str, x = .str a ∧ xs = [.ref p] ∧ (SqL K H p (ys.map V.str) ∨ SqT K H p (ys.map V.str)) ∧ (ys.map (·.length)).sum + ys.length * a.length ≤ 16777216 ∧ Q (.str (Txt.join a ys)) H
theorem pe_joinK {o e : PySem.Expr} {to te : TE} {apos pos : Pos} (hK : X.K = K) (ho : PE X o to) (he : PE X e te) (hs : starEach [e] X.env = [(false, eval e X.env)] := by rfl) (hbase : attributeBase o "join" X.env (eval o X.env) = eval o X.env := by rfl) (hline : (apos.endLine == pos.line) = true := by rfl) :
    PE X (.Call (.Attribute o "join" apos) [e] [] pos) (tM1 (rJoinK K) to te) := by subst hK; exact pe_join ho he hs hbase hline
end

/-! ### a list beside [] -/
def rNeNil : R2 := fun x y H Q => ∃ a b xs, x = .ref a ∧ y = .ref b ∧ H a = some (.lst xs) ∧ H b = some (.lst []) ∧ Q (.bl (!xs.isEmpty)) H
def rEqNil : R2 := fun x y H Q => ∃ a b xs, x = .ref a ∧ y = .ref b ∧ H a = some (.lst xs) ∧ H b = some (.lst []) ∧ Q (.bl xs.isEmpty) H
section
variable {X : Cx}
theorem op_neNil {k : Nat} (hr : Room k X.A) : OpR X (compareOp .NotEq) rNeNil := by
  intro pins s σ H x y v u Q I rx ry hq
  obtain ⟨a, b, xs, rfl, rfl, ha, hb, q⟩ := hq
  cases (show v = Value.ref a from rx)
  cases (show u = Value.ref b from ry)
  show wpAny (model X.prog X.w) X.A (richCompare .NotEq (.ref a) (.ref b)) (EP X pins σ Q) X.xe s
  obtain ⟨its, r, p1, _⟩ := I.list (SqL.of (K := X.K) ha)
  obtain ⟨its2, r2, p2, _⟩ := I.list (SqL.of (K := X.K) hb)
  cases r2
  cases r with
  | nil => exact SeqAt.RcNeAt.lists (e := fun _ => true) p1.isList p2.isList rfl hr.units0 (fun j h1 _ => absurd h1 (by simp)) X.prog X.w X.xe _ ⟨.bl false, H, I, rfl, q⟩
  | cons r0 r1 => exact SeqAt.RcNeAt.lists_lengths p1.isList p2.isList (by simp) hr.units0 X.prog X.w X.xe _ ⟨.bl true, H, I, rfl, q⟩
theorem op_eqNil {k : Nat} (hr : Room k X.A) : OpR X (compareOp .Eq) rEqNil := by
  intro pins s σ H x y v u Q I rx ry hq
  obtain ⟨a, b, xs, rfl, rfl, ha, hb, q⟩ := hq
  cases (show v = Value.ref a from rx)
  cases (show u = Value.ref b from ry)
  show wpAny (model X.prog X.w) X.A (richCompare .Eq (.ref a) (.ref b)) (EP X pins σ Q) X.xe s
  obtain ⟨its, r, p1, _⟩ := I.list (SqL.of (K := X.K) ha)
  obtain ⟨its2, r2, p2, _⟩ := I.list (SqL.of (K := X.K) hb)
  cases r2
  cases r with
  | nil => exact SeqAt.RcAt.lists (e := fun _ => true) p1.isList p2.isList rfl hr.units0 (fun j h1 _ => absurd h1 (by simp)) X.prog X.w X.xe _ ⟨.bl true, H, I, rfl, q⟩
  | cons r0 r1 => exact SeqAt.RcAt.lists_lengths p1.isList p2.isList (by simp) hr.units0 X.prog X.w X.xe _ ⟨.bl false, H, I, rfl, q⟩
end
end Ls
end
section
set_option Elab.async false
set_option linter.all false
set_option maxRecDepth 100000
set_option maxHeartbeats 4000000
namespace Ls
open PySem PySem.Spec PyProof.Rows L2

/-! ### parts of a heap -/
/-- what is new in H' beside H -/
def nw (H H' : Hp) : Hp := fun b => match H b with | none => H' b | some _ => none
theorem nw_at {H H' : Hp} {b : Addr} (h : H b = none) : nw H H' b = H' b := by unfold nw; rw [h]
theorem nw_some {H H' : Hp} {b : Addr} {o : HO} (h : nw H H' b = some o) : H b = none ∧ H' b = some o := by
  unfold nw at h
  cases e : H b with
  | none => rw [e] at h; exact ⟨rfl, h⟩
  | some u => rw [e] at h; cases h
theorem nw_ext {H H' : Hp} : Ext (nw H H') H' := fun a o e => (nw_some e).2
/-- new beside H1, where H1 has grown from H: new beside H -/
theorem nw_back {H H1 H2 : Hp} (e : Ext H H1) : Ext (nw H1 H2) (nw H H2) := fun a o h => by
  obtain ⟨h1, h2⟩ := nw_some h
  have : H a = none := by
    cases q : H a with
    | none => rfl
    | some u => rw [e a u q] at h1; cases h1
  rw [nw_at this]; exact h2
theorem nw_more {H H1 H2 : Hp} (e : Ext H1 H2) : Ext (nw H H1) (nw H H2) := fun a o h => by
  obtain ⟨h1, h2⟩ := nw_some h
  rw [nw_at h1]; exact e a o h2
/-- H without the objects at S -/
def hid (S : List Addr) (H : Hp) : Hp := fun b => if b ∈ S then none else H b
theorem hid_at {S : List Addr} {H : Hp} {b : Addr} (h : b ∉ S) : hid S H b = H b := by unfold hid; rw [if_neg h]
theorem hid_some {S : List Addr} {H : Hp} {b : Addr} {o : HO} (h : hid S H b = some o) : b ∉ S ∧ H b = some o := by
  unfold hid at h
  by_cases e : b ∈ S
  · rw [if_pos e] at h; cases h
  · rw [if_neg e] at h; exact ⟨e, h⟩
theorem hid_ext {S : List Addr} {H : Hp} : Ext (hid S H) H := fun a o e => (hid_some e).2
theorem hid_nil {H : Hp} : hid [] H = H := by funext b; unfold hid; simp
theorem hid_mono {S : List Addr} {H H' : Hp} (e : Ext H H') : Ext (hid S H) (hid S H') := fun a o h => by
  obtain ⟨h1, h2⟩ := hid_some h
  rw [hid_at h1]; exact e a o h2
/-- a fresh place more is hidden -/
theorem hid_cons {S : List Addr} {H : Hp} {D : Addr} (h : H D = none) : Ext (hid S H) (hid (D :: S) H) := fun a o e => by
  obtain ⟨h1, h2⟩ := hid_some e
  have : a ≠ D := ne_of_none h2 h
  rw [hid_at (by simp [this, h1])]; exact h2
theorem hid_less {S S' : List Addr} {H : Hp} (h : ∀ b ∈ S', b ∈ S) : Ext (hid S H) (hid S' H) := fun a o e => by
  obtain ⟨h1, h2⟩ := hid_some e
  rw [hid_at fun z => h1 (h a z)]; exact h2
theorem hid_upd {S : List Addr} {H : Hp} {D : Addr} {o : HO} (h : D ∈ S) : hid S (upd H D o) = hid S H := by
  funext b
  unfold hid
  by_cases e : b ∈ S
  · rw [if_pos e, if_pos e]
  · rw [if_neg e, if_neg e, upd_ne (show b ≠ D from fun z => e (by rw [z]; exact h))]
theorem hid_upd_new {S : List Addr} {H : Hp} {a : Addr} {o : HO} (h : H a = none) : Ext (hid S H) (hid S (upd H a o)) := hid_mono (Ext.upd h)
/-- what is new beside H lies outside of what stood -/
theorem nw_hid {S : List Addr} {H H' : Hp} (h : ∀ b ∈ S, H b ≠ none) : Ext (nw H H') (hid S H') := fun a o e => by
  obtain ⟨h1, h2⟩ := nw_some e
  rw [hid_at fun z => h a z h1]; exact h2
theorem hid_keep {p c : Addr} {H H' : Hp} (k : Keep p c H H') : Ext (hid [p, c] H) (hid [p, c] H') := fun a o e => by
  obtain ⟨h1, h2⟩ := hid_some e
  rw [hid_at h1]
  exact k a o h2 (fun z => h1 (by simp [z])) fun z => h1 (by simp [z])

theorem hid_keepS {p c : Addr} {S : List Addr} {H H' : Hp} (k : Keep p c H H') (hp : p ∈ S) (hc : c ∈ S) : Ext (hid S H) (hid S H') := fun a o e => by
  obtain ⟨h1, h2⟩ := hid_some e
  rw [hid_at h1]
  exact k a o h2 (fun z => h1 (by rw [z]; exact hp)) fun z => h1 (by rw [z]; exact hc)
theorem Ext.at' {S : List Addr} {H H' : Hp} (e : Ext (hid S H) (hid S H')) {a : Addr} {o : HO} (h : a ∉ S) (q : H a = some o) : H' a = some o := (hid_some (e a o (by rw [hid_at h]; exact q))).2

/-! ### a comprehension that makes one item a turn: R tells what the items are, in the heap without S -/
section
variable {J : It} {n : Nat} {G : Hp → Prop} {Y : Nat → Hp → V → Hp → Prop} {g : TG} {te : TE} {vs : List Nat} {σ : L2.St} {H1 : Hp} {D : Addr} {Qd : Hp → Prop}
theorem lc_map (w : Walk J n G Y) (S : List Addr) (hS : D ∈ S) (Iv : Hp → Prop) (R : Nat → V → Hp → Prop) (hn : n ≤ 100000) (hm : ∀ j y H H', Ext H H' → R j y H → R j y H')
    (hIv : ∀ H o, Iv H → Iv (upd H D o)) (h0 : Iv (upd H1 D (.lst []))) (hG : ∀ H, Ext (hid S H1) (hid S H) → Iv H → G H)
    (hs : ∀ i x H H' acc (C : VK), i < n → Ext (hid S H1) (hid S H) → Iv H → H D = some (.lst acc) → Y i H x H' → (∀ y H4, H4 D = some (.lst acc) → Ext (hid S H) (hid S H4) → Iv H4 → R i y (hid S H4) → C y H4) →
      g x (wipe σ vs) H' fun σ2 H2 => wipe σ2 vs = wipe σ vs ∧ te σ2 H2 C)
    (hd : ∀ H ys, Ext (hid S H1) (hid S H) → Iv H → H D = some (.lst ys) → ys.length = n → (∀ j y, ys[j]? = some y → R j y (hid S H)) → Qd H) :
    ∃ W : Nat → Nat → Hp → Prop, (∃ m, W 0 m (upd H1 D (.lst []))) ∧ ∀ i m H, W i m H →
      (J.stop i H ∧ Qd H) ∨ (J.go i H ∧ ∃ Nx : Hp → Prop, (∀ H', Nx H' → ∃ m', m' < m ∧ W (i + 1) m' H') ∧ ∀ x H', J.yld i H x H' → g x (wipe σ vs) H' fun σ2 H2 => wipe σ2 vs = wipe σ vs ∧ tYes σ2 H2 fun b H3 =>
        if b = true then te σ2 H3 fun y H4 => ∃ acc, H4 D = some (.lst acc) ∧ acc.length < sizeLine ∧ Nx (upd H4 D (.lst (acc ++ [y]))) else Nx H3) := by
  refine lc_it w (fun i H => ∃ ys : List V, H D = some (.lst ys) ∧ ys.length = i ∧ Ext (hid S H1) (hid S H) ∧ Iv H ∧ ∀ j y, ys[j]? = some y → R j y (hid S H))
    ⟨[], upd_same, rfl, by rw [hid_upd hS]; exact Ext.rfl', h0, fun j y e => by simp at e⟩ (fun i H _ ⟨_, _, _, e, iv, _⟩ => hG H e iv) ?_ ?_
  · rintro i x H H' hi ⟨ys, hD, hl, e, iv, r⟩ y
    refine hs i x H H' ys _ hi e iv hD y fun v H4 h4 e4 iv4 r4 => ?_
    refine ⟨ys, h4, Nat.lt_of_le_of_lt (show ys.length ≤ 100000 by omega) (by decide), ys ++ [v], upd_same, by rw [List.length_append, hl]; rfl, by rw [hid_upd hS]; exact e.trans e4, hIv _ _ iv4, fun j z hz => ?_⟩
    rw [hid_upd hS]
    by_cases hj : j < ys.length
    · rw [List.getElem?_append_left hj] at hz
      exact hm j z _ _ e4 (r j z hz)
    · rw [List.getElem?_append_right (by omega)] at hz
      have : j = i := by
        cases q : j - ys.length with
        | zero => omega
        | succ k => rw [q] at hz; simp at hz
      subst this
      rw [hl] at hz
      simp at hz
      subst hz
      exact r4
  · rintro H ⟨ys, hD, hl, e, iv, r⟩
    exact hd H ys e iv hD hl r
end
end Ls
end
section
set_option Elab.async false
set_option linter.all false
set_option maxRecDepth 100000
set_option maxHeartbeats 4000000
namespace Ls
open PySem PySem.Spec PyProof.Rows L2

/-! ### an exception that is kept as a value -/
/-- at a: an exception of the class cls, its dict at d -/
def exk (a : Addr) (cls : Value) (d : Option Addr) : HO := .ext fun h => ∃ (oe : Obj) (vs : Array Value), h.get? a = some oe ∧ Zc cls d oe ∧ oe.data = .fields vs
theorem exk_ok {P : Program} {w : World} {H : Hp} {h : Heap} {a : Addr} {cls : Value} {d : Option Addr} {oe : Obj} {vs : Array Value} (e : h.get? a = some oe) (z : Zc cls d oe) (q : oe.data = .fields vs) : ObjOk P w H h a (exk a cls d) :=
  ⟨⟨oe, vs, e, z, q⟩, ⟨oe, e⟩, fun _ _ ⟨o, v, q, r⟩ k => ⟨o, v, k o q, r⟩⟩
theorem exk_at {P : Program} {w : World} {H : Hp} {h : Heap} {a : Addr} {cls : Value} {d : Option Addr} (hok : HOk P w H h) (e : H a = some (exk a cls d)) : ∃ (oe : Obj) (vs : Array Value), h.get? a = some oe ∧ Zc cls d oe ∧ oe.data = .fields vs := by
  have x : ObjOk P w H h a (.ext fun h => ∃ (oe : Obj) (vs : Array Value), h.get? a = some oe ∧ Zc cls d oe ∧ oe.data = .fields vs) := hok a _ e
  exact x.1
section
variable {X : Cx} {pins : List (Addr × Obj)} {σ : L2.St} {H : Hp} {s : Shared}
/-- an object that stands and is not known from before is tracked from now on -/
theorem inv_track {a : Addr} {o : HO} (I : Inv X pins σ H s) (hn : H a = none) (h0 : X.s_0.heap.get? a = none) (hl : a ≠ X.env.locals) (hc : ∀ x c, X.env.cells.lookup x = some c → c ≠ a) (hp : ∀ p ∈ X.pn ++ pins, p.1 ≠ a)
    (new : ObjOk X.prog X.w (upd H a o) s.heap a o) : Inv X pins σ (upd H a o) s := by
  have n0 : ∀ b u, X.s_0.heap.get? b = some u → b ≠ a := fun b u e z => by
    rw [z, h0] at e
    cases e
  refine ⟨I.ok, I.os, I.bare, ⟨I.base.keep, I.base.slot, fun b u e n hq => ?_, I.base.there, fun b xs e => ?_, fun b u v e => ?_, fun b ps e => ?_⟩, I.loc, I.cell, ?_, fun x c e => ?_, fun p q => ?_, I.hok.laidN (fun _ _ z => z) hn new, I.len⟩
  · rw [upd_ne (n0 b u e)]
    exact I.base.free b u e n hq
  · have q := I.base.tups b xs e
    rw [upd_ne (ne_of_none q hn)]
    exact q
  · have q := I.base.frzs b u v e
    rw [upd_ne (ne_of_none q hn)]
    exact q
  · obtain ⟨m, q⟩ := I.base.tbls b ps e
    exact ⟨m, by rw [upd_ne (ne_of_none q hn)]; exact q⟩
  · rw [upd_ne (Ne.symm hl)]
    exact I.free
  · rw [upd_ne (hc x c e)]
    exact I.freeC x c e
  · obtain ⟨z1, z2, z3⟩ := I.pin p q
    exact ⟨z1, by rw [upd_ne (hp p q)]; exact z2, z3⟩
theorem inv_suite0 (I : Inv X pins σ H s) (a : Addr) : Inv (X.suite a (X.pn ++ pins)) [] σ H s :=
  ⟨I.ok.suite _ _, I.os, I.bare, I.base, I.loc, I.cell, I.free, I.freeC, fun p hp => I.pin p (by rw [List.append_nil] at hp; exact hp), I.hok, I.len⟩
theorem inv_unsuite0 {a : Addr} {pn' : List (Addr × Obj)} (I : Inv (X.suite a (X.pn ++ pins)) pn' σ H s) (ok : X.Ok) : Inv X pins σ H s :=
  ⟨ok, I.os, I.bare, I.base, I.loc, I.cell, I.free, I.freeC, fun p hp => I.pin p (List.mem_append_left _ hp), I.hok, I.len⟩
end
/-- what the clause 'except x as n' wishes, the exception tracked in the suite and behind it -/
def wAsk (K : PySem.W.Frag) (c : Value) (i : Nat) (ts : TS) (Wout : WX) (D : Ends) : WX := fun cls d σ H =>
  ∃ b, PySem.W.exmOne K cls c = some b ∧ (b = true → ∀ a, H a = none → ts { nx := fun σ' H' => D.nx (σ'.set i none) H', rt := D.rt, bk := fun σ' H' => D.bk (σ'.set i none) H', ct := fun σ' H' => D.ct (σ'.set i none) H' } (σ.set i (some (.ref a))) (upd H a (exk a cls d))) ∧
    (b = false → Wout cls d σ H)
section
variable {X : Cx} {x n : Str} {c : Value} {i : Nat} {body suite : List Stmt} {b₀ : Stmt} {np pos pos' : Pos} {tb : WX → TS} {ts : TS} {Wout : WX}
theorem ps_try_ask (hs : X.stack = X.env :: X.outer) (hf : X.env.frame = some X.env.locals) (hN : X.N.Nodup) (hi : X.N[i]? = some n) (hln : X.env.kindOf n = some .local) (hc : Names X x c) (tk : Takes X Wout) (hx : X.ex = [])
    (hb : ∀ (W : WX) (pn : List (Addr × Obj)) (xe : Value → Shared → Prop), Takes (X.tr pn xe) W → PassesOwn (model X.prog X.w) X.A X.env xe → PSs (X.tr pn xe) body (tb W))
    (hsu : ∀ (a : Addr) (pn : List (Addr × Obj)), PSs (X.suite a pn) (b₀ :: suite) ts) :
    PS X (.Try body [.ExceptHandler (some (.Name x np)) (some n) (b₀ :: suite) pos'] [] [] pos) (fun D σ H => tb (wAsk X.K c i ts Wout D) D σ H) := by
  refine ⟨fun pins s σ H D I h => ?_⟩
  have ok := I.ok
  have hfr : X.A.frames = some (X.env :: X.outer) := by rw [ok.frames, hs]
  refine wpAny_Try_except ?_
  refine wpAny_mono ((hb (wAsk X.K c i ts Wout D) (X.pn ++ pins) (fun e s₁ => wpAny (model X.prog X.w) X.A (noteFrame e X.env) (fun _ s₂ => wpAny (model X.prog X.w) X.A (setFlight e none) (fun _ s₃ =>
    wpAny (model X.prog X.w) X.A (handleBy e X.env [.ExceptHandler (some (.Name x np)) (some n) (b₀ :: suite) pos']) (SP X pins D) X.xe s₃) X.xe s₂) X.xe s₁) (fun u s' xx => ?_) PassesOwn.looking).run [] s σ H D (I.toTry _) h) (fun f s1 hsp => ?_) (fun e s1 he => he)
  · obtain ⟨a, B, sI, pins', σ', H', cls, d, rfl, J', nb, up, sky, na, os, ag, b, hb1, hyes, hno⟩ := xx
    have J : Inv X pins σ' H' sI := J'.ofTry ok
    have sky' : Sky B (X.env :: X.outer) a (Zc cls d) X.env.locals s'.heap := by rw [← hs]; exact sky
    show wpAny (model X.prog X.w) X.A (noteFrame (.ref a) X.env) _ _ _
    refine Sky.land Zc.steady hfr hf sky' fun h3 fl3 up3 => ?_
    have J3 : Inv X pins σ' H' { s' with heap := h3 } := J.landed nb fl3.1 (up.trans up3) os ag
    obtain ⟨oe3, vs3, he3, hz3, hd3⟩ := fl3.there
    have nfr : a ∉ frs (X.env :: X.outer) := fun hm => by
      obtain ⟨_, o', e', hnf⟩ := fl3.2.2.1.mem hm
      rw [he3] at e'
      cases e'
      exact hnf _ hd3
    have nL : a ≠ X.env.locals := fun z => nfr (List.mem_filterMap.mpr ⟨X.env, List.mem_cons_self, by rw [hf, z]⟩)
    have nI : sI.heap.get? a = none := by
      cases q : sI.heap.get? a with
      | none => rfl
      | some o =>
        have z := nb a o q (by rw [hs]; exact nfr)
        rw [fl3.2.1] at z
        cases z
    have hexe : ∀ b o, X.s_0.heap.get? b = some o → b ∈ X.ex → False := fun b o e hb => by
      rw [hx] at hb
      cases hb
    have n0 : X.s_0.heap.get? a = none := by
      cases q : X.s_0.heap.get? a with
      | none => rfl
      | some o =>
        obtain ⟨o', z⟩ := J.base.there a o q (fun z => hexe a o q z)
        rw [nI] at z
        cases z
    have LT : PySem.W.Looks (model X.prog X.w) h3 (typeOf (.ref a)) cls := fun A Q E s k q => wpAny_typeOf_ref (k _ _ he3) (by rw [hz3.1]; exact q)
    have LM := PySem.W.exm_one (M := model X.prog X.w) (J3.kIn) LT hb1
    have S3 := inv_suite0 J3 a
    refine wpAny_handleBy_cons (codeAny_handlers_test ?_) (by intro q; cases q)
    have test : ∀ {Q : Value → Shared → Prop} {E : Value → Shared → Prop}, Q c { s' with heap := h3 } → wpAny (model X.prog X.w) (X.A.mark (some (.ref a))) (eval (.Name x np) X.env) Q E { s' with heap := h3 } := fun {Q E} q => by
      obtain ⟨hg, hdbg, hm | ⟨hm, hv, hnn⟩⟩ := hc
      · exact ld_glob (X := X.suite a (X.pn ++ pins)) S3 hg hm q hdbg
      · exact ld_blt (X := X.suite a (X.pn ++ pins)) S3 hg hm hv q hnn hdbg
    refine test (LM.here ?_)
    cases b with
    | true =>
      refine codeAny_handlers_suite_as ?_
      refine HandSPX.lands_againZ fl3 fun h4 fl4 up4 => ?_
      have J4 : Inv X pins σ' H' { s' with heap := h4 } := J.landed nb fl4.1 ((up.trans up3).trans up4) os ag
      obtain ⟨oe4, vs4, he4, hz4, hd4⟩ := fl4.there
      have T4 : Inv X pins σ' (upd H' a (exk a cls d)) { s' with heap := h4 } := inv_track J4 na n0 nL (fun y c e z => by
          obtain ⟨v, o, ho, _⟩ := J.cell y c e
          rw [z, nI] at ho
          cases ho) (fun p hp z => by
          have q := (J.pin p hp).1
          rw [z, nI] at q
          cases q) (exk_ok he4 hz4 hd4)
      have S4 := inv_suite0 T4 a
      refine store_ok (X := X.suite a (X.pn ++ pins)) (v := .ref a) S4 hN hi (.inl hln) rfl (fun s5 S5 => ?_) (.inr hln)
      refine wpAny_mono ((hsu a (X.pn ++ pins)).run [] s5 _ _ _ S5 (hyes rfl a na)) (fun f s6 hsp => ?_) (fun _ _ z => False.elim z)
      have fin : ∀ {σ6 : L2.St} {H6 : Hp} {Q : Shared → Prop}, Inv (X.suite a (X.pn ++ pins)) [] σ6 H6 s6 → (∀ s7, Inv X pins (σ6.set i none) H6 s7 → Q s7) →
          wpAny (model X.prog X.w) X.A (do bindName X.env n .none; unbindBehindTheSuite X.env n pos') (fun _ s7 => Q s7) X.xe s6 := fun {σ6 H6 Q} S6 hq => gone_ok (inv_unsuite0 S6 ok) hN hi hln hq
      cases f with
      | next =>
        obtain ⟨σ6, H6, S6, q6⟩ := hsp
        exact fin S6 fun s7 J7 => ⟨_, _, J7, q6⟩
      | brk =>
        obtain ⟨σ6, H6, S6, q6⟩ := hsp
        exact fin S6 fun s7 J7 => ⟨_, _, J7, q6⟩
      | cont =>
        obtain ⟨σ6, H6, S6, q6⟩ := hsp
        exact fin S6 fun s7 J7 => ⟨_, _, J7, q6⟩
      | ret u =>
        obtain ⟨v6, σ6, H6, S6, r6, q6⟩ := hsp
        exact fin S6 fun s7 J7 => ⟨_, _, _, J7, r6, q6⟩
    | false =>
      show wpAny _ X.A (handleBy (.ref a) X.env []) _ _ _
      refine wpAny_handleBy_nil ?_
      obtain ⟨k1, k2, k3, oe, vs, T, oT, ts', he, hz, hd, h1, hr⟩ := id fl3
      unfold PySem.passOn
      refine wpAny_bind (wpAny_field he hd h1 ?_)
      rw [if_neg (show ¬ ((Value.ref T == Value.none) = true) from by simp)]
      have last : wpAny (model X.prog X.w) X.A (setFlight (.ref a) X.env.frame) (fun _ s4 => wpAny (model X.prog X.w) X.A (throw (.ref a) : Sem Flow) (SP X pins D) X.xe s4) X.xe { s' with heap := h3 } := by
        rw [hf]
        refine HandSPX.setFlight_upZ fl3 fun h4 hh4 up4 => wpAny_throw (tk _ _ ?_)
        exact ⟨a, B, sI, pins, σ', H', cls, d, rfl, J, nb, (up.trans up3).trans up4, .inr (.inr (by rw [hs]; exact hh4)), na, os, ag, hno rfl⟩
      first
        | exact wpAny_bind (wpAny_pure (wpAny_bind last))
        | exact wpAny_bind last
  · cases f with
    | next =>
      obtain ⟨σ', H', J', q⟩ := hsp
      exact wpAny_execs_nil ⟨σ', H', J'.ofTry ok, q⟩
    | brk =>
      obtain ⟨σ', H', J', q⟩ := hsp
      exact ⟨σ', H', J'.ofTry ok, q⟩
    | cont =>
      obtain ⟨σ', H', J', q⟩ := hsp
      exact ⟨σ', H', J'.ofTry ok, q⟩
    | ret u =>
      obtain ⟨v, σ', H', J', r, q⟩ := hsp
      exact ⟨v, σ', H', J'.ofTry ok, r, q⟩
end

/-! ### C(..) as a value; isinstance and fields of a kept exception -/
section
variable {X : Cx} {e : Expr}
theorem pe_mkx {t : L2.St → Hp → XK → Prop} (h : PMk X e t) : PE X e (fun σ H Q => t σ H fun cls d H' => ∀ a, H' a = none → Q (.ref a) (upd H' a (exk a cls d))) := by
  refine ⟨fun pins s σ H Q I hh => ?_⟩
  refine wpAny_mono (h pins s σ H _ I hh) (fun u s1 hu => ?_) fun _ _ x => x
  obtain ⟨a, oe, vs, sI, H', cls, d, rfl, J, k, hne, ha, hz, hd, h1, na, os, ag, r, q⟩ := hu
  have J2 : Inv X pins σ H' { sI with heap := sI.heap, gens := s1.gens, drawn := s1.drawn, toks := s1.toks } := J.call (ch := []) (Un.kept fun _ _ z => z) J.hok ag (fun _ z => nomatch z)
  have J3 := J2.laidN (h' := s1.heap) (a := a) (o := exk a cls d) (t' := s1.toks) k hne na (exk_ok ha hz hd)
  obtain ⟨a1, a2, a3, a4, a5⟩ := s1
  have e5 : a5 = sI.os := os
  subst e5
  exact ⟨.ref a, _, J3, rfl, q a na⟩
/-- isinstance(e, c), e a kept exception -/
def rIsX (K : PySem.W.Frag) : List V → Hp → VK → Prop := fun xs H Q => ∃ (a D : Addr) (d : Option Addr) (c : V) (cv : Value) (b : Bool), xs = [.ref a, c] ∧ H a = some (exk a (.ref D) d) ∧ ExcC K D ∧ (∀ dd, d = some dd → ∃ fs, H dd = some (.xd fs)) ∧ (∀ u, RelV c u → u = cv) ∧ PySem.W.kitOne K (.ref D) cv = some b ∧ Q (.bl b) H
theorem inst_of {pins : List (Addr × Obj)} {σ : L2.St} {H : Hp} {s : Shared} {a D : Addr} {d : Option Addr} (I : Inv X pins σ H s) (ea : H a = some (exk a (.ref D) d)) (hd : ∀ dd, d = some dd → ∃ fs, H dd = some (.xd fs)) : ∃ oe od, PySem.W.InstAt s.heap a oe D od := by
  obtain ⟨oe, vs, ho, hz, hv⟩ := exk_at I.hok ea
  cases d with
  | none =>
    refine ⟨oe, none, ?_⟩
    obtain ⟨oc, od, oda, osl⟩ := oe
    obtain ⟨h1, h2⟩ := hz
    dsimp only at h1 h2 hv
    subst h1 h2 hv
    exact ⟨ho, rfl, rfl, trivial⟩
  | some dd =>
    obtain ⟨fs, ed⟩ := hd dd rfl
    obtain ⟨mA, hns, hr⟩ := (show ObjOk X.prog X.w H s.heap dd (.xd fs) from I.hok dd _ ed)
    obtain ⟨od, hod, hl⟩ := lookIn_ns hns
    exact ⟨oe, some od, ho, hz.1, by unfold PySem.W.notCls; rw [hv] <;> rfl, by rw [hz.2]; exact hod⟩
theorem call_isX : CallR X (.builtin "isinstance") (rIsX X.K) := by
  intro pins s σ H xs us Q I r h
  obtain ⟨a, D, d, c, cv, b, rfl, ea, C, hd, hcv, e, q⟩ := h
  obtain ⟨u1, u2, rfl, r1, r2⟩ := vals2 r
  cases (show u1 = Value.ref a from r1)
  have ec := hcv _ r2
  subst ec
  obtain ⟨oe, od, J⟩ := inst_of I ea hd
  have hcl : (PySem.W.clsIn X.K D).isSome = true := by
    obtain ⟨cd, hc, _⟩ := PySem.W.any_some C.hd
    rw [hc]
    rfl
  exact PySem.W.kia_one (PySem.W.kitx_exc hcl C.hg C.hk C.hs C.ha C.hn C.ht C.hm) I.kIn J e (fun z => nomatch z) fun tk => ⟨.bl b, H, I.kept (t' := tk) fun _ _ z => z, rfl, q⟩
/-- e.f, e a kept exception -/
def tXk (K : PySem.W.Frag) (f : Str) (te : TE) : TE := fun σ H Q => te σ H fun x H1 => ∃ (a C dd : Addr) (fs : List (Str × V)) (v : V), x = .ref a ∧ H1 a = some (exk a (.ref C) (some dd)) ∧ XfC K C ∧ PySem.W.findIn K (.ref C) f = some none ∧ H1 dd = some (.xd fs) ∧ fs.lookup f = some v ∧ Q v H1
theorem pe_xk {te : TE} {pos : Pos} {n : Str} (he : PE X e te) (hb : attributeBase e n X.env (eval e X.env) = eval e X.env := by rfl) : PE X (.Attribute e n pos) (tXk X.K n te) := by
  refine ⟨fun pins s σ H Q I h => ?_⟩
  refine attr_of hb (thn (he.run pins s σ H _ I h) fun u s1 hh => ?_)
  obtain ⟨x, H1, I1, rx, a, C, dd, fs, v, ex, ea, T, hno, ed, l, q⟩ := hh
  subst ex
  obtain rfl : u = Value.ref a := rx
  obtain ⟨oe, vs, ho, hz, hv⟩ := exk_at I1.hok ea
  obtain ⟨mA, hns, hr⟩ := (show ObjOk X.prog X.w H1 s1.heap dd (.xd fs) from I1.hok dd _ ed)
  obtain ⟨od, hod, hl⟩ := lookIn_ns hns
  obtain ⟨u, hu, ru⟩ := RelO.some_of (v := v) (o := mA n) (by rw [← l]; exact hr n)
  have J : PySem.W.InstAt s1.heap a oe C (some od) := ⟨ho, hz.1, by unfold PySem.W.notCls; rw [hv] <;> rfl, by rw [hz.2]; exact hod⟩
  exact HandSPX.exc_get I1.kIn J T.ga T.gg T.exC (PySem.W.findObj_own T.hdC hno rfl (by rw [hl, hu])) (handed_of ru) ⟨v, H1, I1.tok _, ru, q⟩
end

/-! ### super().__init__(..) of an own error class over ValueError -/
namespace SE
open PySem.W
abbrev wv (x : Addr) : Obj := { cls := .type "method-wrapper", dict := none, data := .fields #[.builtin "ValueError.__init__", .ref x], slots := #[] }
theorem ty_vi : typeOf (.builtin "ValueError.__init__") = pure (.type "wrapper_descriptor") := by
  show builtinType _ = _
  rw [builtinType_eq_fast]
  kernel_rfl
theorem nc_vi : (kfb_private% "nameAndClass") (Value.builtin "ValueError.__init__") = (pure (("__init__" : Str), Value.type "ValueError") : Sem (Str × Value)) := by kernel_rfl
section
variable {prog : Program} {w : World} {M : Model} {A : Around} {E : Value → Shared → Prop} {h : Heap} {g : Array GenState} {dr : Drawn} {t : Nat} {os : OsState}
theorem bind_vi {x C : Addr} {P : Fin → Shared → Prop} (hin : Looks M h (isInstance (.ref x) (.type "ValueError")) true) (hq : P (.done (.ret (.ref h.objs.size))) ⟨h.push (wv x), g, dr, t, os⟩) :
    wpAny M A (Builtin.«wrapper_descriptor.__get__» ⟨[.builtin "ValueError.__init__", .ref x, .ref C], []⟩) P E ⟨h, g, dr, t, os⟩ := by
  unfold Builtin.«wrapper_descriptor.__get__»
  refine wpAny_bind (wpAny_of_eq (a := (.builtin "ValueError.__init__", some (.ref x), some (.ref C))) (by first | rfl | kernel_rfl) ?_)
  show wpAny M A ((kfb_private% "checkInstance") (.builtin "ValueError.__init__") (.ref x) >>= fun _ => newFields "method-wrapper" [.builtin "ValueError.__init__", .ref x] >>= fun r => ret r) P E _
  refine wpAny_bind ?_
  show wpAny M A ((kfb_private% "nameAndClass") (.builtin "ValueError.__init__") >>= _) _ E _
  refine wpAny_bind (wpAny_of_eq nc_vi ?_)
  show wpAny M A (isInstance (.ref x) (.type "ValueError") >>= _) _ E _
  refine wpAny_bind (hin.at (KFB.if_not rfl (wpAny_pure ?_)))
  exact wpAny_bind (wpAny_newObj_type (wpAny_pure hq))
theorem super_gav {so D x C : Addr} {l₀ l : List Value} {K : Frag} {name : Str} {tk : Tok} {Q : Fin → Shared → Prop}
    (hso : h.get? so = some { cls := .type "super", dict := none, data := .fields #[.ref D, .ref x, .ref C], slots := #[] }) (hno : Looks (model prog w) h (opaqueClassAbove (.ref C)) none)
    (hC : Looks (model prog w) h (mroOf (.ref C)) l₀) (hl : (l₀.dropWhile (· != .ref D)).drop 1 = l) (X : K.In h)
    (hf : alongIn K name l = some (some (.builtin "ValueError.__init__"))) (hxC : x ≠ C) (hn : (name == ("__class__" : Str)) = false) (hin : Looks (model prog w) h (isInstance (.ref x) (.type "ValueError")) true)
    (hq : Q (.done (.ret (.ref h.objs.size))) ⟨h.push (wv x), g, dr, t, os⟩) :
    wpAny (model prog w) A (Builtin.«super.__getattribute__» ⟨[.ref so, .str name tk], []⟩) Q E ⟨h, g, dr, t, os⟩ := by
  have hlk := ESX.slot_wd.lookup
  have ner : (Value.ref x == Value.ref C) = false := by simp [hxC]
  have hTf := ty_vi
  have hTi : Shared.TypeIs ⟨h, g, dr, t, os⟩ (.builtin "ValueError.__init__") "wrapper_descriptor" := ty_vi
  have dso : ({ cls := .type "super", dict := none, data := .fields #[.ref D, .ref x, .ref C], slots := #[] } : Obj).data = .fields #[.ref D, .ref x, .ref C] := rfl
  have q0 : (#[.ref D, .ref x, .ref C] : Array Value)[0]? = some (.ref D) := rfl
  have q1 : (#[.ref D, .ref x, .ref C] : Array Value)[1]? = some (.ref x) := rfl
  have q2 : (#[.ref D, .ref x, .ref C] : Array Value)[2]? = some (.ref C) := rfl
  unfold Builtin.«super.__getattribute__»
  repeat (first
    | (with_reducible refine wpAny_field hso dso q0 ?_) | (with_reducible refine wpAny_field hso dso q1 ?_) | (with_reducible refine wpAny_field hso dso q2 ?_)
    | (with_reducible refine ks_wpAny_notOpaque hno ?_)
    | (with_reducible refine Looks.at hC ?_; rw [hl])
    | (refine ks_forIn_along X (fun _ _ => rfl) rfl ?_ hf)
    | (with_reducible refine wpAny_call_entry ESX.slot_wd hTi ESX.entry_wd ?_ (ESX.args_wd _ _ _))
    | (with_reducible refine bind_vi hin ?_)
    | (with_reducible refine ⟨_, rfl, ?_⟩)
    | (simp only [hn, ner, Bool.or_false, Bool.false_eq_true, if_false])
    | wp_step
    | dsimp only)
  all_goals exact hq
theorem getMethod_superv {so D x C : Addr} {l₀ l : List Value} {K : Frag} {name : Str} {pl : Sem Bool} {Q : Value × List Value → Shared → Prop}
    (hso : h.get? so = some { cls := .type "super", dict := none, data := .fields #[.ref D, .ref x, .ref C], slots := #[] }) (hno : Looks (model prog w) h (opaqueClassAbove (.ref C)) none)
    (hC : Looks (model prog w) h (mroOf (.ref C)) l₀) (hl : (l₀.dropWhile (· != .ref D)).drop 1 = l) (X : K.In h)
    (hf : alongIn K name l = some (some (.builtin "ValueError.__init__"))) (hxC : x ≠ C) (hn : (name == ("__class__" : Str)) = false) (hin : Looks (model prog w) h (isInstance (.ref x) (.type "ValueError")) true)
    (hq : Q (.ref h.objs.size, []) ⟨h.push (wv x), g, dr, t + 1, os⟩) :
    wpAny (model prog w) A (getMethod (.ref so) name pl) Q E ⟨h, g, dr, t, os⟩ := by
  have hlk := F.ks_slot_super_ga.lookup
  have hT : ∀ t', (⟨h, g, dr, t', os⟩ : Shared).TypeIs (.ref so) "super" := fun _ => ⟨_, hso, rfl⟩
  unfold getMethod
  refine wpAny_bind (wpAny_specialOf (hT _) hlk ?_)
  show wpAny _ _ (if (Manifest.canonical "super.__getattribute__" != "object.__getattribute__") = true then _ else _) _ _ _
  rw [if_pos F.ks_canon_super_ga]
  unfold getAttr getAttrBy
  refine wpAny_bind (wpAny_bind (wpAny_mkText (wpAny_holding (wpAny_bind (wpAny_typeOf (hT _) (wpAny_bind (wpAny_of_eq hlk ?_)))))))
  show wpAny _ _ (getAttrByItsOwn (.ref so) (.str name t) (.type "super") (.builtin "super.__getattribute__") true false) _ _ _
  unfold getAttrByItsOwn hookBefore callGetattribute boundAndCalled
  refine wpAny_bind (wpAny_of_eq (show (if onTheHeap (.type "super") then typeLookup (.type "super") "__getattr__" else pure none) = pure none from rfl) (wpAny_bind (wpAny_attempt (wpAny_holding ?_))))
  show wpAny _ _ (bindSpecial (.builtin "super.__getattribute__") (.ref so) >>= _) _ _ _
  refine wpAny_bind (wpAny_of_eq (F.ks_slot_super_ga.bind _) ?_)
  refine wpAny_mono (Q := fun v s' => v = .ref h.objs.size ∧ s' = ⟨h.push (wv x), g, dr, t + 1, os⟩) (E := fun _ _ => False)
    (wpAny_call_entry F.ks_slot_super_ga (hT _) F.ks_entry_super_ga (super_gav hso hno hC hl X hf hxC hn hin ⟨_, rfl, rfl, rfl⟩) (F.ks_gaArgs_super _ _)) (fun v s' hv => ?_) fun _ _ z => z.elim
  obtain ⟨rfl, rfl⟩ := hv
  exact wpAny_pure (wpAny_pure hq)
end
section
open PySem.Calls
variable {prog : Program} {w : World} {M : Model} {A : Around} {E : Value → Shared → Prop} {s : Shared}
theorem callWith_wv {pos : Pos} {u x : Addr} {env : Env} {e : Expr} {rest : List Expr} {Q : Value → Shared → Prop}
    (h : wpAny M A (spliced (backTo pos (starEach (e :: rest) env))) (fun vs s₁ => s₁.heap.get? u = some (wv x) ∧ wpAny M A (call (.ref u) vs) Q E s₁) E s)
    (he : starEach (e :: rest) env = (false, eval e env) :: starEach rest env) (hplain : (backTo pos (starEach rest env)).any (·.1) = false) :
    wpAny M A (callWith pos (.ref u) [] (backTo pos (starEach (e :: rest) env)) []) Q E s := by
  rw [he] at h ⊢
  have hp : (backTo pos ((false, eval e env) :: starEach rest env)).any (·.1) = false := by
    show (false || (backTo pos (starEach rest env)).any (·.1)) = false
    rw [hplain]
    rfl
  have h2 : wpAny M A (evalArgs (.ref u) true (backTo pos ((false, eval e env) :: starEach rest env)) []) (fun a s₁ => s₁.heap.get? u = some (wv x) ∧ wpAny M A (call (.ref u) ([] ++ a.pos) a.kw) Q E s₁) E s := evalArgs_plain h
  unfold callWith
  refine wpAny_bind (wpAny_holding (wpAny_mono h2 (fun a s₁ h₁ => wpAny_bind (wpAny_standAt ?_)) fun _ _ x => x))
  obtain ⟨ho, hcall⟩ := h₁
  simp only [hp, List.any_nil, Bool.or_false]
  refine wpAny_bind (m := keeperOf (.ref u)) ?_
  unfold keeperOf
  refine wpAny_bind (wpAny_load ho ?_)
  simp only [wv, show (Value.type "method-wrapper" != Value.type "method") = true by decide, show (Value.type "method-wrapper" == Value.type "builtin_function_or_method" || Value.type "method-wrapper" == Value.type "method-wrapper") = true by decide, if_true]
  refine wpAny_pure ?_
  exact wpAny_bind (wpAny_mono hcall (fun r s₂ hr => wpAny_bind (wpAny_holding (wpAny_point (wpAny_pure hr)))) fun _ _ x => x)
end
section
variable {prog : Program} {w : World} {A : Around} {E : Value → Shared → Prop} {h : Heap} {g : Array GenState} {dr : Drawn} {t : Nat} {os : OsState}
variable {nm q : Str} {C N : Addr} {bs bm : List Value} {hdct : Bool} {sn : List Str} {sub : List Value} {ab : Bool} {col : Option Bool} {dd : Option Addr} {k0 k1 k2 k3 k5 : Option Value}
theorem call_wv {u e t0 : Addr} {rest : List Value} {Q : Value → Shared → Prop}
    (hC : h.get? C = some (excClassObj nm q C N bs bm hdct sn sub ab col dd k0 k1 k2 k3 k5 "ValueError.__new__")) (he : h.get? e = some (HandSPX.excO C t0)) (hu : h.get? u = some (wv e)) (hrest : rest.length ≤ sizeLine)
    (hq : ∀ h' t1, (∀ b o, b ≠ e → h.get? b = some o → h'.get? b = some o) → h'.get? e = some (HandSPX.excO C t1) → Q .none ⟨h', g, dr, t, os⟩) :
    wpAny (model prog w) A (call (.ref u) rest) Q E ⟨h, g, dr, t, os⟩ := by
  refine wpAny_call (codeAny_of_tree ?_)
  show wpAny _ A.in1 (callAny (.ref u) ⟨rest, []⟩) _ _ _
  simp only [callAny]
  refine wpAny_bind (wpAny_load hu ?_)
  simp only [wv, show (Value.type "method-wrapper" == Value.type "method" || Value.type "method-wrapper" == Value.type "builtin_function_or_method" || Value.type "method-wrapper" == Value.type "method-wrapper") = true by decide, if_true]
  refine W.KFB.if_so (by decide) ?_
  refine wpAny_bind (ESX.check_bound F.excBase_ValueError hC he rfl (wpAny_bind (wpAny_pure (wpAny_pure ?_))))
  refine ⟨Code.quiet_builtin _ (by decide +kernel), codeAny_builtin F.excBase_ValueError.initEntry ?_⟩
  rw [Around.under_plainId F.excBase_ValueError.init.plain _]
  wp_walk
  refine hq _ h.objs.size (fun b o hb ho => ?_) ?_
  · rw [Heap.get?_update_other _ _ (Ne.symm hb)]
    exact Heap.get?_push_of_some _ ho
  · rw [Heap.get?_update_self _ (Heap.get?_push_of_some _ he) rfl]
    rfl
end
end SE

/-- what the written part says for super().__init__ in a def of the error class at D, of an instance of the class at C -/
structure SupE (P : Program) (K : PySem.W.Frag) (mg : Str → Option Value) (C D cc cda : Addr) : Prop where
  cell : ∃ cl cld csl, K.lookup cc = some ⟨cl, cld, .cell (some (.ref D)), csl⟩
  code : ∃ ccl cdd vs ccs file tf, K.lookup cda = some ⟨ccl, cdd, .fields vs, ccs⟩ ∧ vs[2]? = some (.str file tf) ∧ ((P.main.file : Str) == file) = true
  clD : ∃ cdD, PySem.W.clsIn K D = some cdD
  sub : PySem.W.mroIn K C (.ref D) = some true
  suv : PySem.W.mroIn K C (.type "ValueError") = some true
  sup : mg "super" = none
  top : (P.main.scope.names.lookup ("super" : Str)).isSome = false
  any : PySem.W.nsIn K cStatics "thirdparty.any" = some none
  fnd : PySem.W.ks_superIn K C D "__init__" = some (some (.builtin "ValueError.__init__"))
  oex : OexC K C

section
variable {CX : CXT} {P : Program} {w : World} {K : PySem.W.Frag} {mg : Str → Option Value} {base : Heap} {k : Nat} {f cc cda : Addr} {name qual : Str} {params : Arguments} {scope : Scope} {dV kV doc pm ct oc : Value} {an od : Option Addr}
    {osl : Array (Option Value)} {N ps : List Str} {sp : Sp} {e : PySem.Expr} {es : List PySem.Expr} {rest : List Stmt} {p0 p1 apos pos epos : Pos} {pl : Sem Bool}
theorem fn_superE (lk : K.lookup f = some ⟨oc, od, .func (PySem.W.ksFn name qual params (.Expr (.Call (.Attribute (.Call (.Name "super" p0) [] [] p1) "__init__" apos) (e :: es) [] pos) epos :: rest) scope dV kV doc pm an (.ref cda) ct cc), osl⟩)
    (hcd : PySem.W.codeIn K (.ref cda) qual = true) (S : ScS N ps scope)
    {ar : Arg} (hp0 : (params.posonlyargs ++ params.args).head? = some ar) (hps : ps.head? = some ar.arg) (har : scope.names.lookup ar.arg = some .local)
    (hks : scope.names.lookup ("super" : Str) = some .globalImplicit) (hkc : scope.names.lookup ("__class__" : Str) = some .free)
    (len : ∀ vs H Q E, sp vs H Q E → vs.length = ps.length)
    (hbody : ∀ (A : Around) (outer : List Env) (s : Shared) (H : Hp) (vs : List V) (Q : VK) (E : XK), Room k (A.deeper (PySem.W.ksEnv qual scope s.heap.objs.size f (.ref cda) cc)) → sp vs H Q E →
      ∃ (x C D : Addr) (vs' : List V) (ta : TA) (u : TS), vs = .ref x :: vs' ∧ H x = some (exo x C none) ∧ SupE P K mg C D cc cda ∧
        PA (cxS CX P w K mg base N qual scope f (.ref cda) cc A outer s H E) (e :: es) ta ∧
        PSs (cxS CX P w K mg base N qual scope f (.ref cda) cc A outer s H E) rest u ∧
        ta (start N vs) H (fun ws H1 => ws.length ≤ 1000 ∧ H1 x = some (exo x C none) ∧ u { nx := fun _ H' => Q .non H', rt := Q } (start N vs) H1))
    (hi : ∀ L, interactive (PySem.W.ksEnv qual scope L f (.ref cda) cc) = false) (hsw : ∀ L, swapsWith (.Call (.Attribute (.Call (.Name "super" p0) [] [] p1) "__init__" apos) (e :: es) [] pos) none epos.line (PySem.W.ksEnv qual scope L f (.ref cda) cc) = pure false)
    (he : ∀ L, eval (.Call (.Attribute (.Call (.Name "super" p0) [] [] p1) "__init__" apos) (e :: es) [] pos) (PySem.W.ksEnv qual scope L f (.ref cda) cc) = (do
      let ov ← attributeBase (.Call (.Name "super" p0) [] [] p1) "__init__" (PySem.W.ksEnv qual scope L f (.ref cda) cc) (eval (.Call (.Name "super" p0) [] [] p1) (PySem.W.ksEnv qual scope L f (.ref cda) cc))
      standAt apos.atName
      let (fn, first) ← holding [ov] (getMethod ov "__init__" pl)
      callWith pos fn first (backTo pos (starEach (e :: es) (PySem.W.ksEnv qual scope L f (.ref cda) cc))) []))
    (hst : ∀ L, starEach (e :: es) (PySem.W.ksEnv qual scope L f (.ref cda) cc) = (false, eval e (PySem.W.ksEnv qual scope L f (.ref cda) cc)) :: starEach es (PySem.W.ksEnv qual scope L f (.ref cda) cc))
    (hpl : ∀ L, (backTo pos (starEach es (PySem.W.ksEnv qual scope L f (.ref cda) cc))).any (·.1) = false) :
    FnOk P w K mg base CX (k + 1) f (PySem.W.ksFn name qual params (.Expr (.Call (.Attribute (.Call (.Name "super" p0) [] [] p1) "__init__" apos) (e :: es) [] pos) epos :: rest) scope dV kV doc pm an (.ref cda) ct cc) ps sp := by
  refine ⟨len, fun A outer s H args us vs Q E hr e0 hb r hsp => ?_⟩
  have hl := len _ _ _ _ hsp
  have KX : K.In s.heap := e0.mod.kin.keeps fun b o e => (e0.bs b o e).1
  have lim : s.heap.NoLimit := e0.mod.nolimit.keeps fun b o e => (e0.bs b o e).1
  obtain ⟨x, C, D, vs', ta, u, rfl, hx, T, hta, hrest, hq⟩ := hbody A outer s H vs Q E (hr.deeper _) hsp
  obtain ⟨cl, cld, csl, hcell⟩ := T.cell
  obtain ⟨ccl, cdd, cvs, ccs, file, tf, hcode, hvs, hfile⟩ := T.code
  obtain ⟨cdD, hD⟩ := T.clD
  refine PySem.ks_codeAny_call_defAt (binds := ps.zip us) hr.depth (KX _ _ lk) rfl lim (PySem.W.codeRec_of KX hcd) rfl hb S.nocell (fun y hy => S.par y.1 (List.of_mem_zip hy).1) (fun h1 hns hk => ?_) S.co S.gen S.kind
  have I : Inv (cxS CX P w K mg base N qual scope f (.ref cda) cc A outer s H E) [] (start N (.ref x :: vs')) H { s with heap := h1, toks := s.toks + (ps.zip us).length } :=
    inv_startS (vs := .ref x :: vs') S hr.hd e0 hl r hcell rfl hns hk
  have hX : K.In h1 := I.kIn
  obtain ⟨t1, ho⟩ := exo_at I.hok hx
  have J : PySem.W.InstAt h1 x { cls := .ref C, dict := none, data := .fields #[.ref t1, .none, .none, .none, .bool false, .none] } C none := ⟨ho, rfl, rfl, trivial⟩
  obtain ⟨oD, hD1, hD2⟩ : ∃ oD, h1.get? D = some oD ∧ oD.data = .cls cdD := by
    unfold PySem.W.clsIn at hD
    split at hD
    · rename_i c d cd' sl ho
      cases hD
      exact ⟨_, hX _ _ ho, rfl⟩
    · cases hD
  refine PySem.ks_wpAt_execs_cons (PySem.ks_wpAt_Expr_any (PySem.ks_wpAt_MethodCall (pl := pl) ?_ (he _)) (hi _) (hsw _))
  refine PySem.ks_wpAt_super_base (env := PySem.W.ksEnv qual scope s.heap.objs.size f (.ref cda) cc) hks hkc (by decide) rfl (hX _ _ lk) rfl hp0 rfl (hX _ _ hcode) rfl hvs hfile T.top ?_
  obtain ⟨mb, hb1, hb2⟩ := I.mod.blt
  refine PySem.W.ks_loadName_global S.kind hks (Calls.loadGlobal_builtin (env := PySem.W.ksEnv qual scope s.heap.objs.size f (.ref cda) cc) (I.mod.glob.keeps I.bk) T.sup (hb1.keeps I.bk) ((hb2 _ (by decide +kernel)).trans (show bootBuiltins "super" = some (.type "super") by first | rfl | kernel_rfl)) ⟨rfl, ?_⟩)
  refine wpAny_loadName_free S.kind hkc (by show List.lookup _ [_] = _; simp [List.lookup]) ⟨_, hX _ _ hcell, rfl⟩ ?_
  have hself : (ps.zip us).reverse.lookup ar.arg = some (.ref x) := by
    match ps, us, hps, r with
    | p :: ps', u' :: us', hp', .cons ru _ =>
      have hp'' : p = ar.arg := by simpa using hp'
      subst hp''
      cases (show u' = Value.ref x from ru)
      have ndP : (ar.arg :: ps').Nodup := by
        have := S.pre
        rw [← this]
        exact S.nd.sublist (List.take_sublist _ _)
      exact rev_lookup (i := 0) ndP rfl rfl
  refine wpAny_loadName_local S.kind har hns hself ?_
  refine PySem.ks_wpAny_isType_cls hD1 hD2 ⟨rfl, ?_⟩
  refine PySem.ks_wpAny_call_super hD1 hD2 J.at_ J.cls (fun c e => nomatch e) (PySem.W.looks_mroIn hX T.sub) (fun h' hso k' => ?_)
  have I1 : Inv (cxS CX P w K mg base N qual scope f (.ref cda) cc A outer s H E) [(h1.objs.size, PySem.W.ks_superObj D x C)] (start N (.ref x :: vs')) H { s with heap := h', toks := s.toks + (ps.zip us).length } :=
    ClX.pin_new (s := { s with heap := h1, toks := s.toks + (ps.zip us).length }) (t' := s.toks + (ps.zip us).length) I k' (Nat.le_refl _) hso (fun v z => nomatch z)
  have hX' : K.In h' := I1.kIn
  have J' : PySem.W.InstAt h' x { cls := .ref C, dict := none, data := .fields #[.ref t1, .none, .none, .none, .bool false, .none] } C none := ⟨k' _ _ ho, rfl, rfl, trivial⟩
  have fnd := T.fnd
  cases hc : PySem.W.clsIn K C with
  | none => unfold PySem.W.ks_superIn at fnd; rw [hc] at fnd; cases fnd
  | some cdC =>
    unfold PySem.W.ks_superIn at fnd
    rw [hc] at fnd
    refine SE.getMethod_superv (h := h') hso (PySem.W.looks_opaque hX' T.any) (l₀ := cdC.mro) ?_ rfl hX' fnd (PySem.W.ks_ne hX J hc) (by decide) (J'.type.andThen (PySem.W.looks_mroIn hX' T.suv)) ?_
    · exact fun A Q E s k q => wpAny_bind ((PySem.W.looks_clsIn hX' hc) A _ E s k (wpAny_pure q))
    · have I2 := ClX.pin_new (s := { s with heap := h', toks := s.toks + (ps.zip us).length }) (o := SE.wv x) (t' := s.toks + (ps.zip us).length + 1) I1 (fun _ _ z => Heap.get?_push_of_some _ z) (Nat.le_refl _) (Heap.get?_push_size h' rfl) (fun v z => nomatch z)
      refine SE.callWith_wv (x := x) (thn (hta.run pos _ _ _ H _ I2 hq) fun us2 s3 ⟨ws, H2, I3, rv, hl2, hx2, q2⟩ => ⟨ClX.pin_at I3, ?_⟩) (hst _) (hpl _)
      obtain ⟨nm, q, N', bs, bm, sn, sub, ab, col, dd, k0, k1, k2, k3, k5, hCo, hbm⟩ := T.oex.cls
      obtain ⟨t2, ho2⟩ := exo_at I3.hok hx2
      have hu2 : s3.heap.get? h'.objs.size = some (SE.wv x) := ClX.pin_at I3
      have kC := I3.kIn
      obtain ⟨hp3, g3, d3, tk3, os3⟩ := s3
      refine SE.call_wv (kC _ _ hCo) ho2 hu2 (by rw [← Paired.length rv, sizeLine_eq]; omega) fun h4 t4 k4 hx4 => ?_
      have I4 := (ClX.unpin (ClX.unpin I3)).write (t' := tk3) (x := x) (e := x) (o := exo x C none) (by rw [hx2]; exact True.intro) (.inl rfl) k4 ⟨_, hx4⟩ (exo_ok hx4)
      have eu : upd H2 x (exo x C none) = H2 := by
        funext b
        by_cases hb : b = x
        · rw [hb, upd_same, hx2]
        · rw [upd_ne hb]
      rw [eu] at I4
      refine wpAt_of_wpAny (wpAny_mono (hrest.run [] _ _ H2 _ I4 q2) (fun fl s' hs => ?_) fun e s' hs => hs)
      have fin : ∀ {σ' : L2.St} {H' : Hp} {v : V} {u : Value}, Inv (cxS CX P w K mg base N qual scope f (.ref cda) cc A outer s H E) [] σ' H' s' → RelV v u → Q v H' → CE outer P w H s Q u s' :=
        fun {σ' H' v u} J rv q => ⟨v, H', J.os, J.bare, J.base, J.hok, rv, q⟩
      cases fl with
      | ret u =>
        obtain ⟨v, σ', H', J, rv, q⟩ := hs
        exact fin J rv q
      | next =>
        obtain ⟨σ', H', J, q⟩ := hs
        exact fin (v := V.non) (u := Value.none) J rfl q
      | brk =>
        obtain ⟨_, _, _, q⟩ := hs
        exact False.elim q
      | cont =>
        obtain ⟨_, _, _, q⟩ := hs
        exact False.elim q
end
end Ls
end
section
set_option Elab.async false
set_option linter.all false
set_option maxRecDepth 100000
set_option maxHeartbeats 4000000
namespace Ls
open PySem PySem.Spec PyProof.Rows L2

/-! ### defs that must know that no repr is under way -/
structure FnG (P : Program) (w : World) (K : PySem.W.Frag) (mg : Str → Option Value) (base : Heap) (CX : CXT) (k : Nat) (f : Addr) (fd : FuncData) (ps : List Str) (sp : Sp) : Prop where
  len : ∀ vs H Q E, sp vs H Q E → vs.length = ps.length
  run : ∀ (A : Around) (outer : List Env) (s : Shared) (H : Hp) (args : Args) (us : List Value) (vs : List V) (Q : VK) (E : XK), A.guards = some [] → Room k A → Env0 P w K mg base A outer s H → BindsTo s fd args (ps.zip us) → Vals vs us → sp vs H Q E →
    codeAny (model P w) A (.call (.ref f) args) (CR CX outer P w H s Q E) s
section
variable {P : Program} {w : World} {K : PySem.W.Frag} {mg : Str → Option Value} {base : Heap}
theorem FnG.of {CX : CXT} {k : Nat} {f : Addr} {fd : FuncData} {ps : List Str} {sp : Sp} (F : FnOk P w K mg base CX k f fd ps sp) : FnG P w K mg base CX k f fd ps sp := ⟨F.len, fun A outer s H args us vs Q E _ => F.run A outer s H args us vs Q E⟩
theorem okG {x qual : Str} {st : Stmt} {f : Addr} {fd : FuncData} {N ps : List Str} {k : Nat} {sp : Sp} (F : Fun K x qual st f fd) (S : FnScope N ps (defScope st)) (len : ∀ vs H Q E, sp vs H Q E → vs.length = ps.length)
    (hbody : ∀ (cdv : Value) (A : Around) (outer : List Env) (s : Shared) (H : Hp) (vs : List V) (Q : VK) (E : XK), fd.code = cdv → A.guards = some [] → Room k (A.deeper (envOfC qual (defScope st) s.heap.objs.size f cdv)) → sp vs H Q E →
      ∃ t, PSs (cxOf CX0 P w K mg base N qual (defScope st) f cdv A outer s H E).nox (defBody st) t ∧ t { nx := fun _ H' => Q .non H', rt := Q } (start N vs) H) : FnG P w K mg base CX0 (k + 1) f fd ps sp := by
  obtain ⟨oc, od, kV, doc, pm, an, cdv, ct, osl, rfl, lk, hcd⟩ := F.ex
  refine ⟨len, fun A outer s H args us vs Q E hg hr e0 hb r hs => ?_⟩
  refine LamX.run_ofS lk hcd S hr e0 hb r (len _ _ _ _ hs) fun hr' => ?_
  obtain ⟨t, h, q⟩ := hbody cdv A outer s H vs Q E rfl hg hr' hs
  exact ⟨t, h.nox, q⟩
end
section
variable (P : Program) (w : World) (K : PySem.W.Frag) (mg : Str → Option Value) (base : Heap) (CX : CXT) (k : Nat)
/-- the def under the module's name x keeps sp, where no repr is under way -/
structure CalG (x : Str) (sp : Sp) : Prop where
  ex : ∃ f fd ps, mg x = some (.ref f) ∧ PySem.W.keepIn K (.ref f) = true ∧ Binds K fd ps [] ∧ FnG P w K mg base CX k f fd ps sp
end
section
variable {X : Cx} {CX : CXT} {k : Nat} {sp : Sp} {E : XK} {x : Str} {p pos : Pos} {e : PySem.Expr} {es : List PySem.Expr} {t : TA}
theorem pe_calG (hgd : X.A.guards = some []) (c : CalG X.prog X.w X.K X.mg X.base CX k x sp) (hr : Room k X.A) (hg : Gl X x) (hx : Passes CX X E) (ha : PA X (e :: es) t) (hd : (x == ("__debug__" : Str)) = false := by decide)
    (he : starEach (e :: es) X.env = (false, eval e X.env) :: starEach es X.env := by rfl) (hpl : (backTo pos (starEach es X.env)).any (·.1) = false := by rfl) :
    PE X (.Call (.Name x p) (e :: es) [] pos) (tCl sp E t) := by
  obtain ⟨f, fd, ps, hm, hk, hb, F⟩ := c.ex
  refine ⟨fun pins s σ H Q I h => ?_⟩
  refine wpAny_Call_Name_kw (ld_glob I hg hm ?_ hd)
  refine PySem.W.callWith_K (h₀ := X.base) I.ok.mod.kin hk (thn (ha.run pos pins s σ H _ I h) fun us s1 ⟨vs, H1, I1, r, q⟩ => ⟨I1.kIn, ?_⟩) he hpl
  have hl : us.length = ps.length := by
    rw [← r.length]
    exact F.len _ _ _ _ q
  have bd := hb s1 us I1.kIn (by rw [List.append_nil]; exact hl)
  rw [List.append_nil] at bd
  refine wpAny_call (codeAny_mono (F.run X.A X.stack s1 H1 ⟨us, []⟩ us vs Q E hgd hr I1.env0 bd r q) fun res s' hq => ?_)
  match res, hq with
  | .error e, hq => exact hx pins σ H1 s1 e s' I1 hq
  | .ok (.ret u), hq => exact I1.after hq
end

/-! ### the top: tables of code objects, no repr under way -/
def tabH (T : List Addr) : Hp := fun b => if b ∈ T then some (.tbl #[]) else none
theorem tab_in {T : List Addr} {b : Addr} (h : b ∈ T) : tabH T b = some (.tbl #[]) := if_pos h
theorem tab_out {T : List Addr} {b : Addr} (h : b ∉ T) : tabH T b = none := if_neg h
/-- what is tracked at the start: the script (if it is no object of the module), the tables -/
theorem top_heap {P : Program} {w : World} {K : PySem.W.Frag} {a : Addr} {T : List Addr} {s : Shared} {vs : List Value} {ns : List Int} (KX : K.In s.heap) (hT : ∀ b ∈ T, s.heap.get? b = some { cls := .none, data := .fields #[] })
    (ha : s.heap.get? a = some { cls := .type "list", data := .seq vs.toArray }) (hi : IntsAre vs ns) (hl : ns.length ≤ sizeLine) :
    ∃ H : Hp, (∀ b ∈ T, H b = some (.tbl #[])) ∧ SqL K H a (ns.map V.int) ∧ HOk P w H s.heap ∧
      ∀ b u, H b = some u → (b ∈ T ∧ u = .tbl #[]) ∨ (b = a ∧ K.lookup a = none ∧ ∃ o xs, u = .frz o (.lst xs)) := by
  have rv := vals_ints hi
  have aT : a ∉ T := fun z => by
    have q := hT a z
    rw [ha] at q
    cases congrArg Obj.data (Option.some.inj q)
  cases hk : K.lookup a with
  | some o =>
    have e := KX a o hk
    rw [ha] at e
    cases e
    refine ⟨tabH T, fun b hb => tab_in hb, .inr ⟨_, vs.toArray, _, hk, rfl, rfl, rfl, by rw [List.size_toArray, hi.length]; exact hl, by simpa using rv⟩, fun b u z => ?_, fun b u z => ?_⟩
    · by_cases hb : b ∈ T
      · rw [tab_in hb] at z
        cases z
        exact hT b hb
      · rw [tab_out hb] at z
        cases z
    · by_cases hb : b ∈ T
      · rw [tab_in hb] at z
        exact .inl ⟨hb, (Option.some.inj z).symm⟩
      · rw [tab_out hb] at z
        cases z
  | none =>
    refine ⟨upd (tabH T) a (.frz { cls := .type "list", data := .seq vs.toArray } (.lst (ns.map V.int))), fun b hb => ?_, .inl (.inr ⟨_, upd_same⟩), fun b u z => ?_, fun b u z => ?_⟩
    · have nb : b ≠ a := fun e => aT (by rw [← e]; exact hb)
      rw [upd_ne nb]
      exact tab_in hb
    · by_cases hb : b = a
      · subst hb
        rw [upd_same] at z
        cases z
        exact ⟨ha, by rw [List.length_map]; exact hl, vs, _, rv, ha⟩
      · rw [upd_ne hb] at z
        by_cases hb : b ∈ T
        · rw [tab_in hb] at z
          cases z
          exact hT b hb
        · rw [tab_out hb] at z
          cases z
    · by_cases hb : b = a
      · subst hb
        rw [upd_same] at z
        exact .inr ⟨rfl, rfl, _, _, (Option.some.inj z).symm⟩
      · rw [upd_ne hb] at z
        by_cases hb : b ∈ T
        · rw [tab_in hb] at z
          exact .inl ⟨hb, (Option.some.inj z).symm⟩
        · rw [tab_out hb] at z
          cases z
theorem top_call {P : Program} {w : World} {K : PySem.W.Frag} {mg mb : Str → Option Value} {CX : CXT} {k : Nat} {fa a : Addr} {cs : List (Addr × Addr)} {fd : FuncData} {x : Str} {sp : Sp} {s : Shared} {vs : List Value} {ns : List Int}
    (KX : K.In s.heap) (gl : s.heap.Ns mainGlobals mg) (bl : s.heap.Ns builtinsNs mb) (bb : ∀ x : Str, x ≠ "__name__" → mb x = bootBuiltins x) (nl : s.heap.NoLimit) (gn : s.gens = #[])
    (hT : ∀ p ∈ cs, s.heap.get? p.2 = some { cls := .none, data := .fields #[] }) (nT : ∀ p ∈ cs, K.lookup p.2 = none) (C : ∀ p ∈ cs, PySem.W.CodeHd s.heap p.1 p.2)
    (hbm : ∃ (bm : Addr) (ob : Obj), mg "__builtins__" = some (.ref bm) ∧ bm ≠ builtinsNs ∧ s.heap.get? bm = some ob ∧ ob.cls = .type "module" ∧ ob.dict = some builtinsNs ∧ ob.data = .plain)
    (ha : s.heap.get? a = some { cls := .type "list", data := .seq vs.toArray }) (hi : IntsAre vs ns) (hl : ns.length ≤ sizeLine) (hr : Room k callerA)
    (F : ∀ base : Heap, K.In base → base.Ns mainGlobals mg → (∀ p ∈ cs, LamX.TabB base mg p.1 p.2) → (base.get? sysModules).isSome = true → FnG P w K mg base CX k fa fd [x] sp) (hsy : ∃ mm, s.heap.Ns sysModules mm) (hbind : ∀ (s : Shared) (u : Value), BindsTo s fd ⟨[u], []⟩ [(x, u)])
    (hsp : ∀ H : Hp, (∀ p ∈ cs, H p.2 = some (.tbl #[])) → SqL K H a (ns.map V.int) → sp [.ref a] H (fun v _ => v = .bl true) fun _ _ _ => False)
    (hCX : ∀ H e s', CX [] H s (fun _ _ _ => False) e s' → False) :
    codeAny (model P w) callerA (.call (.ref fa) ⟨[.ref a], []⟩) (fun r s' => r = .ok (.ret (.bool true)) ∧ OldK s.heap s'.heap ∧ s'.os = s.os ∧ AllBare s'.gens) s := by
  have hT' : ∀ b ∈ cs.map (·.2), s.heap.get? b = some { cls := .none, data := .fields #[] } := fun b hb => by
    obtain ⟨p, hp, rfl⟩ := List.mem_map.mp hb
    exact hT p hp
  obtain ⟨H, H1, H2, H3, H4⟩ := top_heap (P := P) (w := w) KX hT' ha hi hl
  -- what is no list and no empty record is not tracked
  have un : ∀ {b : Addr} {o : Obj}, s.heap.get? b = some o → (∀ l n, o.data ≠ .seq l n) → o.data ≠ .fields #[] → H b = none := fun {b o} e n1 n2 => by
    cases q : H b with
    | none => rfl
    | some u =>
      rcases H4 b u q with ⟨hb, _⟩ | ⟨hb, _⟩
      · rw [hT' b hb] at e
        cases e
        exact absurd rfl n2
      · rw [hb, ha] at e
        cases e
        exact absurd rfl (n1 _ _)
  have ns' : ∀ {b : Addr} {m : Str → Option Value}, s.heap.Ns b m → (hidT s.heap H).Ns b m := fun {b m} ⟨o, es, ep, e, d, r⟩ =>
    ⟨o, es, ep, hidT_get e (un e (fun l n z => by rw [d] at z; cases z) fun z => by rw [d] at z; cases z), d, r⟩
  have kb : K.In (hidT s.heap H) := fun b o e => hidT_get (KX b o e) (by
    cases q : H b with
    | none => rfl
    | some u =>
      rcases H4 b u q with ⟨hb, _⟩ | ⟨hb, hn, _⟩
      · obtain ⟨p, hp, rfl⟩ := List.mem_map.mp hb
        rw [nT p hp] at e
        cases e
      · rw [hb, hn] at e
        cases e)
  have TB : ∀ p ∈ cs, LamX.TabB (hidT s.heap H) mg p.1 p.2 := fun p hp => by
    refine ⟨?_, ?_, fun z => ?_⟩
    · obtain ⟨o, us, file, tf, flags, tg, inF, text, tt, e1, r1, r2, r3, rest⟩ := C p hp
      refine ⟨o, us, file, tf, flags, tg, inF, text, tt, hidT_get e1 (un e1 (fun l n z => by rw [r2] at z; cases z) fun z => ?_), r1, r2, r3, rest⟩
      rw [r2] at z
      cases z
      simp at r3
    · obtain ⟨bm, ob, b1, b2, b3, b4, b5, b6⟩ := hbm
      refine ⟨bm, ob, b1, b2, fun q => ?_, fun q => ?_, hidT_get b3 (un b3 (fun l n z => by rw [b6] at z; cases z) fun z => by rw [b6] at z; cases z), b4, b5, b6⟩
      · obtain ⟨o, es, ep, e, d, _⟩ := gl
        rw [q, e] at b3
        cases b3
        rw [d] at b6
        cases b6
      · rw [q, hT p hp] at b3
        cases b3
        cases b6
    · obtain ⟨o, es, ep, e, d, _⟩ := gl
      rw [z, hT p hp] at e
      cases e
      cases d
  have sy : ((hidT s.heap H).get? sysModules).isSome = true := by
    obtain ⟨mm, z⟩ := hsy
    obtain ⟨o, _, _, e, _⟩ := ns' z
    rw [e]
    rfl
  have md : L2.Mod K mg (hidT s.heap H) := ⟨kb, ns' gl, ⟨mb, ns' bl, bb⟩, by
    obtain ⟨mc, z1, z2⟩ := nl
    exact ⟨mc, ns' z1, z2⟩⟩
  have e0 : Env0 P w K mg (hidT s.heap H) callerA [] s H := ⟨rfl, md, fun b o e => of_hidT e, Nat.le_of_eq (hidT_size _ _), trivial, fun b hb => absurd (show b ∈ ([] : List Addr) from hb) (by simp), H3, .of_eq gn⟩
  refine codeAny_mono ((F _ kb (ns' gl) TB sy).run callerA [] s H ⟨[.ref a], []⟩ [.ref a] [.ref a] _ _ rfl hr e0 (hbind s (.ref a)) (.cons rfl .nil) (hsp H (fun p hp => H1 _ (List.mem_map.mpr ⟨p, hp, rfl⟩)) H2)) fun r s' h => ?_
  match r, h with
  | .error e, h => exact (hCX H e s' h).elim
  | .ok (.ret u), h =>
    obtain ⟨v, H', os, bare, U, hok', rv, q⟩ := h
    cases (show v = .bl true from q)
    cases (show u = Value.bool true from rv)
    have stays : ∀ b o, s.heap.get? b = some o → s'.heap.get? b = some o ∨ (b ∈ cs.map (·.2) ∧ ∃ more : Array Value, s'.heap.get? b = some { cls := .none, data := .fields more }) := fun b o e => by
      cases q : H b with
      | none => exact .inl (U.keep b o e q (fun z => absurd (show b ∈ ([] : List Addr) from z) (by simp)) (by simp))
      | some u =>
        rcases H4 b u q with ⟨hb, hu⟩ | ⟨hb, _, ob, xs, hu⟩
        · obtain ⟨more, z⟩ := U.tbls b #[] (by rw [q, hu])
          exact .inr ⟨hb, _, hok' b _ z⟩
        · rw [hu] at q
          obtain ⟨z1, _⟩ := H3 b _ q
          obtain ⟨z2, _⟩ := hok' b _ (U.frzs b ob _ q)
          rw [e] at z1
          cases z1
          exact .inl z2
    refine ⟨rfl, ⟨fun b o e => ?_, fun b o e => ?_⟩, os, bare⟩
    · rcases stays b o e with z | ⟨hb, more, z⟩
      · exact .inl z
      · rw [hT' b hb] at e
        cases e
        obtain ⟨p, hp, rfl⟩ := List.mem_map.mp hb
        exact .inr (.inl ⟨((C p hp).tab (hT p hp)).isCodeTable, rfl, #[], more, rfl, by rw [Array.empty_append]; exact z⟩)
    · rcases stays b o e with z | ⟨hb, more, z⟩
      · exact ⟨o, z⟩
      · exact ⟨_, z⟩

/-- the law's promise at the head's heap h -/
def LawG (l : PySem.W.OpenLaw) (w : World) (K : PySem.W.Frag) (CX : CXT) (k n : Nat) (x : Str) (mg : Str → Option Value) (fa : Addr) (h : Heap) : Prop :=
  ∃ (fd : FuncData) (cs : List (Addr × Addr)) (sp : Sp), (∀ p ∈ cs, h.get? p.2 = some { cls := .none, data := .fields #[] }) ∧ (∀ p ∈ cs, K.lookup p.2 = none) ∧ (∀ p ∈ cs, PySem.W.CodeHd h p.1 p.2) ∧ (∀ (s : Shared) (u : Value), BindsTo s fd ⟨[u], []⟩ [(x, u)]) ∧
    (∀ (H : Hp) (a : Addr) (ns : List Int), ns.length ≤ n → (∀ z ∈ ns, Builtin.Int.intBits z ≤ 1048576) → (∀ p ∈ cs, H p.2 = some (.tbl #[])) → SqL K H a (ns.map V.int) → sp [.ref a] H (fun v _ => v = .bl true) fun _ _ _ => False) ∧
    ∀ base : Heap, K.In base → base.Ns mainGlobals mg → (∀ p ∈ cs, LamX.TabB base mg p.1 p.2) → (base.get? sysModules).isSome = true → FnG l.prog w K mg base CX k fa fd [x] sp
/-- the def under the module's name x: its code object's table is empty -/
theorem tab_of {q : Program} {loose : List Str} {mean : ExcName → Option Value} {mg mb : Str → Option Value} {h : Heap} {K : PySem.W.Frag} {x : Str} {fx : Addr} (T : Top q loose mean mg mb h) (KX : K.In h) (hx : ((recsOf q).any fun e => e.name == x) = true) (hm : mg x = some (.ref fx)) : LamX.OwnTab K fx h := by
  intro c P o fd e dd vs sl k1 k2 k3 k4 k5
  obtain ⟨r, hr, hn⟩ := List.any_eq_true.mp hx
  obtain ⟨a', o', fd', c', P', h1, h2, h3, h4, h5, ⟨oc, vc, e1, _, e3, e4⟩, hP⟩ := T.tab r hr
  rw [beq_iff_eq.mp hn, hm] at h1
  cases h1
  rw [KX _ _ k1] at h2
  cases h2
  rw [k2] at h3
  cases h3
  rw [k3] at h4
  cases h4
  rw [KX _ _ k4] at e1
  cases e1
  cases e3
  rw [k5] at e4
  cases e4
  exact hP
theorem walk_G {l : PySem.W.OpenLaw} {n k : Nat} {q : Program} {loose : List Str} {XP : (Str → Option Value) → Heap → Prop} {YP : World → Heap → Prop} {d : DefRec} {K : Params → PySem.W.Frag} {CX : World → CXT} {x : Str}
    (hn : l.most = some n) (hn2 : n ≤ sizeLine) (hdf : d.params.defaults = []) (hr : Room k callerA) (him : importsNone q = true) (hY : ∀ (w : World) (h : Heap), YP w h → (K w.params).In h)
    (F : ∀ (w : World) (mg : Str → Option Value) (fa : Addr) (h : Heap), YP w h → (K w.params).In h → h.Ns mainGlobals mg → mg d.name = some (.ref fa) →
      (∀ (x : Str) (fx : Addr), ((recsOf q).any fun e => e.name == x) = true → mg x = some (.ref fx) → LamX.OwnTab (K w.params) fx h) → LawG l w (K w.params) (CX w) k n x mg fa h)
    (hCX : ∀ (w : World) (H : Hp) (s : Shared) (e : Value) (s' : Shared), CX w [] H s (fun _ _ _ => False) e s' → False) :
    PySem.W.WalkO q loose XP YP l.row.toRowW d [] (fun f vs => PySem.call f vs) := by
  refine Att.attach_callB hn hdf fun w s₀ s₁ mg mb fa o pm cd doc a vs ns G Y ho hd hcd hmg hobj hints hlen hbits hg => ?_
  have KX := hY w _ Y
  obtain ⟨fd, cs, sp, hT, nT, C, hb, hsp, hF⟩ := F w mg fa _ Y KX G.T.g hmg fun x fx z1 z2 => tab_of G.T KX z1 z2
  obtain ⟨mm, z, _⟩ := (G.T.seer him).mods
  exact top_call KX G.T.g G.T.b G.T.builtins G.T.nolimit hg hT nT C G.T.bmain hobj hints (Nat.le_trans hlen hn2) hr hF ⟨mm, z⟩ hb (fun H hH hS => hsp H a ns hlen hbits hH hS) fun H e s' => hCX w H s₁ e s'
end Ls
end
section
set_option Elab.async false
set_option linter.all false
set_option maxRecDepth 100000
set_option maxHeartbeats 4000000
namespace Ls
open PySem PySem.Spec PyProof.Rows L2

/-! ### a value as plain data; repr -/
mutual
inductive TV (H : Hp) : V → PyData → Prop
  | non : TV H .non .none
  | bl (b : Bool) : TV H (.bl b) (.bool b)
  | int (i : Int) : TV H (.int i) (.int i)
  | str (x : Str) : TV H (.str x) (.str x)
  | lst {a : Addr} {xs : List V} {ds : List PyData} (e : H a = some (.lst xs)) (h : TVs H xs ds) : TV H (.ref a) (.list ds)
  | tup {a : Addr} {xs : List V} {ds : List PyData} (e : H a = some (.tup xs)) (h : TVs H xs ds) : TV H (.ref a) (.tuple ds)
  | dct {a : Addr} {kvs : List (Key × V)} {ds : List (PyData × PyData)} (e : H a = some (.dK kvs)) (hk : TVs H (kvs.map fun p => kV p.1) (ds.map (·.1))) (hv : TVs H (kvs.map (·.2)) (ds.map (·.2))) : TV H (.ref a) (.dict ds)
inductive TVs (H : Hp) : List V → List PyData → Prop
  | nil : TVs H [] []
  | cons {v : V} {vs : List V} {d : PyData} {ds : List PyData} (h : TV H v d) (hs : TVs H vs ds) : TVs H (v :: vs) (d :: ds)
end
mutual
theorem TV.ext {H H' : Hp} (e : Ext H H') : ∀ {v : V} {d : PyData}, TV H v d → TV H' v d
  | _, _, .non => .non
  | _, _, .bl b => .bl b
  | _, _, .int i => .int i
  | _, _, .str x => .str x
  | _, _, .lst q h => .lst (e _ _ q) (h.ext e)
  | _, _, .tup q h => .tup (e _ _ q) (h.ext e)
  | _, _, .dct q h1 h2 => .dct (e _ _ q) (h1.ext e) (h2.ext e)
theorem TVs.ext {H H' : Hp} (e : Ext H H') : ∀ {vs : List V} {ds : List PyData}, TVs H vs ds → TVs H' vs ds
  | _, _, .nil => .nil
  | _, _, .cons h hs => .cons (h.ext e) (hs.ext e)
end
section
variable {X : Cx} {pins : List (Addr × Obj)} {σ : L2.St} {H : Hp} {s : Shared}
theorem pairs_keys {P : Program} {w : World} : ∀ {es : List DictEntry} {vs : List (Key × Value)} {kvs : List (Key × V)}, Pairs (mixKind P w) es vs → KV kvs vs → Vals (kvs.map fun p => kV p.1) (es.map (·.key)) ∧ Vals (kvs.map (·.2)) (es.map (·.val))
  | _, _, _, .nil, .nil => ⟨.nil, .nil⟩
  | _, _, _, .cons (kv := kv) h1 h2 h, .cons (a := q) ⟨e1, e2⟩ r => by
    obtain ⟨z1, z2⟩ := pairs_keys h r
    refine ⟨.cons ?_ z1, .cons (by dsimp only; rw [h2]; exact e2) z2⟩
    dsimp only
    rw [e1]
    rcases keyIs_shape h1 with ⟨i, t, ek, ev⟩ | ⟨x, t, ek, ev⟩
    · rw [ek, ev]
      exact ⟨t, rfl⟩
    · rw [ek, ev]
      exact ⟨t, rfl⟩
mutual
/-- what is told of a value as data is so in the heap; none of its lists and dicts is the table of modules -/
theorem reads_of (I : Inv X pins σ H s) (hs : H sysModules = none) : ∀ {v : V} {d : PyData} {u : Value}, TV H v d → RelV v u → ∃ as, Reads s.heap u d as ∧ sysModules ∉ as
  | _, _, _, .non, r => by
    cases r
    exact ⟨[], .none, by simp⟩
  | _, _, _, .bl b, r => by
    cases r
    exact ⟨[], .bool b, by simp⟩
  | _, _, _, .int i, r => by
    obtain ⟨t, rfl⟩ := r
    exact ⟨[], .int i t, by simp⟩
  | _, _, _, .str x, r => by
    obtain ⟨t, rfl⟩ := r
    exact ⟨[], .str x t, by simp⟩
  | .ref a, _, _, .lst e h, r => by
    cases r
    obtain ⟨_, its, n, rv, ho⟩ := (show ObjOk X.prog X.w H s.heap a (.lst _) from I.hok a _ e)
    obtain ⟨as, h1, h2⟩ := readsAll_of I hs h rv
    refine ⟨a :: as, .list ho rfl rfl (by simpa using h1), fun z => ?_⟩
    rcases List.mem_cons.mp z with z | z
    · rw [z, e] at hs
      cases hs
    · exact h2 z
  | .ref a, _, _, .tup e h, r => by
    cases r
    obtain ⟨_, its, rv, o, ho, hc, n, hd⟩ := (show ObjOk X.prog X.w H s.heap a (.tup _) from I.hok a _ e)
    obtain ⟨as, h1, h2⟩ := readsAll_of I hs h rv
    exact ⟨as, .tuple ho hc hd (by simpa using h1), h2⟩
  | .ref a, _, _, .dct e h1 h2, r => by
    cases r
    obtain ⟨_, _, vs, rk, o, es, ep, ho, hx, hd, _, hp, _⟩ := dk_of I.hok e
    obtain ⟨k1, k2⟩ := pairs_keys hp rk
    obtain ⟨as, a1, a2⟩ := readsAll_of I hs h1 k1
    obtain ⟨bs, b1, b2⟩ := readsAll_of I hs h2 k2
    refine ⟨a :: as ++ bs, .dict ho hx.1 hd a1 b1, fun z => ?_⟩
    rcases List.mem_append.mp z with z | z
    · rcases List.mem_cons.mp z with z | z
      · rw [z, e] at hs
        cases hs
      · exact a2 z
    · exact b2 z
theorem readsAll_of (I : Inv X pins σ H s) (hs : H sysModules = none) : ∀ {vs : List V} {ds : List PyData} {us : List Value}, TVs H vs ds → Vals vs us → ∃ as, ReadsAll s.heap us ds as ∧ sysModules ∉ as
  | _, _, _, .nil, .nil => ⟨[], .nil, by simp⟩
  | _, _, _, .cons h t, .cons r rs => by
    obtain ⟨as, a1, a2⟩ := reads_of I hs h r
    obtain ⟨bs, b1, b2⟩ := readsAll_of I hs t rs
    exact ⟨as ++ bs, .cons a1 b1, fun z => (List.mem_append.mp z).elim a2 b2⟩
end
end
/-- repr(x), x plain data -/
def rRepr : List V → Hp → VK → Prop := fun xs H Q => ∃ (v : V) (d : PyData), xs = [v] ∧ TV H v d ∧ d.showable = true ∧ d.depth ≤ 60 ∧ d.shown.length ≤ sizeLine ∧ Q (.str d.shown) H
theorem call_repr {X : Cx} {k : Nat} (hg : X.A.guards = some []) (hr : Room k X.A) (hb : (X.base.get? sysModules).isSome = true) : CallR X (.builtin "repr") rRepr := by
  intro pins s σ H xs us Q I r h
  obtain ⟨v, d, rfl, h, hs, hd, hz, q⟩ := h
  obtain ⟨u, rfl, rv⟩ := vals1 r
  have h0 : H sysModules = none := by
    obtain ⟨o, e⟩ := Option.isSome_iff_exists.mp hb
    exact (I.bs _ _ e).2
  cases h with
  | non =>
    cases rv
    exact PySem.P.repr_of_none ⟨.str _, H, I.tok _, ⟨_, rfl⟩, q⟩
  | bl b =>
    cases rv
    exact PySem.P.repr_of_bool ⟨.str _, H, I.tok _, ⟨_, rfl⟩, q⟩
  | int i =>
    obtain ⟨t, rfl⟩ := rv
    exact PySem.P.repr_of_int (of_decide_eq_true hs) ⟨.str _, H, I.tok _, ⟨_, rfl⟩, q⟩
  | str x =>
    obtain ⟨t, rfl⟩ := rv
    exact PySem.P.repr_of_str ⟨.str _, H, I.tok _, ⟨_, rfl⟩, q⟩ hz
  | lst e h =>
    obtain ⟨as, R, n⟩ := reads_of I h0 (.lst e h) rv
    cases rv
    exact repr_of_reads' R hs (fun _ => n) hg (by have := hr.units; omega) (fun _ _ z => z) (fun h' u tk k => ⟨.str _, H, I.kept (t' := tk) k, ⟨_, rfl⟩, q⟩) hz
  | tup e h =>
    obtain ⟨as, R, n⟩ := reads_of I h0 (.tup e h) rv
    cases rv
    exact repr_of_reads' R hs (fun _ => n) hg (by have := hr.units; omega) (fun _ _ z => z) (fun h' u tk k => ⟨.str _, H, I.kept (t' := tk) k, ⟨_, rfl⟩, q⟩) hz
  | dct e h1 h2 =>
    obtain ⟨as, R, n⟩ := reads_of I h0 (.dct e h1 h2) rv
    cases rv
    exact repr_of_reads' R hs (fun _ => n) hg (by have := hr.units; omega) (fun _ _ z => z) (fun h' u tk k => ⟨.str _, H, I.kept (t' := tk) k, ⟨_, rfl⟩, q⟩) hz
end Ls
end
section
set_option Elab.async false
set_option linter.all false
set_option maxRecDepth 100000
set_option maxHeartbeats 4000000
namespace Ls
open PySem PySem.Spec PyProof.Rows L2 LamX

/-! ### heard(lambda: ..): what is wished of an exception may hang on the hearer's slots -/
section
variable {X : Cx} {pins : List (Addr × Obj)} {σ : L2.St} {H : Hp} {s : Shared}
theorem pe_actS {CXg : CXT} {Eg : XK} {Ng : List Str} {qg : Str} {sg : Scope} {g f c' : Addr} {cdg pm ctv : Value} {params : Arguments} {body : PySem.Expr} {scope : Scope} {k i : Nat} {a : Str} {pn : List (Addr × Obj)} {xe : Value → Shared → Prop} {W : WX} {tb : XK → TE} {p1 p2 : Pos}
    (I : Inv X pins σ H s) (L : LamS X.env.scope scope) (hf : s.heap.get? f = some (PySem.W.kla_obj "<lambda>" (X.env.qual ++ "<lambda>") params body scope (cloFrom X.env.cells scope.names []) pm c' ctv)) (hfn : H f = none) (hfr : f ∉ frs X.stack)
    (hbind : bindArgs (PySem.W.kla_fn "<lambda>" (X.env.qual ++ "<lambda>") params body scope (cloFrom X.env.cells scope.names []) pm (.ref c') ctv) ⟨[], []⟩ = pure [])
    (tk : Takes ((cxOf CXg X.prog X.w X.K X.mg X.base Ng qg sg g cdg X.A X.stack s H Eg).tr pn xe) W) (hr : Room (k + 1) (X.A.deeper (envOfC qg sg s.heap.objs.size g cdg)))
    (hbody : ∀ (A : Around) (outer : List Env) (s : Shared) (H : Hp) (E : XK), Room k (A.deeper (lamEnv X scope s.heap.objs.size f c')) → PE (lamCx X A outer s H E scope f c') body (tb E))
    (hN : Ng[i]? = some a) (hv : Vis sg a) (hd : (a == ("__debug__" : Str)) = false := by decide) (hcd : (a == ("__classdict__" : Str)) = false := by decide) :
    PE ((cxOf CXg X.prog X.w X.K X.mg X.base Ng qg sg g cdg X.A X.stack s H Eg).tr pn xe) (.Call (.Name a p1) [] [] p2)
      (fun σZ HZ Q => σZ[i]? = some (some (.ref f)) ∧ HZ c' = some (CodeO c' (X.env.qual ++ "<lambda>")) ∧ tb (fun cls d H' => W cls d σZ H') σ HZ Q) := by
  refine ⟨fun pinsZ sZ σZ HZ Q IZ h => ?_⟩
  obtain ⟨hs, hc, ht⟩ := h
  -- the same with the wish at these very slots: the library's rule over a wish of its own
  refine wpAny_Call_Name_kw (thn ((pe_var (pos := p1) (i := i) hN hv hd hcd).run pinsZ sZ σZ HZ (fun v H1 => v = .ref f ∧ H1 = HZ) IZ ⟨.ref f, hs, rfl, rfl⟩) fun u s1 ⟨v, H1, I1, r1, q1⟩ => ?_)
  obtain ⟨ev, eH⟩ := q1
  subst ev
  rw [eH] at I1
  obtain rfl : u = Value.ref f := r1
  have of1 := I1.base.keep f _ hf hfn hfr (fun z => nomatch (show f ∈ ([] : List Addr) from z))
  refine PySem.W.callWith_F0 ⟨_, _, _, _, of1⟩ ?_
  have un : Un (frs X.stack) [] H HZ s.heap s1.heap := I1.base
  obtain ⟨⟨oc, vs, t, hoc, hdc, hvc⟩, _, _⟩ := I1.hok c' _ hc
  have rc : codeAny (model X.prog X.w) (X.A.deeper (envOfC qg sg s.heap.objs.size g cdg)) (.call (.ref f) ⟨[], []⟩) (CR (L2.CX X.prog X.w) (envOfC qg sg s.heap.objs.size g cdg :: X.stack) X.prog X.w HZ s1 Q (fun cls d H' => W cls d σZ H')) s1 := by
    refine PySem.W.kla_callFunE hr.depth of1 rfl L.co L.gen rfl ⟨c', oc, vs, t, rfl, hoc, hdc, hvc⟩ ?_
    rw [hbind]
    refine wpAny_pure (wpAny_newFunctionEnv (fun y hy => (L.own y hy).2) (fun y hy => absurd hy (by simp)) (fun h₁ hns hsb => ⟨I1.nolimit.fresh _ hsb, ?_⟩) L.kind)
    show codeAny _ _ (.expr body (lamEnv X scope s1.heap.objs.size f c')) _ _
    have J := lam_start2 (E := fun cls d H' => W cls d σZ H') (f := f) (c' := c') (tk := s1.toks + ([] : List (Str × Value)).length) I L I1.env0 hr.hd un hns fun b o e => hsb.extBut b o (Nat.ne_of_lt (Heap.lt_size e)) (Heap.get?_push_of_some _ e)
    refine PySem.W.kla_codeExpr (wpAny_mono ((hbody _ _ s1 HZ _ (hr.deeper _)).run [] _ _ HZ Q J ht) (fun v s' hq => ?_) fun e s' hq => hq)
    obtain ⟨w', H', J', rv, q⟩ := hq
    exact ⟨w', H', J'.os, J'.bare, J'.base, J'.hok, rv, q⟩
  refine wpAny_call (codeAny_mono rc fun r s' hq => ?_)
  match r, hq with
  | .error e, hq => exact tk e s' (XE.of_call I1 (fun cls d H' h => h) hq)
  | .ok (.ret u), hq => exact I1.after hq
end
/-- the def that calls what it got; TT: what it makes of the lambda's reading -/
def GivesP (P : Program) (w : World) (K : PySem.W.Frag) (mg : Str → Option Value) (base : Heap) (A : Around) (stack : List Env) (Ng : List Str) (x : Str) (sg : Scope) (g : Addr) (cdg : Value) (bg : List Stmt) (a : Str) (q : Str) (TT : (XK → Hp → VK → Prop) → Hp → VK → Prop) : Prop :=
  ∀ (f c' : Addr) (s : Shared) (H : Hp) (Q : VK) (tl : XK → Hp → VK → Prop),
    (∀ (W : WX) (pn : List (Addr × Obj)) (xe : Value → Shared → Prop) (p1 p2 : Pos), Takes ((cxOf C8.CX0 P w K mg base Ng x sg g cdg A stack s H C8.E0).tr pn xe) W →
      PE ((cxOf C8.CX0 P w K mg base Ng x sg g cdg A stack s H C8.E0).tr pn xe) (.Call (.Name a p1) [] [] p2) (fun σZ HZ Q => σZ[0]? = some (some (.ref f)) ∧ HZ c' = some (CodeO c' q) ∧ tl (fun cls d H' => W cls d σZ H') HZ Q)) →
    H c' = some (CodeO c' q) → TT tl H Q →
    ∃ t, PSs (cxOf C8.CX0 P w K mg base Ng x sg g cdg A stack s H C8.E0).nox bg t ∧ t { nx := fun _ H' => Q .non H', rt := Q } (L2.start Ng [.ref f]) H
def GivesS (X : Cx) (Ng : List Str) (x : Str) (sg : Scope) (g : Addr) (cdg : Value) (bg : List Stmt) (a : Str) (q : Str) (TT : (XK → Hp → VK → Prop) → Hp → VK → Prop) : Prop :=
  GivesP X.prog X.w X.K X.mg X.base X.A X.stack Ng x sg g cdg bg a q TT
section
variable {X : Cx}
/-- x(lambda: body) -/
theorem pe_lamS {T : List (Addr × Str)} {TT : (XK → Hp → VK → Prop) → Hp → VK → Prop} {x a : Str} {g c P : Addr} {k : Nat} {st : Stmt} {fd : FuncData} {Ng : List Str}
    {params : Arguments} {body : PySem.Expr} {scope : Scope} {t : XK → TE} {p lpos pos : Pos} (F : Fun X.K x x st g fd) (hg : Gl X x) (hm : X.mg x = some (.ref g))
    (hb : L2.Binds X.K fd [a] []) (Sg : FnScope Ng [a] (defScope st)) (hNg : Ng[0]? = some a) (hva : Vis (defScope st) a)
    (hG : ∀ cdv, GivesS X Ng x (defScope st) g cdv (defBody st) a (X.env.qual ++ "<lambda>") TT)
    (TB : TabB X.base X.mg c P) (hcode : X.env.code = .ref c) (hmT : (P, X.env.qual ++ "<lambda>") ∈ T) (hu : ∀ p ∈ T, p.1 = P → p.2 = X.env.qual ++ "<lambda>") (hr : Room (k + 2) X.A) (L : LamS X.env.scope scope) (hdef : defaultsOf params X.env = ([], []))
    (hbind : ∀ (q : Str) (cl : List (Str × Addr)) (pm cv ctv : Value), bindArgs (PySem.W.kla_fn "<lambda>" q params body scope cl pm cv ctv) ⟨[], []⟩ = pure [])
    (hbody : ∀ (A : Around) (outer : List Env) (s : Shared) (H : Hp) (E : XK) (f c' : Addr), Room k (A.deeper (lamEnv X scope s.heap.objs.size f c')) → PE (lamCx X A outer s H E scope f c') body (t E))
    (hdb : (x == ("__debug__" : Str)) = false := by decide) (hd : (a == ("__debug__" : Str)) = false := by decide) (hcd : (a == ("__classdict__" : Str)) = false := by decide) :
    PE X (.Call (.Name x p) [.Lambda params body scope lpos] [] pos) (tLam T TT t) := by
  obtain ⟨oc, od, kV, doc, pm, an, cdv, ct, osl, rfl, lk, hcg⟩ := F.ex
  refine ⟨fun pins s σ H Q I h => ?_⟩
  obtain ⟨hT, h⟩ := h
  refine wpAny_Call_Name_kw (ld_glob I hg hm ?_ hdb)
  refine PySem.W.callWith_K (h₀ := X.base) I.ok.mod.kin F.kp ?_ (by rfl) (by rfl)
  show wpAny _ _ (spliced ((false, eval (.Lambda params body scope lpos) X.env) :: backTo pos (starEach [] X.env))) _ _ s
  refine Calls.spliced_cons (lam_make2 I TB hcode hmT hu hT hdef (L.has I.ok) fun f c' pm' ctv H1 s' I1 eN T1 hf hfn hfr hco => Calls.spliced_nil ⟨I1.kIn, ?_⟩)
  have rc : codeAny (model X.prog X.w) X.A (.call (.ref g) ⟨[.ref f], []⟩) (CR C8.CX0 X.stack X.prog X.w H1 s' Q C8.E0) s' := by
    refine run_ofS (N := Ng) (ps := [a]) (us := [.ref f]) (vs := [.ref f]) lk hcg Sg hr I1.env0 (hb s' [.ref f] I1.kIn rfl) (.cons rfl .nil) rfl fun hr' => ?_
    obtain ⟨t', ht', hq'⟩ := hG cdv f c' s' H1 Q (fun E H' Q' => t E σ H' Q') (fun W pn xe p1 p2 tk => pe_actS (i := 0) I1 L hf hfn hfr (hbind _ _ _ _ _) tk hr' (fun A outer s H E hr2 => hbody A outer s H E f c' hr2) hNg hva hd hcd) hco (h H1 eN T1)
    exact ⟨t', ht'.nox, hq'⟩
  refine wpAny_call (codeAny_mono rc fun r s2 hq => ?_)
  match r, hq with
  | .error e, hq => exact (show False from hq).elim
  | .ok (.ret u), hq => exact I1.after hq
end
end Ls
end
section
set_option Elab.async false
set_option linter.all false
set_option maxRecDepth 100000
set_option maxHeartbeats 4000000
namespace Ls
open PySem PySem.Spec PyProof.Rows L2

theorem atI_at {α : Type} {xs : List α} {i : Int} {j : Nat} {v : α} (e : i = (j : Int)) (h : xs[j]? = some v) : atI xs i = some v := by
  rw [e]
  exact atI_nat h
theorem Paired.at_ {α β : Type} {F : α → β → Prop} : ∀ {l₁ : List α} {l₂ : List β} {i : Nat} {a : α}, Paired F l₁ l₂ → l₁[i]? = some a → ∃ b, l₂[i]? = some b ∧ F a b
  | _, _, _, _, .nil, h => by simp at h
  | _, _, 0, _, .cons r _, h => by simp at h; subst h; exact ⟨_, rfl, r⟩
  | _, _, i + 1, a, .cons _ t, h => by
    obtain ⟨b, h1, h2⟩ := Paired.at_ (i := i) (a := a) t (by simpa using h)
    exact ⟨b, by simpa using h1, h2⟩
theorem ext_free {H H' : Hp} (e : Ext H H') {a : Addr} (h : H' a = none) : H a = none := by
  cases q : H a with
  | none => rfl
  | some o => rw [e a o q] at h; cases h

/-! ### what is seen of a heap: without the places S, without the tables of code objects -/
def vis (S : List Addr) (H : Hp) : Hp := fun b => if b ∈ S then none else match H b with | some (.tbl _) => none | o => o
theorem vis_some {S : List Addr} {H : Hp} {b : Addr} {o : HO} (h : vis S H b = some o) : b ∉ S ∧ H b = some o ∧ ∀ ps, o ≠ .tbl ps := by
  unfold vis at h
  by_cases e : b ∈ S
  · rw [if_pos e] at h
    cases h
  · rw [if_neg e] at h
    cases q : H b with
    | none => rw [q] at h; cases h
    | some u =>
      rw [q] at h
      cases u <;> first | (cases h; done) | (cases h; exact ⟨e, rfl, fun ps z => nomatch z⟩)
theorem vis_at {S : List Addr} {H : Hp} {b : Addr} {o : HO} (h : b ∉ S) (q : H b = some o) (n : ∀ ps, o ≠ .tbl ps) : vis S H b = some o := by
  unfold vis
  rw [if_neg h, q]
  cases o <;> first | rfl | exact absurd rfl (n _)
theorem vis_ext {S : List Addr} {H : Hp} : Ext (vis S H) H := fun a o e => (vis_some e).2.1
theorem vis_mono {S : List Addr} {H H' : Hp} (e : Ext H H') : Ext (vis S H) (vis S H') := fun a o h => by
  obtain ⟨h1, h2, h3⟩ := vis_some h
  exact vis_at h1 (e a o h2) h3
theorem vis_keep {p c : Addr} {S : List Addr} {H H' : Hp} (k : Keep p c H H') (hp : p ∈ S) (hc : c ∈ S) : Ext (vis S H) (vis S H') := fun a o e => by
  obtain ⟨h1, h2, h3⟩ := vis_some e
  exact vis_at h1 (k a o h2 (fun z => h1 (by rw [z]; exact hp)) fun z => h1 (by rw [z]; exact hc)) h3
theorem vis_extN {S : List Addr} {H H' : Hp} (k : LamX.ExtN H H') : Ext (vis S H) (vis S H') := fun a o e => by
  obtain ⟨h1, h2, h3⟩ := vis_some e
  exact vis_at h1 (k a o h2 h3) h3
theorem vis_new {S : List Addr} {H H' : Hp} (h : ∀ b ∈ S, H b ≠ none) : ∀ {a : Addr} {o : HO}, nw H H' a = some o → (∀ ps, o ≠ .tbl ps) → vis S H' a = some o := fun {a o} e n => by
  obtain ⟨h1, h2⟩ := nw_some e
  exact vis_at (fun z => h a z h1) h2 n
theorem tabs_keep {T : List (Addr × Str)} {p c : Addr} {H H' : Hp} (t : LamX.Tabs T H) (k : Keep p c H H') {xs ys : List V} (hp : H p = some (.lst xs)) (hc : H c = some (.lst ys)) : LamX.Tabs T H' := fun q hq => by
  obtain ⟨ps, h1, h2, h3⟩ := t q hq
  have n : ∀ {b : Addr} {o : HO}, H b = some o → (∀ zs, o ≠ .lst zs) → H' b = some o := fun {b o} e n => k b o e (fun z => by
      rw [z, hp] at e
      exact n xs (Option.some.inj e).symm) fun z => by
      rw [z, hc] at e
      exact n ys (Option.some.inj e).symm
  refine ⟨ps, n h1 (fun zs z => by cases z), h2, fun pos cv hcv => ?_⟩
  obtain ⟨c', e1, e2⟩ := h3 pos cv hcv
  exact ⟨c', e1, n e2 (fun zs z => by unfold LamX.CodeO at z; cases z)⟩

theorem tabs_upd {T : List (Addr × Str)} {p : Addr} {H : Hp} {o : HO} (t : LamX.Tabs T H) {xs : List V} (hp : H p = some (.lst xs)) : LamX.Tabs T (upd H p o) := tabs_keep (c := p) t Keep.upd1 hp hp
theorem tabs_upd2 {T : List (Addr × Str)} {p : Addr} {H : Hp} {o : HO} (t : LamX.Tabs T H) {kvs : List (Key × V)} (hp : H p = some (.dK kvs)) : LamX.Tabs T (upd H p o) := fun q hq => by
  obtain ⟨ps, h1, h2, h3⟩ := t q hq
  refine ⟨ps, ?_, h2, fun pos cv hcv => ?_⟩
  · rw [upd_ne fun z => by rw [z, hp] at h1; cases h1]
    exact h1
  · obtain ⟨c', e1, e2⟩ := h3 pos cv hcv
    refine ⟨c', e1, ?_⟩
    rw [upd_ne fun z => by rw [z, hp] at e2; unfold LamX.CodeO at e2; cases e2]
    exact e2
/-! ### own errors with fields, by one word -/
/-- the __init__ of an error class at C that keeps its arguments under the names fs -/
def spX (C : Addr) (fs : List Str) : Sp := fun vs H Q _ => ∃ (a : Addr) (ys : List V), vs = .ref a :: ys ∧ ys.length = fs.length ∧ H a = some (exo a C none) ∧
  ∀ (dx : Addr) (H' : Hp), H dx = none → dx ≠ a → H' a = some (exo a C (some dx)) → H' dx = some (exd dx (fs.zip ys).reverse) → (∀ b, b ≠ a → b ≠ dx → H' b = H b) → Q .non H'
section
variable (P : Program) (w : World) (K : PySem.W.Frag) (mg : Str → Option Value) (base : Heap)
structure Xer (C : Addr) (x : Str) (fs : List Str) : Prop where
  m : mg x = some (.ref C)
  oex : OexC K C
  ex : ∃ fI fd ps, PySem.W.findIn K (.ref C) "__init__" = some (some (.ref fI)) ∧ PySem.W.typeIn K (.ref fI) = some (.type "function") ∧ FnOk P w K mg base CX0 1 fI fd ps (spX C fs) ∧ Binds K fd ps []
end
theorem pa_weak {X : Cx} {es : List PySem.Expr} {ta : TA} (h : PA X es ta) : PA X es (fun σ H Q => ∃ Q0 : List V → Hp → Prop, ta σ H Q0 ∧ ∀ ys H1, Q0 ys H1 → Q ys H1) :=
  ⟨fun pos pins s σ H Q I ⟨Q0, h0, k⟩ => thn (h.run pos pins s σ H Q0 I h0) fun us s1 ⟨vs, H1, I1, r, q⟩ => ⟨vs, H1, I1, r, k _ _ q⟩⟩
section
variable {X : Cx} {C : Addr} {x : Str} {fs : List Str} {p pos : Pos} {e : PySem.Expr} {es : List PySem.Expr} {ta : TA}
theorem pmk_err (c : Xer X.prog X.w X.K X.mg X.base C x fs) (hr : Room 2 X.A) (hg : Gl X x) (ha : PA X (e :: es) ta)
    (hdb : (x == ("__debug__" : Str)) = false := by decide) (he : starEach (e :: es) X.env = (false, eval e X.env) :: starEach es X.env := by rfl) (hpl : (backTo pos (starEach es X.env)).any (·.1) = false := by rfl) :
    PMk X (.Call (.Name x p) (e :: es) [] pos) (fun σ H Q => ta σ H fun ys H1 => ys.length = fs.length ∧ ys.length ≤ 1000 ∧ ∀ d, H1 d = none → Q (.ref C) (some d) (upd H1 d (.xd (fs.zip ys).reverse))) := by
  obtain ⟨fI, fd, ps, iC, tI, F, hb⟩ := c.ex
  have h := pmk_oex (dvs := []) (ds := []) (p := p) (pos := pos) c.oex iC tI F hr hb .nil pass0 hg c.m (pa_weak ha) hdb he hpl
  intro pins s σ H Q I hq
  refine h pins s σ H Q I ?_
  refine ⟨_, hq, fun ys H1 ⟨hl, hz, k⟩ => ?_⟩
  refine ⟨hz, fun a na => ⟨a, ys ++ [], by simp, by simpa using hl, upd_same, fun dx H2 n1 n2 h1 h2 h3 => ⟨rfl, dx, _, h1, h2, ?_, ?_⟩⟩⟩
  · rw [upd_ne n2] at n1
    exact n1
  · rw [upd_ne n2] at n1
    have eH : upd (del H2 a) dx (.xd (fs.zip (ys ++ [])).reverse) = upd H1 dx (.xd (fs.zip ys).reverse) := by
      rw [List.append_nil]
      funext b
      by_cases hb : b = dx
      · rw [hb, upd_same, upd_same]
      · rw [upd_ne hb, upd_ne hb]
        by_cases ha : b = a
        · rw [ha, del_same, na]
        · rw [del_ne ha, h3 b ha hb, upd_ne ha]
    rw [eH]
    exact k dx n1
end

/-! ### what passes on in a def's body, in a lambda's, in an __init__ that says super() -/
section
variable {P : Program} {w : World} {K : PySem.W.Frag} {mg : Str → Option Value} {base : Heap} {N : List Str} {qual : Str} {scope : Scope} {f cc : Addr} {cd : Value} {A : Around} {outer : List Env} {s : Shared} {H : Hp} {E : XK}
theorem tkC : Takes (cxOf (L2.CX P w) P w K mg base N qual scope f cd A outer s H E) (fun cls d _ H => E cls d H) := takes_of rfl rfl rfl rfl
theorem passC : Passes (L2.CX P w) (cxOf (L2.CX P w) P w K mg base N qual scope f cd A outer s H E) E := passes_call tkC fun _ _ _ _ h => h
theorem tkS : Takes (cxS (L2.CX P w) P w K mg base N qual scope f cd cc A outer s H E) (fun cls d _ H => E cls d H) := takes_of rfl rfl rfl rfl
theorem passS : Passes (L2.CX P w) (cxS (L2.CX P w) P w K mg base N qual scope f cd cc A outer s H E) E := passes_call tkS fun _ _ _ _ h => h
theorem passN {X : Cx} : Passes (L2.CX P w) X (fun _ _ _ => False) := fun _ _ _ _ _ _ _ h => by
  obtain ⟨_, _, _, _, _, _, _, _, _, _, _, _, z⟩ := h
  exact z.elim
theorem tkL {X : Cx} {c' : Addr} : Takes (LamX.lamCx X A outer s H E scope f c') (fun cls d _ H => E cls d H) := takes_of rfl rfl rfl rfl
theorem passLm {X : Cx} {c' : Addr} : Passes (L2.CX X.prog X.w) (LamX.lamCx X A outer s H E scope f c') E := passes_call tkL fun _ _ _ _ h => h
end
/-! ### plain data: its type, its truth as a name -/
def tyN : PyData → String
  | .none => "NoneType"
  | .bool _ => "bool"
  | .int _ => "int"
  | .str _ => "str"
  | .list _ => "list"
  | .tuple _ => "tuple"
  | .dict _ => "dict"
theorem tyX_of {K : PySem.W.Frag} {H : Hp} {v : V} {d : PyData} (h : TV H v d) : TyX K H v (.type (tyN d)) := by
  cases h with
  | non => exact .base .non
  | bl b => exact .base (.bl b)
  | int i => exact .base (.int i)
  | str x => exact .base (.str x)
  | lst e _ => exact .base (.lst e)
  | tup e _ => exact .base (.tup e)
  | dct e _ _ => exact .base (.dK e)
def isStrD : PyData → Bool
  | .str _ => true
  | _ => false
theorem kit_str {K : PySem.W.Frag} (d : PyData) : PySem.W.kitOne K (.type (tyN d)) (.type "str") = some (isStrD d) := by
  have k1 : kitB "NoneType" "str" = some false := by decide +kernel
  have k2 : kitB "bool" "str" = some false := by decide +kernel
  have k3 : kitB "int" "str" = some false := by decide +kernel
  have k4 : kitB "str" "str" = some true := by decide +kernel
  have k5 : kitB "list" "str" = some false := by decide +kernel
  have k6 : kitB "tuple" "str" = some false := by decide +kernel
  have k7 : kitB "dict" "str" = some false := by decide +kernel
  cases d <;> first | exact kit_ty k1 | exact kit_ty k2 | exact kit_ty k3 | exact kit_ty k4 | exact kit_ty k5 | exact kit_ty k6 | exact kit_ty k7
theorem strD {d : PyData} (h : isStrD d = true) : ∃ z, d = .str z := by
  cases d <;> first | exact ⟨_, rfl⟩ | cases h
theorem tv_str {H : Hp} {v : V} {z : Str} (h : TV H v (.str z)) : v = .str z := by
  cases h
  rfl
/-- texts within are short -/
def SmD (d : PyData) : Prop := ∀ z, d = .str z → z.length ≤ 1000
/-- a def that closes over __class__ -/
structure FunS (K : PySem.W.Frag) (x qual : Str) (st : Stmt) (f : Addr) (fd : FuncData) (cda cc : Addr) : Prop where
  ex : ∃ (oc : Value) (od : Option Addr) (kV doc pm : Value) (an : Option Addr) (ct : Value) (osl : Array (Option Value)),
    fd = PySem.W.ksFn x qual (defArgs st) (defBody st) (defScope st) .none kV doc pm an (.ref cda) ct cc ∧ K.lookup f = some ⟨oc, od, .func fd, osl⟩ ∧ PySem.W.codeIn K (.ref cda) qual = true
  kp : PySem.W.keepIn K (.ref f) = true

/-! ### a comprehension that makes one item a turn; what is kept may hang on the turn -/
section
variable {J : It} {n : Nat} {G : Hp → Prop} {Y : Nat → Hp → V → Hp → Prop} {g : TG} {te : TE} {vs : List Nat} {σ : L2.St} {H1 : Hp} {D : Addr} {Qd : Hp → Prop}
theorem lc_mapI (w : Walk J n G Y) (S : List Addr) (hS : D ∈ S) (Iv : Nat → Hp → Prop) (R : Nat → V → Hp → Prop) (hn : n ≤ 100000) (hm : ∀ j y H H', Ext H H' → R j y H → R j y H')
    (hIv : ∀ i H o, Iv i H → Iv i (upd H D o)) (h0 : Iv 0 (upd H1 D (.lst []))) (hG : ∀ i H, Ext (hid S H1) (hid S H) → Iv i H → G H)
    (hs : ∀ i x H H' acc (C : VK), i < n → Ext (hid S H1) (hid S H) → Iv i H → H D = some (.lst acc) → Y i H x H' → (∀ y H4, H4 D = some (.lst acc) → Ext (hid S H) (hid S H4) → Iv (i + 1) H4 → R i y (hid S H4) → C y H4) →
      g x (wipe σ vs) H' fun σ2 H2 => wipe σ2 vs = wipe σ vs ∧ te σ2 H2 C)
    (hd : ∀ H ys, Ext (hid S H1) (hid S H) → Iv n H → H D = some (.lst ys) → ys.length = n → (∀ j y, ys[j]? = some y → R j y (hid S H)) → Qd H) :
    ∃ W : Nat → Nat → Hp → Prop, (∃ m, W 0 m (upd H1 D (.lst []))) ∧ ∀ i m H, W i m H →
      (J.stop i H ∧ Qd H) ∨ (J.go i H ∧ ∃ Nx : Hp → Prop, (∀ H', Nx H' → ∃ m', m' < m ∧ W (i + 1) m' H') ∧ ∀ x H', J.yld i H x H' → g x (wipe σ vs) H' fun σ2 H2 => wipe σ2 vs = wipe σ vs ∧ tYes σ2 H2 fun b H3 =>
        if b = true then te σ2 H3 fun y H4 => ∃ acc, H4 D = some (.lst acc) ∧ acc.length < sizeLine ∧ Nx (upd H4 D (.lst (acc ++ [y]))) else Nx H3) := by
  refine lc_it w (fun i H => ∃ ys : List V, H D = some (.lst ys) ∧ ys.length = i ∧ Ext (hid S H1) (hid S H) ∧ Iv i H ∧ ∀ j y, ys[j]? = some y → R j y (hid S H))
    ⟨[], upd_same, rfl, by rw [hid_upd hS]; exact Ext.rfl', h0, fun j y e => by simp at e⟩ (fun i H _ ⟨_, _, _, e, iv, _⟩ => hG i H e iv) ?_ ?_
  · rintro i x H H' hi ⟨ys, hD, hl, e, iv, r⟩ y
    refine hs i x H H' ys _ hi e iv hD y fun v H4 h4 e4 iv4 r4 => ?_
    refine ⟨ys, h4, Nat.lt_of_le_of_lt (show ys.length ≤ 100000 by omega) (by decide), ys ++ [v], upd_same, by rw [List.length_append, hl]; rfl, by rw [hid_upd hS]; exact e.trans e4, hIv _ _ _ iv4, fun j z hz => ?_⟩
    rw [hid_upd hS]
    by_cases hj : j < ys.length
    · rw [List.getElem?_append_left hj] at hz
      exact hm j z _ _ e4 (r j z hz)
    · rw [List.getElem?_append_right (by omega)] at hz
      have : j = i := by
        cases q : j - ys.length with
        | zero => omega
        | succ k => rw [q] at hz; simp at hz
      subst this
      rw [hl] at hz
      simp at hz
      subst hz
      exact r4
  · rintro H ⟨ys, hD, hl, e, iv, r⟩
    exact hd H ys e iv hD hl r
end

/-! ### C.m(a = v), m a classmethod -/
section
variable (P : Program) (w : World) (K : PySem.W.Frag) (mg : Str → Option Value) (base : Heap) (CX : CXT) (k : Nat)
structure ClmK (C : Addr) (m a : Str) (sp : Sp) : Prop where
  ex : ∃ mc p g fd c, ClX.CRead K C mc ∧ ClX.CMet K C mc m p g ∧ FnOk P w K mg base CX k g fd [c, a] sp ∧ ∀ (s : Shared) (u : Value), BindsTo s fd ⟨[.ref C], [(a, u)]⟩ [(c, .ref C), (a, u)]
end
section
variable {X : Cx} {CX : CXT} {k : Nat} {C : Addr} {sp : Sp} {E : XK} {m a : Str} {pos apos : Pos} {o : PySem.Expr} {kws : List Keyword} {ta : TE} {tk : TA} {pl : Sem Bool}
theorem pe_clmk (c : ClmK X.prog X.w X.K X.mg X.base CX k C m a sp) (hr : Room k X.A) (ho : PE X o ta) (hx : Passes CX X E) (hkw : PK X kws tk)
    (hall : (backToKw pos (keywordEach kws X.env)).all (·.1.isSome) = true := by rfl) (hks : (backToKw pos (keywordEach kws X.env)).filterMap (·.1) = [a] := by rfl)
    (hpl : ((backTo pos (starEach [] X.env)).any (·.1) || (backToKw pos (keywordEach kws X.env)).any (·.1.isNone)) = false := by rfl)
    (ht : eval (.Call (.Attribute o m apos) [] kws pos) X.env = (do
      let ov ← eval o X.env
      standAt apos.atName
      let (f, first) ← holding [ov] (getMethod ov m pl)
      callWith pos f first (backTo pos (starEach [] X.env)) (backToKw pos (keywordEach kws X.env))) := by rfl) :
    PE X (.Call (.Attribute o m apos) [] kws pos) (fun σ H Q => ta σ H fun x H1 => x = .ref C ∧ tk σ H1 fun zs H2 => ∃ z, zs = [z] ∧ sp [.ref C, z] H2 Q E) := by
  obtain ⟨mc, p, g, fd, cn, r, c, F, hb⟩ := c.ex
  refine ⟨fun pins s σ H Q I h => ?_⟩
  refine PySem.W.methodCall_KW (pl := pl) (thn (ho.run pins s σ H _ I h) fun u s1 ⟨x, H1, I1, rx, ex, q⟩ => ?_) ht
  subst ex
  obtain rfl : u = Value.ref C := rx
  refine ClX.getmethcm_ok I1 r c fun s2 I2 => ?_
  refine PySem.W.callWith_of (P := PySem.W.MethP X.K s1.heap.objs.size g (.ref C)) hpl (PySem.W.keeps_M c.fi) (evalArgs_kw2_nil hall ?_)
  refine thn (hkw.run pos _ s2 σ H1 _ I2 q) fun ws s3 ⟨zs, H2, I3, rz, z, ez, q3⟩ => ?_
  subst ez
  refine ⟨⟨ClX.pin_at I3, I3.kIn⟩, ?_⟩
  rw [hks]
  obtain ⟨u, rfl, ru⟩ := vals1 rz
  have r2 : Vals [V.ref C, z] [Value.ref C, u] := .cons rfl (.cons ru .nil)
  have run := F.run X.A X.stack s3 H2 ⟨[.ref C], [(a, u)]⟩ [.ref C, u] [.ref C, z] Q E hr I3.env0 (hb s3 u) r2 q3
  have z2 : wpAny (model X.prog X.w) X.A (call (.ref s1.heap.objs.size) [] [(a, u)]) (EP X ((s1.heap.objs.size, PySem.W.methodObj (.ref g) (.ref C)) :: pins) σ Q) X.xe s3 := by
    refine wpAny_call (PySem.W.method_call (ClX.pin_at I3) (codeAny_mono run fun res s' hq => ?_))
    match res, hq with
    | .error e, hq => exact hx _ σ H2 s3 e s' I3 hq
    | .ok (.ret u), hq => exact I3.after hq
  exact thn z2 fun _ _ y => ClX.unpinE y
end

mutual
theorem tv_vis {H : Hp} : ∀ {v : V} {d : PyData}, TV H v d → TV (vis [] H) v d
  | _, _, .non => .non
  | _, _, .bl b => .bl b
  | _, _, .int i => .int i
  | _, _, .str x => .str x
  | _, _, .lst q h => .lst (vis_at (by simp) q fun _ z => by cases z) (tvs_vis h)
  | _, _, .tup q h => .tup (vis_at (by simp) q fun _ z => by cases z) (tvs_vis h)
  | _, _, .dct q h1 h2 => .dct (vis_at (by simp) q fun _ z => by cases z) (tvs_vis h1) (tvs_vis h2)
theorem tvs_vis {H : Hp} : ∀ {vs : List V} {ds : List PyData}, TVs H vs ds → TVs (vis [] H) vs ds
  | _, _, .nil => .nil
  | _, _, .cons h hs => .cons (tv_vis h) (tvs_vis hs)
end
end Ls
end
section
set_option Elab.async false
set_option linter.all false
set_option maxRecDepth 100000
set_option maxHeartbeats 4000000
namespace Ls
open PySem PySem.Spec PyProof.Rows L2

/-! ### x == y and x != y by an own __eq__, both answers, y of any kind -/
namespace OW
open PySem.W
section
variable {prog : Program} {w : World} {A : Around} {E : Value → Shared → Prop} {s : Shared} {K : Frag} {x C f : Addr} {ox : Obj} {od : Option Obj} {b tb : Value}
theorem ifBound_B {M : Model} {id : String} {name : Str} {args : List Value} {Q : Option Value → Shared → Prop} (X : K.In s.heap) (I : InstAt s.heap x ox C od) (hs : findIn K (.ref C) name = some (some (.builtin id))) (hb : bindSpecial (.builtin id) (.ref x) = pure (.builtin id, [.ref x]))
    (h : wpAny M A (call (.builtin id) (.ref x :: args)) (fun v => Q (some v)) E s) : wpAny M A (callSpecialIfBound? (.ref x) name args) Q E s := by
  simp only [callSpecialIfBound?, bindSpecialIfBound?]
  refine wpAny_holding (wpAny_bind (wpAny_bind (wpAny_bind (I.type.here ((looks_findIn X hs).here ?_)))))
  refine wpAny_bind (wpAny_askSetting (wpAny_ite ?_))
  have last : wpAny M A (call (.builtin id) ([.ref x] ++ args) >>= fun v => pure (some v)) Q E s := wpAny_bind (wpAny_mono h (fun v s' h' => wpAny_pure h') fun _ _ h' => h')
  split
  · exact wpAny_bind (wpAny_of_eq hb (wpAny_pure (by exact last)))
  · exact wpAny_tryCatch (wpAny_bind (wpAny_of_eq hb (wpAny_pure (by exact last))))
theorem ne_body {Q : Fin → Shared → Prop} (hu : A.units < cLine) (X : K.In s.heap) (I : InstAt s.heap x ox C od) (hs : findIn K (.ref C) "__eq__" = some (some (.ref f))) (hf : isFn K (.ref f) = true)
    (h : wpAny (model prog w) A (call (.ref f) [.ref x, b]) (fun v s' => ∃ r, v = .bool r ∧ Q (.done (.ret (.bool (!r)))) s') E s) : wpAny (model prog w) A (Builtin.«object.__ne__» ⟨[.ref x, b], []⟩) Q E s := by
  unfold Builtin.«object.__ne__»
  refine wpAny_bind (wpAny_of_eq (a := ((Value.ref x : Value), [b])) (by first | rfl | (simp only [slotArgs]; rfl)) ?_)
  refine wpAny_bind (wpAny_cRoomFor hu ?_)
  refine wpAny_bind (ifBound_K X I hs hf (wpAny_mono h (fun v s' hv => ?_) fun _ _ e => e))
  obtain ⟨r, rfl, q⟩ := hv
  exact wpAny_bind (wpAny_truthy_bool (wpAny_pure q))
theorem rich_ne {L : Addr} {h₀ : Heap} {m : Str → Option Value} {Q : Value → Shared → Prop} (hu : A.units + 1 < cLine) (F : Fr h₀ L s.heap m) (X₀ : K.In h₀) (I : InstAt s.heap x ox C od) (ht : Looks (model prog w) s.heap (typeOf b) tb) (hn : notFirst K C tb = true)
    (hs : findIn K (.ref C) "__eq__" = some (some (.ref f))) (hf : isFn K (.ref f) = true) (hne : findIn K (.ref C) "__ne__" = some (some (.builtin "object.__ne__"))) (hm : mroIn K C (.type "object") = some true)
    (h : wpAny (model prog w) A.in1 (call (.ref f) [.ref x, b]) (fun v s' => ∃ r, v = .bool r ∧ Q (.bool (!r)) s') E s) : wpAny (model prog w) A (richCompare .NotEq (.ref x) b) Q E s := by
  have X := X₀.keeps F.keep
  have sub : Looks (model prog w) s.heap (isInstance (.ref x) (.type "object")) true := I.type.andThen (looks_mroIn X hm)
  have bd : bindSpecial (.builtin "object.__ne__") (.ref x) = pure (.builtin "object.__ne__", [.ref x]) := PySem.F.cmp_object.ne.bind _
  have one : wpAny (model prog w) A (tryCompare (.ref x) "__ne__" b) (fun r s' => ∃ v, r = some (.bool v) ∧ Q (.bool v) s') E s := by
    unfold tryCompare
    refine wpAny_bind (ifBound_B X I hne bd ?_)
    obtain ⟨hp, g, d, t, os⟩ := s
    refine wpAny_call (codeAny_call_builtin PySem.F.cmp_object.ne.plain PySem.F.cmpEntry_ne (@check_slot (model prog w) _ _ ⟨hp, g, d, t, os⟩ "object.__ne__" "object" "__ne__" (.ref x) [b] [] _ PySem.F.cmpKind_ne PySem.F.cmpSplit_ne sub (PySem.F.cmpArgs_ne _ _) ?_))
    refine ne_body (A := A.in1) hu X I hs hf (wpAny_mono h (fun v s' hv => ?_) fun _ _ e => e)
    obtain ⟨r, rfl, q⟩ := hv
    exact ⟨r, rfl, wpAny_pure ⟨_, rfl, q⟩⟩
  unfold richCompare
  simp only [oneThing_ref]
  refine wpAny_holding (wpAny_bind (wpAny_cRoomFor (by omega) (wpAny_bind (I.type.here (wpAny_bind (ht.here ?_))))))
  split
  · rename_i q
    have e : subIn K tb (.ref C) = some false := by
      rcases Bool.or_eq_true_iff.mp hn with e | e
      · rw [beq_iff_eq.mp e] at q
        simp at q
      · exact beq_iff_eq.mp e
    refine wpAny_bind ((looks_subIn X e).here ?_)
    simp only [Bool.false_eq_true, if_false]
    refine wpAny_bind (wpAny_mono one (fun r s' z => ?_) fun _ _ e => e)
    obtain ⟨v, rfl, hq⟩ := z
    exact wpAny_pure hq
  · refine wpAny_bind (wpAny_pure ?_)
    simp only [Bool.false_eq_true, if_false]
    refine wpAny_bind (wpAny_mono one (fun r s' z => ?_) fun _ _ e => e)
    obtain ⟨v, rfl, hq⟩ := z
    exact wpAny_pure hq
end
end OW
/-- x == y: x an instance, its class's own __eq__ at f keeps sp -/
def rEqO (K : PySem.W.Frag) (f : Addr) (sp : Sp) (E : XK) : R2 := fun x y H Q => ∃ (a C dx : Addr) (fs : List (Str × V)) (tb : Value), x = .ref a ∧ H a = some (.ins C dx fs) ∧ PySem.W.findIn K (.ref C) "__eq__" = some (some (.ref f)) ∧ TyX K H y tb ∧ PySem.W.notFirst K C tb = true ∧
  sp [x, y] H (fun v H' => ∃ r, v = .bl r ∧ Q (.bl r) H') E
def rNeO (K : PySem.W.Frag) (f : Addr) (sp : Sp) (E : XK) : R2 := fun x y H Q => ∃ (a C dx : Addr) (fs : List (Str × V)) (tb : Value), x = .ref a ∧ H a = some (.ins C dx fs) ∧ PySem.W.findIn K (.ref C) "__eq__" = some (some (.ref f)) ∧ PySem.W.findIn K (.ref C) "__ne__" = some (some (.builtin "object.__ne__")) ∧ PySem.W.mroIn K C (.type "object") = some true ∧
  TyX K H y tb ∧ PySem.W.notFirst K C tb = true ∧ sp [x, y] H (fun v H' => ∃ r, v = .bl r ∧ Q (.bl (!r)) H') E
section
variable {X : Cx} {CX : CXT} {n : Nat} {f : Addr} {sp : Sp} {E : XK}
theorem op_eqO (F : FnR X.prog X.w X.K X.mg X.base CX n f sp) (hf : PySem.W.isFn X.K (.ref f) = true) (hr : Room n X.A) (hx : Passes CX X E) : OpR X (compareOp .Eq) (rEqO X.K f sp E) := by
  intro pins s σ H x y v u Q I rx ry h
  obtain ⟨a, C, dx, fs, tb, rfl, ha, hs, ty, hn, q⟩ := h
  cases (show v = Value.ref a from rx)
  obtain ⟨mA, J, _⟩ := ins_get I.hok ha
  obtain ⟨od, J, _⟩ := J.look
  obtain ⟨m, hF⟩ := I.fr
  obtain ⟨P, Z, p, _⟩ := kit_of I ry ty
  show wpAny (model X.prog X.w) X.A (richCompare .Eq (.ref a) u) (EP X pins σ Q) X.xe s
  refine PySem.W.cmp_K (op := .Eq) hr.units0 hF I.ok.mod.kin J (Z.ty _ _ I.kIn p) hn hs hf ?_
  have r2 : Vals [V.ref a, y] [Value.ref a, u] := .cons rfl (.cons ry .nil)
  refine thn (wpAny_call (run_fnR F hr hx I r2 q)) fun w' s' ⟨z, H', I', rz, r, ez, q'⟩ => ?_
  subst ez
  cases rz
  exact ⟨.bl r, H', I', rfl, q'⟩
theorem op_neO (F : FnR X.prog X.w X.K X.mg X.base CX n f sp) (hf : PySem.W.isFn X.K (.ref f) = true) (hr : Room (n + 1) X.A) (hx : ∀ (pins : List (Addr × Obj)) (σ : L2.St) (H : Hp) (s : Shared) (e : Value) (s' : Shared), Inv X pins σ H s → CX X.stack H s E e s' → X.xe e s') : OpR X (compareOp .NotEq) (rNeO X.K f sp E) := by
  intro pins s σ H x y v u Q I rx ry h
  obtain ⟨a, C, dx, fs, tb, rfl, ha, hs, hne, hm, ty, hn, q⟩ := h
  cases (show v = Value.ref a from rx)
  obtain ⟨mA, J, _⟩ := ins_get I.hok ha
  obtain ⟨od, J, _⟩ := J.look
  obtain ⟨m, hF⟩ := I.fr
  obtain ⟨P, Z, p, _⟩ := kit_of I ry ty
  show wpAny (model X.prog X.w) X.A (richCompare .NotEq (.ref a) u) (EP X pins σ Q) X.xe s
  refine OW.rich_ne (by have := hr.units; omega) hF I.ok.mod.kin J (Z.ty _ _ I.kIn p) hn hs hf hne hm ?_
  refine wpAny_call (codeAny_mono (F X.A.in1 X.stack s H [.ref a, u] [.ref a, y] _ E hr.in1 I.env0.in1 (.cons rfl (.cons ry .nil)) q) fun r s' hq => ?_)
  match r, hq with
  | .error e, hq => exact hx pins σ H s e s' I hq
  | .ok (.ret w'), hq =>
    obtain ⟨z, H', I', rz, r, ez, q'⟩ := I.after hq
    subst ez
    cases rz
    exact ⟨r, rfl, .bl (!r), H', I', rfl, q'⟩
end

/-! ### the same, the written part by its own name (for a block) -/
section
variable {X : Cx} {P : Program} {w : World} {K : PySem.W.Frag} {mg : Str → Option Value} {base : Heap} {CX : CXT} {n : Nat} {f : Addr} {sp : Sp} {E : XK} {A : Around}
theorem op_eqOK (F : FnR P w K mg base CX n f sp) (hf : PySem.W.isFn K (.ref f) = true) (hr : Room n A) (hP : X.prog = P) (hw : X.w = w) (hK : X.K = K) (hmg : X.mg = mg) (hb : X.base = base) (hA : X.A = A) (hx : Passes CX X E) : OpR X (compareOp .Eq) (rEqO K f sp E) := by
  subst hP hw hK hmg hb hA
  exact op_eqO F hf hr hx
theorem ix_listK (hK : X.K = K) : IxR X (rIxL K) := by
  subst hK
  exact ix_list
end
end Ls
end
section
set_option Elab.async false
set_option linter.all false
set_option maxRecDepth 100000
set_option maxHeartbeats 4000000
namespace Ls
open PySem PySem.Spec PyProof.Rows L2
open TL
/-! ### a text cut at one sign -/
theorem pre1 (s c : Nat) (r : List Nat) : pre [s] (c :: r) = decide (c = s) := by
  show ((c :: r).take 1 == [s]) = _
  by_cases h : c = s
  · subst h
    simp
  · have : ¬ [c] = [s] := fun e => h (List.cons.inj e).1
    simp [h]
theorem spl1_ne (s : Nat) : ∀ (l acc : List Nat), spl [s] 0 acc l ≠ []
  | [], acc => by rw [spl_nil]; simp
  | c :: r, acc => by
    by_cases h : c = s
    · rw [spl_hit (by rw [pre1, decide_eq_true h])]
      simp
    · rw [spl_miss (by rw [pre1, decide_eq_false h])]
      exact spl1_ne s r _
theorem joinL_cons (S a : List Nat) : ∀ {l : List (List Nat)}, l ≠ [] → joinL S (a :: l) = a ++ (S ++ joinL S l)
  | [], h => absurd rfl h
  | b :: r, _ => rfl
theorem spl1_join (s : Nat) : ∀ (l acc : List Nat), joinL [s] (spl [s] 0 acc l) = acc ++ l
  | [], acc => by
    rw [spl_nil, List.append_nil]
    rfl
  | c :: r, acc => by
    by_cases h : c = s
    · rw [spl_hit (by rw [pre1, decide_eq_true h])]
      show joinL [s] (acc :: spl [s] 0 [] r) = _
      rw [joinL_cons _ _ (spl1_ne s r []), spl1_join s r []]
      subst h
      simp
    · rw [spl_miss (by rw [pre1, decide_eq_false h]), spl1_join s r (acc ++ [c])]
      simp
theorem spl1_free (s : Nat) : ∀ (l acc : List Nat), s ∉ acc → ∀ p ∈ spl [s] 0 acc l, s ∉ p
  | [], acc, ha, p, hp => by
    rw [spl_nil] at hp
    rw [List.mem_singleton.mp hp]
    exact ha
  | c :: r, acc, ha, p, hp => by
    by_cases h : c = s
    · rw [spl_hit (by rw [pre1, decide_eq_true h])] at hp
      rcases List.mem_cons.mp hp with e | e
      · rw [e]
        exact ha
      · exact spl1_free s r [] (by simp) p e
    · rw [spl_miss (by rw [pre1, decide_eq_false h])] at hp
      exact spl1_free s r _ (by simp [ha, Ne.symm h]) p hp
theorem spl1_sub (s : Nat) : ∀ (l acc : List Nat), ∀ p ∈ spl [s] 0 acc l, p.length ≤ acc.length + l.length ∧ ∀ c ∈ p, c ∈ acc ∨ c ∈ l
  | [], acc, p, hp => by
    rw [spl_nil] at hp
    rw [List.mem_singleton.mp hp]
    exact ⟨Nat.le_refl _, fun c h => .inl h⟩
  | c :: r, acc, p, hp => by
    by_cases h : c = s
    · rw [spl_hit (by rw [pre1, decide_eq_true h])] at hp
      rcases List.mem_cons.mp hp with e | e
      · rw [e]
        exact ⟨by omega, fun c h => .inl h⟩
      · obtain ⟨h1, h2⟩ := spl1_sub s r [] p e
        refine ⟨by simp at h1 ⊢; omega, fun c h => (h2 c h).elim (fun z => absurd z (by simp)) fun z => .inr (by simp [z])⟩
    · rw [spl_miss (by rw [pre1, decide_eq_false h])] at hp
      obtain ⟨h1, h2⟩ := spl1_sub s r _ p hp
      refine ⟨by simp at h1 ⊢; omega, fun c' h => (h2 c' h).elim (fun z => ?_) fun z => .inr (by simp [z])⟩
      rcases List.mem_append.mp z with z | z
      · exact .inl z
      · exact .inr (by simp at z; simp [z])
section
variable {x y : Str} {s : Nat}
theorem split_tl (ey : tl y = [s]) (hk : y.cps.all (· < 256) = true) : (Txt.split x y).map tl = spl [s] 0 [] (tl x) := by
  rw [split_spl x y (by rw [ey]; simp) (kind_ok hk), ey]
theorem split_back (ey : tl y = [s]) (hk : y.cps.all (· < 256) = true) : Txt.join y (Txt.split x y) = x := by
  refine ext_tl ?_
  rw [join_eq, tl_join, ey, split_tl ey hk, spl1_join]
  rfl
theorem split_free (ey : tl y = [s]) (hk : y.cps.all (· < 256) = true) {p : Str} (hp : p ∈ Txt.split x y) : s ∉ tl p := by
  have h : tl p ∈ (Txt.split x y).map tl := List.mem_map.mpr ⟨p, hp, rfl⟩
  rw [split_tl ey hk] at h
  exact spl1_free s _ _ (by simp) _ h
theorem split_sub (ey : tl y = [s]) (hk : y.cps.all (· < 256) = true) {p : Str} (hp : p ∈ Txt.split x y) : p.length ≤ x.length ∧ ∀ c ∈ tl p, c ∈ tl x := by
  have h : tl p ∈ (Txt.split x y).map tl := List.mem_map.mpr ⟨p, hp, rfl⟩
  rw [split_tl ey hk] at h
  obtain ⟨h1, h2⟩ := spl1_sub s _ _ _ h
  refine ⟨?_, fun c hc => (h2 c hc).elim (fun z => absurd z (by simp)) fun z => z⟩
  rw [len_tl p, len_tl x]
  simpa using h1
theorem split_ne (ey : tl y = [s]) (hk : y.cps.all (· < 256) = true) : Txt.split x y ≠ [] := fun e => by
  have h := split_tl (x := x) ey hk
  rw [e] at h
  exact spl1_ne s _ _ h.symm
end
theorem sp_tl : tl (" " : Str) = [32] := by decide +kernel
theorem sp_kd : (" " : Str).cps.all (· < 256) = true := by decide +kernel
theorem split2 {z a b : Str} (h : Txt.split z " " = [a, b]) : z = a ++ " " ++ b := by
  have e := split_back (x := z) sp_tl sp_kd
  rw [h, join_eq] at e
  exact e.symm
theorem split_two {a b : Str} (ha : (32 : Nat) ∉ tl a) (hb : (32 : Nat) ∉ tl b) : Txt.split (a ++ " " ++ b) " " = [a, b] := by
  have e : a ++ " " ++ b = Txt.join " " [a, b] := by rw [join_eq]; rfl
  rw [e]
  exact split_join sp_tl sp_kd (by simp) (by
    intro p hp
    rcases List.mem_cons.mp hp with rfl | hp
    · exact ha
    · rw [List.mem_singleton.mp hp]; exact hb)
/-! ### short texts of plain signs -/
def OkS (n : Nat) (z : Str) : Prop := z.length ≤ n ∧ ∀ c ∈ tl z, c < 256
theorem OkS.mono {n m : Nat} {z : Str} (h : OkS n z) (l : n ≤ m) : OkS m z := ⟨Nat.le_trans h.1 l, h.2⟩
theorem OkS.append {n m : Nat} {a b : Str} (h : OkS n a) (k : OkS m b) : OkS (n + m) (a ++ b) := ⟨by
  rw [Str.length_append]
  exact Nat.add_le_add h.1 k.1, fun c hc => by
  rw [tl_append] at hc
  rcases List.mem_append.mp hc with hc | hc
  · exact h.2 c hc
  · exact k.2 c hc⟩
theorem OkS.part {n : Nat} {x y p : Str} {s : Nat} (h : OkS n x) (ey : tl y = [s]) (hk : y.cps.all (· < 256) = true) (hp : p ∈ Txt.split x y) : OkS n p :=
  let ⟨h1, h2⟩ := split_sub ey hk hp
  ⟨Nat.le_trans h1 h.1, fun c hc => h.2 c (h2 c hc)⟩
/-- plain data that repr can show -/
structure Shw (n : Nat) (d : PyData) : Prop where
  sh : d.showable = true
  dp : d.depth ≤ 20
  ln : d.shown.length ≤ n
theorem Shw.str {n : Nat} {z : Str} (h : OkS n z) : Shw (10 * n + 2) (.str z) := ⟨rfl, Nat.zero_le _, by
  have := StrLaws.reprText_len z fun c hc => Nat.lt_trans (h.2 c hc) (by decide)
  show (reprText z).length ≤ _
  have := h.1
  omega⟩
theorem Shw.mono {n m : Nat} {d : PyData} (h : Shw n d) (l : n ≤ m) : Shw m d := ⟨h.sh, h.dp, Nat.le_trans h.ln l⟩
theorem Shw.list1 {n : Nat} {a : PyData} (ha : Shw n a) (hd : a.depth < 20) : Shw (n + 5) (.list [a]) := ⟨by
  show (a.showable && true) = true
  rw [ha.sh]
  rfl, by
  show max a.depth 0 + 1 ≤ 20
  omega, by
  have := listText_len_le [a.shown]
  have := ha.ln
  show (listText [a.shown]).length ≤ _
  simp at *
  omega⟩
theorem Shw.tup1 {n : Nat} {a : PyData} (ha : Shw n a) (hd : a.depth < 20) : Shw (n + 5) (.tuple [a]) := ⟨by
  show (a.showable && true) = true
  rw [ha.sh]
  rfl, by
  show max a.depth 0 + 1 ≤ 20
  omega, by
  have := tupleText_len_le [a.shown]
  have := ha.ln
  show (tupleText [a.shown]).length ≤ _
  simp at *
  omega⟩
theorem Shw.list2 {n m : Nat} {a b : PyData} (ha : Shw n a) (hb : Shw m b) (hd : a.depth < 20) (hd2 : b.depth < 20) : Shw (n + m + 7) (.list [a, b]) := ⟨by
  show (a.showable && (b.showable && true)) = true
  rw [ha.sh, hb.sh]
  rfl, by
  show max a.depth (max b.depth 0) + 1 ≤ 20
  omega, by
  have := listText_len_le [a.shown, b.shown]
  have := ha.ln
  have := hb.ln
  show (listText [a.shown, b.shown]).length ≤ _
  simp at *
  omega⟩
theorem Shw.tup2 {n m : Nat} {a b : PyData} (ha : Shw n a) (hb : Shw m b) (hd : a.depth < 20) (hd2 : b.depth < 20) : Shw (n + m + 7) (.tuple [a, b]) := ⟨by
  show (a.showable && (b.showable && true)) = true
  rw [ha.sh, hb.sh]
  rfl, by
  show max a.depth (max b.depth 0) + 1 ≤ 20
  omega, by
  have := tupleText_len_le [a.shown, b.shown]
  have := ha.ln
  have := hb.ln
  show (tupleText [a.shown, b.shown]).length ≤ _
  simp at *
  omega⟩

theorem joinL_nil : ∀ l : List (List Nat), joinL [] l = l.flatten
  | [] => rfl
  | [a] => by simp [joinL]
  | a :: b :: r => by
    rw [joinL_cons _ _ (by simp), joinL_nil (b :: r)]
    simp
/-- single signs put together -/
theorem join_signs {cs : List Nat} : tl (Txt.join "" (cs.map fun c => (⟨#[c]⟩ : Str))) = cs := by
  have e0 : tl ("" : Str) = [] := by decide +kernel
  rw [join_eq, tl_join, e0, joinL_nil, List.map_map]
  have : ∀ l : List Nat, (l.map (tl ∘ fun c => (⟨#[c]⟩ : Str))).flatten = l := fun l => by
    induction l with
    | nil => rfl
    | cons c r ih =>
      rw [List.map_cons, List.flatten_cons, ih]
      rfl
  exact this cs
/-! ### rows of data -/
theorem TVs.len {H : Hp} : ∀ {xs : List V} {ds : List PyData}, TVs H xs ds → xs.length = ds.length
  | _, _, .nil => rfl
  | _, _, .cons _ t => by simp [TVs.len t]
theorem TVs.at_ {H : Hp} : ∀ {xs : List V} {ds : List PyData} {i : Nat} {v : V}, TVs H xs ds → xs[i]? = some v → ∃ d, ds[i]? = some d ∧ TV H v d
  | _, _, _, _, .nil, h => by simp at h
  | _, _, 0, _, .cons r _, h => by simp at h; subst h; exact ⟨_, rfl, r⟩
  | _, _, i + 1, v, .cons _ t, h => by
    obtain ⟨d, h1, h2⟩ := TVs.at_ (i := i) (v := v) t (by simpa using h)
    exact ⟨d, by simpa using h1, h2⟩
theorem spl1_len (s : Nat) : ∀ (l acc : List Nat), (spl [s] 0 acc l).length ≤ l.length + 1
  | [], acc => by rw [spl_nil]; simp
  | c :: r, acc => by
    by_cases h : c = s
    · rw [spl_hit (by rw [pre1, decide_eq_true h])]
      have := spl1_len s r []
      simp only [List.length_cons]
      show (spl [s] 0 [] r).length + 1 ≤ _
      omega
    · rw [spl_miss (by rw [pre1, decide_eq_false h])]
      have := spl1_len s r (acc ++ [c])
      simp only [List.length_cons]
      omega
theorem split_len {x y : Str} {s : Nat} (ey : tl y = [s]) (hk : y.cps.all (· < 256) = true) : (Txt.split x y).length ≤ x.length + 1 := by
  have h := congrArg List.length (split_tl (x := x) ey hk)
  rw [List.length_map] at h
  rw [h, len_tl x]
  exact spl1_len s _ _
end Ls
end
section
set_option Elab.async false
set_option linter.all false
set_option maxRecDepth 100000
set_option maxHeartbeats 4000000
namespace Ls
open PySem PySem.Spec PyProof.Rows L2
open TL
/-! ### z[::-1], z a text -/
def revS (z : Str) : Str := ⟨z.cps.toList.reverse.toArray⟩
theorem tl_revS (z : Str) : tl (revS z) = (tl z).reverse := by simp [revS, tl]
theorem len_revS (z : Str) : (revS z).length = z.length := by
  show (z.cps.toList.reverse.toArray).size = z.cps.size
  simp
def tRevS (te : TE) : TE := fun σ H Q => te σ H fun x H1 => ∃ z, x = .str z ∧ z.length ≤ sizeLine ∧ Q (.str (revS z)) H1
theorem pe_revS {X : Cx} {e : PySem.Expr} {te : TE} {k : Nat} {p1 p2 p3 pos : Pos} (he : PE X e te) : PE X (.Subscript e (.Slice none none (some (.UnaryOp .USub (.Constant (.int 1) k p1) p2)) p3) pos) (tRevS te) := by
  refine ⟨fun pins s σ H Q I h => ?_⟩
  refine Subscript_ (thn (he.run pins s σ H _ I h) fun v s1 ⟨x, H1, I1, r1, q1⟩ => ?_)
  obtain ⟨z, ex, hz, q⟩ := q1
  subst ex
  obtain ⟨t, rfl⟩ := r1
  have hst : PO X (some (.UnaryOp .USub (.Constant (.int 1) k p1) p2)) (tPart (tUn (rU fun i => .int (-i)) (tC (.int 1)))) := po_some (pe_un un_neg pe_int)
  refine wpAny_Slice (thn (po_none.run pins s1 σ H1 (fun o H2 => o = none ∧ H2 = H1) I1 ⟨rfl, rfl⟩) fun vl s2 ⟨l, H2, I2, pl, el, e2⟩ => ?_)
  subst el e2
  refine thn (po_none.run pins s2 σ H2 (fun o H3 => o = none ∧ H3 = H2) I2 ⟨rfl, rfl⟩) fun vu s3 ⟨u, H3, I3, pu, eu, e3⟩ => ?_
  subst eu e3
  refine thn (hst.run pins s3 σ H3 (fun o H4 => o = some (-1) ∧ H4 = H3) I3 ⟨1, rfl, -1, rfl, rfl, rfl⟩) fun vs s4 ⟨o, H4, I4, ps, eo, e4⟩ => ?_
  subst eo e4
  have I5 : Inv X pins σ H4 { s4 with heap := s4.heap.push { cls := .type "slice", data := .fields #[vl, vu, vs] } } := I4.kept (t' := s4.toks) fun b ob q => Heap.get?_push_of_some _ q
  show wpAny (model X.prog X.w) X.A (subscriptTail e (.Slice none none (some (.UnaryOp .USub (.Constant (.int 1) k p1) p2)) p3) (.str z t) (.ref s4.heap.objs.size)) (EP X pins σ Q) X.xe { s4 with heap := s4.heap.push { cls := .type "slice", data := .fields #[vl, vu, vs] } }
  obtain ⟨l, rfl, hl⟩ := IsPart.raw pl
  obtain ⟨u, rfl, hu⟩ := IsPart.raw pu
  obtain ⟨st, rfl, hs⟩ := IsPart.raw ps
  refine tail_any (ops := [.ref s4.heap.objs.size, .str z t]) (typeIs_str _ _ _) F.slot_str_getitem.lookup ?_ (by with_unfolding_all rfl)
  refine wpAny_getItem_str_slice (l := l) (u := u) (st := st) ⟨_, Heap.get?_push_size _ rfl, rfl, rfl⟩ (by rw [hs]; rfl) ?_
  unfold sliceMade slicePicked
  rw [hs, hl, hu]
  have e1 : Builtin.Str.strSliceIndices none none ((some (-1 : Int)).getD 1) z.length = (List.range z.cps.size).reverse := by
    show sliceRange ((z.cps.size : Int) - 1) (-1) (-1) = _
    rw [PySem.W.krv_sliceRange, PySem.W.krv_range]
  rw [e1, if_neg (by simp), List.filterMap_reverse, PySem.W.krv_all]
  refine ⟨?_, .str _, H4, I5.tok _, ⟨_, rfl⟩, q⟩
  show (revS z).length ≤ sizeLine
  rw [len_revS]
  exact hz
end Ls
end
section
set_option Elab.async false
set_option linter.all false
set_option maxRecDepth 100000
set_option maxHeartbeats 4000000
namespace Ls
open PySem PySem.Spec PyProof.Rows L2
/-! ### C.f(a, ..), f a def written in the class at C (or above): no binding -/
/-- C.m is the def at g -/
structure Clf (P : Program) (w : World) (K : PySem.W.Frag) (mg : Str → Option Value) (base : Heap) (CX : CXT) (k : Nat) (C : Addr) (m : Str) (sp : Sp) : Prop where
  ex : ∃ (mc : Value) (g : Addr), ClX.CRead K C mc ∧ PySem.W.findCls K (.ref C) mc m = some (.val (.ref g)) ∧ PySem.W.keepIn K (.ref g) = true ∧ FnR P w K mg base CX k g sp
section
variable {X : Cx} {CX : CXT} {k : Nat} {C : Addr} {m x : Str} {sp : Sp} {E : XK} {o e : PySem.Expr} {es : List PySem.Expr} {ta te : TE} {t : TA} {p apos pos sp_ : Pos} {pl : Sem Bool}
theorem pe_clf (c : Clf X.prog X.w X.K X.mg X.base CX k C m sp) (hr : Room k X.A) (ho : PE X o ta) (hx : Passes CX X E) (ha : PA X (e :: es) t)
    (hst : starEach (e :: es) X.env = (false, eval e X.env) :: starEach es X.env := by rfl) (hpl : (backTo pos (starEach es X.env)).any (·.1) = false := by rfl)
    (ht : eval (.Call (.Attribute o m apos) (e :: es) [] pos) X.env = (do
      let ov ← eval o X.env
      standAt apos.atName
      let (f, first) ← holding [ov] (getMethod ov m pl)
      callWith pos f first (backTo pos (starEach (e :: es) X.env)) (backToKw pos (keywordEach [] X.env))) := by rfl) :
    PE X (.Call (.Attribute o m apos) (e :: es) [] pos) (fun σ H Q => ta σ H fun v H1 => v = .ref C ∧ t σ H1 fun vs H2 => sp vs H2 Q E) := by
  obtain ⟨mc, g, rd, fc, kp, F⟩ := c.ex
  refine ⟨fun pins s σ H Q I h => PySem.W.methodCall_KW (pl := pl) (thn (ho.run pins s σ H _ I h) fun u s1 q1 => ?_) ht⟩
  obtain ⟨v, H1, I1, rv, rfl, q1⟩ := q1
  obtain rfl : u = Value.ref C := rv
  refine PySem.W.method_cls I1.kIn rd.ga (ClX.getcval_ok (v := .ref g) I1 rd ⟨fc, rfl⟩ fun s2 I2 => ?_)
  refine PySem.W.callWith_K (h₀ := X.base) I2.ok.mod.kin kp (thn (ha.run pos pins s2 σ H1 _ I2 q1) fun us s3 q3 => ?_) hst hpl
  obtain ⟨vs, H2, I3, r3, q3⟩ := q3
  exact ⟨I3.kIn, wpAny_call (run_fnR F hr hx I3 r3 q3)⟩
/-! ### C() and C(*y) -/
def tMk0 (C : Addr) (sp : Sp) (E : XK) : TE := fun _ H Q => ∀ a dx, H a = none → H dx = none → dx ≠ a → sp [V.ref a] (upd (upd H dx (.own a)) a (.ins C dx [])) (fun v H2 => v = .non ∧ Q (.ref a) H2) E
theorem pe_mk0 (c : Mkc X.prog X.w X.K X.mg X.base CX k C x sp) (hr : Room (k + 1) X.A) (hg : Gl X x) (hx : Passes CX X E) (hdb : (x == ("__debug__" : Str)) = false := by decide) : PE X (.Call (.Name x p) [] [] pos) (tMk0 C sp E) := by
  obtain ⟨f, hm, M, F⟩ := c.ex
  refine ⟨fun pins s σ H Q I h => wpAny_Call_Name_kw (ld_glob I hg hm ?_ hdb)⟩
  exact PySem.W.callWith_K0 I.kIn M.kp (StX.run_makeR (us := []) (vs := []) M F hr hx I .nil h)
def tMkS (K : PySem.W.Frag) (C : Addr) (sp : Sp) (E : XK) (te : TE) : TE := fun σ H Q => te σ H fun y H1 => ∃ b xs, y = V.ref b ∧ (SqT K H1 b xs ∨ SqL K H1 b xs) ∧
  ∀ a dx, H1 a = none → H1 dx = none → dx ≠ a → sp (V.ref a :: xs) (upd (upd H1 dx (.own a)) a (.ins C dx [])) (fun v H2 => v = .non ∧ Q (.ref a) H2) E
theorem pe_mkS (c : Mkc X.prog X.w X.K X.mg X.base CX k C x sp) (hr : Room (k + 1) X.A) (hg : Gl X x) (hx : Passes CX X E) (he : PE X e te) (hdb : (x == ("__debug__" : Str)) = false := by decide)
    (hst : starEach [.Starred e sp_] X.env = [(true, eval e X.env)] := by rfl) : PE X (.Call (.Name x p) [.Starred e sp_] [] pos) (tMkS X.K C sp E te) := by
  obtain ⟨f, hm, M, F⟩ := c.ex
  refine ⟨fun pins s σ H Q I h => wpAny_Call_Name_kw (ld_glob I hg hm ?_ hdb)⟩
  refine PySem.W.callWith_S (h₀ := X.base) I.ok.mod.kin M.kp (thn (he.run pins s σ H _ I h) fun v s1 q1 => ?_) hst
  obtain ⟨y, H1, I1, ry, b, xs, rfl, hxs, q⟩ := q1
  obtain rfl : v = Value.ref b := ry
  exact StX.star_any I1 hxs fun us s2 I2 rv => ⟨I2.kIn, StX.run_makeR M F hr hx I2 rv q⟩
/-! ### xs.count(y), flat items -/
theorem count_eqU {x : V} : ∀ {xs : List V} {us : List Value}, Vals xs us → xs.all flatV = true → us.countP (eqU x) = xs.countP fun y => eqV y x
  | _, _, .nil, _ => rfl
  | y :: xs, u :: us, .cons r t, f => by
    rw [List.all_cons, Bool.and_eq_true] at f
    rw [List.countP_cons, List.countP_cons, eqU_of r f.1, count_eqU t f.2]
def rCntF (K : PySem.W.Frag) : V → List V → Hp → VK → Prop := fun x ys H Q => ∃ (p : Addr) (xs : List V) (y : V), x = .ref p ∧ ys = [y] ∧ SqL K H p xs ∧ flatV y = true ∧ xs.all flatV = true ∧ Q (.int (xs.countP (fun z => eqV z y) : Nat)) H
theorem mt_countF : MtR X "list.count" (rCntF X.K) := by
  intro pins s σ H x ys v us Q I rx rxs h
  obtain ⟨p, xs, y, rfl, rfl, hs, fy, fs, q⟩ := h
  cases rx
  obtain ⟨u, rfl, ru⟩ := rxs.one
  obtain ⟨its, rv, ⟨⟨cls, dd, data, sl⟩, n, ho, hc, hdn, hd⟩, hlen⟩ := I.list hs
  simp only at hc hd
  subst hc hd
  refine call_meets PySem.F.slot_list_count ⟨_, ho, rfl⟩ PySem.F.entry_list_count (PySem.F.args_list_count_2 _ _)
    (SeqAt.list_countAt p its.toArray n dd sl u (eqU y)) ⟨ho, fun z hz => mem_eqAt ru fy rv fs z (by simpa using hz), ?_⟩
  have ec : its.toArray.toList.countP (eqU y) = xs.countP fun z => eqV z y := count_eqU rv fs
  refine ⟨.int (xs.countP (fun z => eqV z y) : Nat), H, I.tok _, ⟨s.toks, ?_⟩, q⟩
  show Value.int ((its.toArray.toList.countP (eqU y) : Nat) : Int) s.toks = _
  rw [ec]
end
/-! ### a def with one star parameter behind the first, or behind two -/
section
variable {P : Program} {w : World} {K : PySem.W.Frag} {mg : Str → Option Value} {base : Heap}
/-- what is left over lies in a new tuple -/
def spStar (n : Nat) (sp : Sp) : Sp := fun vs H Q E => ∃ ws rest, vs = ws ++ rest ∧ ws.length = n ∧ rest.length ≤ sizeLine ∧ ∀ p, H p = none → sp (ws ++ [V.ref p]) (upd H p (.tup rest)) Q E
end
end Ls
namespace Ls
open PySem PySem.Spec PyProof.Rows L2
/-! ### xs.count(y) within a comprehension's block -/
section
variable {X : Cx} {K : PySem.W.Frag} {o e : PySem.Expr} {to : TE} {t : TA} {apos cpos : Pos}
theorem pe_countK (hK : X.K = K) (ho : PE X o to) (ha : PA X [e] t) (hbase : attributeBase o "count" X.env (eval o X.env) = eval o X.env := by rfl)
    (hfew : ((backTo cpos (starEach [e] X.env)).all (fun x => !x.1) && (backToKw cpos (keywordEach [] X.env)).all (fun x => x.1.isSome) && decide (([e] : List PySem.Expr).length + ([] : List Keyword).length + (if ([] : List Keyword).isEmpty then 0 else 1) < 30)) = true := by rfl)
    (hline : (apos.endLine == cpos.line) = true := by rfl) (hs : starEach [e] X.env = (false, eval e X.env) :: starEach [] X.env := by rfl) (hplain : (backTo cpos (starEach [] X.env)).any (·.1) = false := by rfl) :
    PE X (.Call (.Attribute o "count" apos) [e] [] cpos) (tBM K "list" (rCntF K) to t) := by
  subst hK
  exact pe_bm PySem.F.plainAttrs_list PySem.F.slot_list_count PySem.F.type_list_count mt_countF ho ha hbase hfew hline hs hplain
end
/-! ### texts, each once -/
theorem count_strs (z : Str) : ∀ l : List Str, (l.map V.str).countP (fun y => eqV y (.str z)) = l.count z
  | [] => rfl
  | a :: l => by
    rw [List.map_cons, List.countP_cons, List.count_cons, count_strs z l]
    have : eqV (.str a) (.str z) = (a == z) := rfl
    rw [this]
theorem once_iff {l : List Str} : (l.all fun z => l.count z == 1) = true ↔ l.Nodup := by
  rw [List.nodup_iff_count, List.all_eq_true]
  constructor
  · intro h a
    by_cases ha : a ∈ l
    · have := h a ha
      simp at this
      omega
    · rw [List.count_eq_zero.mpr ha]
      omega
  · intro h z hz
    have h1 := h z
    have h2 := List.count_pos_iff.mpr hz
    simp
    omega
theorem card_iff {M l : List Str} (nd : M.Nodup) (hm : ∀ y, y ∈ M ↔ y ∈ l) : M.length = l.length ↔ l.Nodup := by
  constructor
  · intro e
    rw [List.nodup_iff_count]
    intro a
    refine Nat.le_of_not_lt fun h2 => ?_
    have hin : a ∈ l := List.count_pos_iff.mp (by omega)
    have sub : ∀ y ∈ M, y ∈ l.erase a := fun y hy => by
      have hy' := (hm y).mp hy
      by_cases ey : y = a
      · subst ey
        refine List.count_pos_iff.mp ?_
        rw [List.count_erase_self]
        omega
      · exact (List.mem_erase_of_ne ey).mpr hy'
    have h3 := nd.length_le_of_subset sub
    rw [List.length_erase_of_mem hin] at h3
    have := List.length_pos_of_mem hin
    omega
  · intro h
    have h1 := nd.length_le_of_subset fun y hy => (hm y).mp hy
    have h2 := h.length_le_of_subset fun y hy => (hm y).mpr hy
    omega
end Ls
end
section
set_option Elab.async false
set_option linter.all false
set_option maxRecDepth 100000
set_option maxHeartbeats 4000000
/-! Sets of texts: set(xs), len and sorted of it. What HandS.Set says of sets of ints, told of texts; the tables' own lemmas are its. -/
namespace Ls
open PySem PySem.Spec PyProof.Rows L2
/-- the text of an entry -/
def txt (e : Int × Value) : Str := match e.2 with
  | .str z _ => z
  | _ => Str.empty
def EntT (w : World) (e : Int × Value) : Prop := ∃ tk, e.2 = Value.str (txt e) tk ∧ e.1 = hashStr w (txt e)
/-- at a stands a set of texts: those of L, each once -/
def TSet (w : World) (h : Heap) (a : Addr) (L : List Str) : Prop :=
  ∃ o es ep t, h.get? a = some o ∧ (o.ExactSet ∧ o.data = .set es ep t) ∧ ((∀ e ∈ es.toList, EntT w e) ∧ (es.toList.map txt).Perm L ∧ L.Nodup) ∧ (es.size < scanBound ∧ t.fits es.size = true ∧ Ris t.place.toList) ∧ (w.params.followText "set-order" = true ∨ t.led = true)
section
variable {P : Program} {w : World} {A : Around} {E : Value → Shared → Prop} {s : Shared} {a : Addr} {L : List Str}
theorem TSet.keep {h h' : Heap} (R : TSet w h a L) (k : ∀ o, h.get? a = some o → h'.get? a = some o) : TSet w h' a L :=
  let ⟨o, es, ep, t, ho, r⟩ := R
  ⟨o, es, ep, t, k o ho, r⟩
theorem ents {l : List (Int × Value)} (g : ∀ e ∈ l, EntT w e) : ElemsOf (PySem.strKind P w) l := fun e he => by
  obtain ⟨tk, h1, h2⟩ := g e he
  exact ⟨⟨txt e, by rw [h1]; exact strKind_is P w _ _, h2⟩, by rw [h1]; rfl⟩
theorem ent_is {e : Int × Value} (g : EntT w e) (z : Str) : (PySem.strKind P w).is z e.2 = true ↔ txt e = z := by
  obtain ⟨tk, h1, _⟩ := g
  have hk : (PySem.strKind P w).is (txt e) e.2 = true := by rw [h1]; exact strKind_is P w _ _
  rw [KeyKind.is_eq_decide hk z, decide_eq_true_eq]
  exact eq_comm
/-- the entries stored; the table grown where it is too full -/
theorem tset_tail {g : Bool → Sem Unit} (hg : ∀ (b : Bool) (s₁ : Shared) (Q' : Unit → Shared → Prop), Q' () s₁ → wpAny (model P w) A (g b) Q' E s₁) {o : Obj} {es ns : Array (Int × Value)} {ep : Nat} {t u : SetTable} {M : List Str} {dm : Bool} {R : Option Bool → Shared → Prop}
    (ho : s.heap.get? a = some o) (hx : o.ExactSet) (hd : o.data = .set es ep t) (gn : ∀ e ∈ ns.toList, EntT w e) (pm : (ns.toList.map txt).Perm M) (nd : M.Nodup) (hb : ns.size < scanBound) (hf : u.fits ns.size = true) (hr : Ris u.place.toList)
    (hl : w.params.followText "set-order" = true ∨ u.led = true) (hR : ∀ h', Heap.SameBut a s.heap h' → TSet w h' a M → R (some true) { s with heap := h' }) :
    wpAny (model P w) A (do
        storeSet a ns u
        if (!dm && u.tooFull) = true then do
            g (relayAll u ns (SetTable.grown ns.size)).2.2
            storeSet a (relayAll u ns (SetTable.grown ns.size)).1 (relayAll u ns (SetTable.grown ns.size)).2.1
            pure (some true)
          else pure (some true)) R E s := by
  have o1 := store_at (es' := ns) (t' := u) ho hd
  have b1 := Heap.SameBut.update s.heap a (Obj.putSet ns u)
  refine wpAny_bind (wpAny_storeSet_of ho hd ?_ (fits_of_scanBound hb))
  by_cases c : (!dm && u.tooFull) = true
  · rw [if_pos c]
    have q1 := relayAll_perm u ns (SetTable.grown ns.size)
    have q2 := relayAll_fits u ns (SetTable.grown ns.size)
    have q3 := relayAll_ris u ns (SetTable.grown ns.size)
    have q4 := relayAll_led u ns (SetTable.grown ns.size)
    generalize relayAll u ns (SetTable.grown ns.size) = Z at q1 q2 q3 q4 ⊢
    obtain ⟨n2, u2, gv⟩ := Z
    dsimp only at q1 q2 q3 q4 ⊢
    have hz : n2.size < scanBound := by
      have := q1.length_eq
      rw [Array.length_toList, Array.length_toList] at this
      omega
    refine wpAny_bind (hg _ _ _ (wpAny_bind (wpAny_storeSet_of o1 rfl ?_ (fits_of_scanBound hz))))
    refine wpAny_pure (hR _ (b1.trans (Heap.SameBut.update _ a _)) ⟨_, n2, _, u2, store_at o1 rfl, ⟨hx, rfl⟩, ⟨fun e he => gn e (q1.mem_iff.mp he), (q1.map txt).trans pm, nd⟩, ⟨hz, q2, q3⟩, ?_⟩)
    rcases hl with z | z
    · exact .inl z
    · exact .inr (by rw [q4]; exact z)
  · rw [if_neg c]
    exact wpAny_pure (hR _ b1 ⟨_, ns, _, u, o1, ⟨hx, rfl⟩, ⟨gn, pm, nd⟩, ⟨hb, hf, hr⟩, hl⟩)
theorem tset_add {z : Str} {tk : Tok} {Q : Bool → Shared → Prop} (R : TSet w s.heap a L) (room : L.length + 1 < scanBound)
    (hQ : ∀ h' M b, Heap.SameBut a s.heap h' → TSet w h' a M → M.length ≤ L.length + 1 → (∀ y, y ∈ M ↔ y ∈ L ∨ y = z) → Q b { s with heap := h' }) :
    wpAny (model P w) A (setAddHashed a (.str z tk) ((PySem.strKind P w).hash z)) Q E s := by
  obtain ⟨o, es, ep, t, ho, ⟨hx, hd⟩, ⟨ge, pm, nd⟩, ⟨hb, hf, hr⟩, hl⟩ := R
  have el : ElemsOf (PySem.strKind P w) es.toList := ents ge
  have hk : (PySem.strKind P w).is z (.str z tk) = true := strKind_is P w z tk
  unfold setAddHashed setAddHashedIn
  refine wpAny_holding (wpAny_bind (wpAny_setState_of ho hd hf ?_))
  dsimp only
  rw [byScan_of rfl hb el]
  simp only [↓reduceIte]
  unfold setAddByScan
  refine wpAny_bind (wpAny_bind (wpAny_rule (wpAny_bind (wpAny_setScan_of hk ho hd hf el ?_))))
  cases hfi : List.findIdx? (fun e => (PySem.strKind P w).is z e.2) es.toList with
  | some j =>
    dsimp only
    obtain ⟨hj, pj, _⟩ := List.findIdx?_eq_some_iff_getElem.mp hfi
    have hin : z ∈ L := pm.mem_iff.mp (List.mem_map.mpr ⟨_, List.getElem_mem hj, (ent_is (ge _ (List.getElem_mem hj)) z).mp pj⟩)
    refine wpAny_pure (wpAny_pure (hQ s.heap L _ (Heap.SameBut.refl a s.heap) ⟨o, es, ep, t, ho, ⟨hx, hd⟩, ⟨ge, pm, nd⟩, ⟨hb, hf, hr⟩, hl⟩ (Nat.le_succ _) fun y => ⟨.inl, fun q => ?_⟩))
    rcases q with q | q
    · exact q
    · rw [q]; exact hin
  | none =>
    dsimp only
    have hno : z ∉ L := fun q => by
      obtain ⟨e, he, q⟩ := List.mem_map.mp (pm.mem_iff.mpr q)
      have := List.findIdx?_eq_none_iff.mp hfi e he
      rw [(ent_is (ge e he) z).mpr q] at this
      cases this
    have q1 := layNew_perm t es ((PySem.strKind P w).hash z) (.str z tk)
    have q2 := layNew_fits t es ((PySem.strKind P w).hash z) (.str z tk)
    have q3 := layNew_ris t es ((PySem.strKind P w).hash z) (.str z tk) hr
    have q4 := layNew_led t es ((PySem.strKind P w).hash z) (.str z tk)
    generalize layNew t es ((PySem.strKind P w).hash z) (.str z tk) = Z at q1 q2 q3 q4 ⊢
    obtain ⟨ns, u, dm, gv⟩ := Z
    dsimp only at q1 q2 q3 q4 ⊢
    rw [Array.toList_push] at q1
    have q5 : ns.toList.Perm ((hashStr w z, Value.str z tk) :: es.toList) := q1.trans (List.perm_append_singleton _ _)
    have gn : ∀ e ∈ ns.toList, EntT w e := fun e he => by
      rcases List.mem_cons.mp (q5.mem_iff.mp he) with c | c
      · rw [c]; exact ⟨tk, rfl, rfl⟩
      · exact ge e c
    have pn : (ns.toList.map txt).Perm (z :: L) := (q5.map txt).trans (List.Perm.cons z pm)
    have nn : (z :: L).Nodup := List.nodup_cons.mpr ⟨hno, nd⟩
    have hz : ns.size = L.length + 1 := by
      have := pn.length_eq
      rw [List.length_map, Array.length_toList, List.length_cons] at this
      exact this
    have hbn : ns.size < scanBound := by omega
    have hln : w.params.followText "set-order" = true ∨ u.led = true := by
      rcases hl with c | c
      · exact .inl c
      · exact .inr (by rw [q4]; exact c)
    have fin : ∀ h', Heap.SameBut a s.heap h' → TSet w h' a (z :: L) → Q true { s with heap := h' } := fun h' sb r => hQ h' (z :: L) true sb r (Nat.le_refl _) fun y => by
      rw [List.mem_cons]
      exact Or.comm
    have way : ∀ (b : Bool) (s₁ : Shared) (Q' : Unit → Shared → Prop), Q' () s₁ → wpAny (model P w) A (match b with | true => rule "set.scan.the-table-gave-way" | false => pure ()) Q' E s₁ := fun b s₁ Q' q => by
      cases b
      · exact wpAny_pure q
      · exact wpAny_rule q
    refine wpAny_bind (way _ _ _ ?_)
    by_cases hp : u.plain = true
    · rw [if_pos hp]
      refine wpAny_bind ?_
      rw [hashByValue_scannable 8 (show (Value.str z tk).scannable = true from rfl)]
      refine wpAny_pure (tset_tail way ho hx hd gn pn nn hbn ?_ ?_ ?_ fun h' sb r => ?_)
      · split
        · exact q2
        · exact SetTable.fits_plain_off q2
      · split <;> exact q3
      · split <;> exact hln
      · exact wpAny_pure (fin h' sb r)
    · rw [if_neg hp]
      refine wpAny_bind (wpAny_pure ?_)
      simp only [↓reduceIte]
      exact tset_tail way ho hx hd gn pn nn hbn q2 q3 hln fun h' sb r => wpAny_pure (fin h' sb r)
/-! ### set(xs) -/
theorem tset_loop {I : Addr} {fp wr : List Addr} {G : Array GenState → Array GenState → Prop} {n : Nat} {Pv : Nat → Value → Prop} {St : Nat → Shared → Prop} {R : Result → Shared → Prop} (W : WalksS P w A.in1 I fp wr G n Pv St) (hSf : a ∉ fp)
    (xs : List Str) (hn : xs.length = n) (hb : xs.length + 1 < scanBound) (hv : ∀ i v, Pv i v → ∃ z tk, xs[i]? = some z ∧ v = .str z tk) :
    ∀ (d i : Nat) (s : Shared) (L : List Str), i + d = n → St i s → TSet w s.heap a L → L.length ≤ i → (∀ y, y ∈ L ↔ y ∈ xs.take i) →
      (∀ s' M, Moved (a :: wr) G s s' → TSet w s'.heap a M → M.length ≤ n → (∀ y, y ∈ M ↔ y ∈ xs) → R (.ok (.ret .none)) s') →
      codeAny (model P w) A (.builtin "set.update.loop" ⟨[.ref a, .ref I], []⟩) R s := by
  have hSw : a ∉ wr := fun h => hSf (W.sub _ h)
  have more : ∀ b ∈ wr, b ∈ a :: wr := fun b hb => List.mem_cons_of_mem _ hb
  intro d
  induction d with
  | zero =>
    intro i s L hi hst hS hlen hmem hR
    have e : i = n := by omega
    subst e
    refine codeAny_builtin F.entry_set_update_loop ?_
    rw [Around.under_plainId F.plain_set_update_loop _]
    show wpAny _ A.in1 (pyNext (.ref I) >>= _) _ _ s
    refine wpAny_bind (W.done s _ _ hst fun s' hm => ?_)
    refine wpAny_pure (hR s' L (hm.mono more) (hS.keep fun o q => hm.heap a o hSw q) hlen fun y => ?_)
    rw [hmem, List.take_of_length_le (by omega)]
  | succ d ih =>
    intro i s L hi hst hS hlen hmem hR
    refine codeAny_builtin F.entry_set_update_loop ?_
    rw [Around.under_plainId F.plain_set_update_loop _]
    show wpAny _ A.in1 (pyNext (.ref I) >>= _) _ _ s
    refine wpAny_bind (W.item i s _ _ (by omega) hst fun v s1 hP hst1 hm1 => ?_)
    obtain ⟨z, tk, hz, rfl⟩ := hv i v hP
    show wpAny _ A.in1 (holding [Value.str z tk] (setAdd a (.str z tk)) >>= _) _ _ s1
    refine wpAny_bind (wpAny_holding ?_)
    unfold setAdd
    refine wpAny_holding (wpAny_bind ((PySem.strKind P w).pyHash (k := z) (strKind_is _ _ _ _) ?_))
    refine tset_add (s := { s1 with toks := s1.toks + 1 }) (hS.keep fun o q => hm1.heap a o hSw q) (by omega) fun h2 M b sb hM lM mM => ?_
    refine wpAny_pure ⟨plainId_quiet F.plain_set_update_loop _, ih (i + 1) _ M (by omega) (W.frame _ s1 _ _ hst1 (Nat.le_succ _) fun b hb o q => ?_) hM (by omega) (fun y => ?_) fun s3 M3 hm3 h3 l3 e3 => hR s3 M3 (Moved.trans W.gtrans ((hm1.mono more).then_heap (Nat.le_succ _) fun b o hb q => ?_) hm3) h3 l3 e3⟩
    · rw [sb.2 b fun c => hSf (c ▸ hb)]
      exact q
    · rw [mM, hmem, List.take_add_one, hz, List.mem_append]
      simp
    · rw [sb.2 b fun c => hb (c ▸ List.mem_cons_self)]
      exact q
/-- an empty set, laid -/
abbrev set0 (w : World) : Obj := { cls := .type "set", dict := none, data := .set #[] 0 (.fresh 0 0 (!w.params.followText "set-order")) }
theorem tset_fresh {h : Heap} {a : Addr} (ho : h.get? a = some (set0 w)) : TSet w h a [] := by
  refine ⟨_, #[], 0, _, ho, ⟨⟨rfl, rfl, rfl⟩, rfl⟩, ⟨fun e he => by simp at he, List.Perm.refl _, List.nodup_nil⟩, ⟨by decide, by rfl, List.Pairwise.nil⟩, ?_⟩
  show _ ∨ (!w.params.followText "set-order") = true
  cases w.params.followText "set-order"
  · exact .inr rfl
  · exact .inl rfl
theorem call_setT {l : Addr} {items : Array Value} (xs : List Str) {Q : Value → Shared → Prop} (hh : A.handled = none) (hl : s.heap.IsList l items) (hx : StrsAre items.toList xs) (hb : xs.length + 1 < scanBound)
    (h : ∀ (h' : Heap) (tk : Nat) (M : List Str), TSet w h' s.heap.objs.size M → M.length ≤ xs.length → (∀ y, y ∈ M ↔ y ∈ xs) → (∀ b o, s.heap.get? b = some o → h'.get? b = some o) → Q (.ref s.heap.objs.size) { s with heap := h', toks := tk }) :
    wpAny (model P w) A (call (.type "set") [.ref l]) Q E s := by
  have hsz : xs.length = items.size := by rw [← StrsAre.len_eq hx, Array.length_toList]
  obtain ⟨c, tl, hmro⟩ := F.called_set.mro
  have hmade := F.called_set.made
  have hsub := F.called_set.sub
  have n1 := F.called_set.notType
  have n2 := F.called_set.canCreate
  have n3 := F.typeCall_set_1 (.ref l)
  refine wpAny_call (codeAny_of_tree ?_)
  show wpAny _ _ (callAny (.type "set") _) _ _ _
  refine wpAny_pure ⟨Code.quiet_builtin _ (by decide +kernel), codeAny_builtin F.entry_type_call ?_⟩
  rw [Around.under_plain (weight_type_call_type "set" [.ref l] []) rfl]
  repeat (any_goals (first | assumption | wp_step))
  refine codeAny_mono (code_set_led1 (.ref l) (E := E) (Q₁ := fun v s1 => v = .ref s.heap.objs.size ∧ s1 = { s with heap := s.heap.push (set0 w) }) ⟨rfl, rfl⟩) fun r s1 hr => ?_
  match r, hr with
  | .error e, hr => exact hr
  | .ok (.ret v), ⟨e1, e2⟩ =>
    subst e1 e2
    have hS : (s.heap.push (set0 w)).get? s.heap.objs.size = some (set0 w) := Heap.get?_push_size _ rfl
    have hT : Shared.TypeIs { s with heap := s.heap.push (set0 w) } (.ref s.heap.objs.size) "set" := ⟨_, hS, rfl⟩
    have i1 := F.called_set.init.lookup
    have i2 := F.called_set.init.bind (.ref s.heap.objs.size)
    repeat (any_goals (first | assumption | wp_step))
    refine codeAny_mono (codeAny_call_builtin (R := wants (fun r s2 => r = .none ∧ ∃ h' tk M, s2 = { s with heap := h', toks := tk } ∧ TSet w h' s.heap.objs.size M ∧ M.length ≤ xs.length ∧ (∀ y, y ∈ M ↔ y ∈ xs) ∧ (∀ b o, s.heap.get? b = some o → h'.get? b = some o)) E)
      F.called_set.init.plain F.entry_set_init (check_set_init_1 hT ?_)) fun r2 s2 hr2 => ?_
    · obtain ⟨⟨kc, kd, ka, ks⟩, hol, hcl, nl, hdl⟩ := hl
      simp only at hcl hdl
      subst hcl hdl
      have ol : (s.heap.push (set0 w)).get? l = some { cls := .type "list", dict := kd, data := .seq items nl, slots := ks } := Heap.get?_push_of_some _ hol
      have s1 := F.sub_list_set
      have s2 := F.sub_list_frozenset
      have s3 : (Value.type "list" == Value.type "dict") = false := by decide
      have hl1 : (s.heap.push (set0 w)).IsList l items := ⟨_, ol, rfl, nl, rfl⟩
      unfold Builtin.«set.__init__» noKeywords Builtin.Frozenset.updateFrom
      generalize hPI : pyIter = PI
      wp_walk
      subst hPI
      refine wpAny_pyIter_list hl1 (wpAny_bind (wpAny_runValue ?_))
      have hlt : l < s.heap.objs.size := Heap.lt_size hol
      have hz : (s.heap.push (set0 w)).objs.size = s.heap.objs.size + 1 := Heap.size_push ..
      have hA : A.in1.in1.in1.handled = none := by simp [hh]
      have nI : l ≠ (s.heap.push (set0 w)).objs.size := by rw [hz]; exact Nat.ne_of_lt (Nat.lt_succ_of_lt hlt)
      have nS : s.heap.objs.size ∉ [(s.heap.push (set0 w)).objs.size, l] := by
        rw [hz]
        simp only [List.mem_cons, List.not_mem_nil, or_false, not_or]
        exact ⟨Nat.ne_of_lt (Nat.lt_succ_self _), Nat.ne_of_gt hlt⟩
      refine tset_loop ((Walks.list hA _ l nI items).toS) nS xs hsz hb (fun i v hv => ?_) items.size 0 _ [] (by omega) ⟨⟨_, Heap.get?_push_size _ rfl, rfl, rfl⟩, hl1.push _⟩ (tset_fresh (Heap.get?_push_of_some _ hS)) (Nat.le_refl _) (fun y => by simp) fun s' M hm hM lM mM => ?_
      · have hi : i < xs.length := by rw [hsz]; exact (Array.getElem?_eq_some_iff.mp hv).1
        obtain ⟨tk, e⟩ := SS.strs_at hx i v (by rw [Array.getElem?_toList]; exact hv)
        refine ⟨xs[i], tk, List.getElem?_eq_getElem hi, ?_⟩
        rw [e, List.getD_eq_getElem?_getD, List.getElem?_eq_getElem hi]
        rfl
      · obtain ⟨h', g', d', tk', os'⟩ := s'
        obtain rfl : g' = s.gens := hm.gens
        obtain rfl : d' = s.drawn := hm.drawn
        obtain rfl : os' = s.os := hm.os
        show wpAny _ _ _ _ _ _
        refine wpAny_pure ?_
        show wpAny _ _ (ret Value.none) _ _ _
        refine wpAny_pure ⟨rfl, h', tk', M, rfl, hM, by rw [hsz]; exact lM, mM, fun b o q => ?_⟩
        have hb0 : b < s.heap.objs.size := Heap.lt_size q
        refine hm.heap b o ?_ (Heap.get?_push_of_some _ (Heap.get?_push_of_some _ q))
        rw [hz]
        simp only [List.mem_cons, List.not_mem_nil, or_false, not_or]
        exact ⟨Nat.ne_of_lt hb0, Nat.ne_of_lt (Nat.lt_succ_of_lt hb0)⟩
    · match r2, hr2 with
      | .error e, hr2 => exact hr2
      | .ok (.ret v), ⟨e1, h', tk, M, e2, q1, q2, q3, q4⟩ =>
        subst e1 e2
        repeat (any_goals (first | assumption | wp_step))
        exact h _ _ _ q1 q2 q3 q4
end
/-! ### the rules -/
/-- a set of texts, tracked -/
def SetT (w : World) (a : Addr) (L : List Str) : HO := .ext fun h => TSet w h a L
section
variable {X : Cx} {pins : List (Addr × Obj)} {σ : L2.St} {H : Hp} {s : Shared} {a : Addr} {L : List Str}
theorem setT_new {P : Program} {w : World} {H : Hp} {h : Heap} (R : TSet w h a L) : ObjOk P w H h a (SetT w a L) := by
  have ⟨o, _, _, _, ho, _⟩ := R
  exact ⟨R, ⟨o, ho⟩, fun h1 h2 p k => TSet.keep p k⟩
/-- set(xs), xs a list of texts -/
def rSetT (K : PySem.W.Frag) (w : World) : List V → Hp → VK → Prop := fun vs H Q => ∃ (l : Addr) (ys : List Str), vs = [.ref l] ∧ SqL K H l (ys.map V.str) ∧ ys.length ≤ 1000 ∧
  ∀ p M, H p = none → M.Nodup → M.length ≤ ys.length → (∀ y, y ∈ M ↔ y ∈ ys) → Q (.ref p) (upd H p (SetT w p M))
theorem cr_setT (hc : X.calm = true) : CallR X (.type "set") (rSetT X.K X.w) := by
  intro pins s σ H vs us Q I r h
  obtain ⟨l, ys, rfl, hl, hn, q⟩ := h
  rw [Vals.ref1 r]
  obtain ⟨its, rv, pl, hz⟩ := I.list hl
  refine call_setT ys (I.ok.hd hc) pl.isList (by simpa using rv.strs) (by unfold scanBound; omega) fun h' tk M hM lM mM k => ?_
  have nd : M.Nodup := by
    obtain ⟨_, _, _, _, _, _, ⟨_, _, nd⟩, _⟩ := hM
    exact nd
  exact ⟨.ref s.heap.objs.size, upd H s.heap.objs.size (SetT X.w s.heap.objs.size M), I.laid (t' := tk) k (Nat.le_refl _) (setT_new hM), rfl, q _ M (I.hok.fresh (Nat.le_refl _)) nd lM mM⟩
/-- len(set) -/
def rLenT (w : World) : List V → Hp → VK → Prop := fun vs H Q => ∃ (a : Addr) (M : List Str), vs = [.ref a] ∧ H a = some (SetT w a M) ∧ Q (.int M.length) H
theorem cr_lenT : CallR X (.builtin "len") (rLenT X.w) := by
  intro pins s σ H vs us Q I r h
  obtain ⟨a, M, rfl, ha, q⟩ := h
  rw [Vals.ref1 r]
  obtain ⟨o, es, ep, t, ho, ⟨hx, hd⟩, ⟨ge, pm, nd⟩, ⟨hb, hf, hr⟩, hl⟩ := (show TSet X.w s.heap a M from (I.hok a _ ha).1)
  have hz : es.size = M.length := by
    have := pm.length_eq
    rw [List.length_map, Array.length_toList] at this
    exact this
  refine call_len_set ho hx hd hf (by unfold scanBound at hb; omega) ⟨.int M.length, H, I.tok _, ⟨s.toks + 1, ?_⟩, q⟩
  rw [hz]
/-- sorted(set), fewer than 64 -/
def rSortT (w : World) : List V → Hp → VK → Prop := fun vs H Q => ∃ (a : Addr) (M : List Str), vs = [.ref a] ∧ H a = some (SetT w a M) ∧ M.length < 64 ∧ ∀ ys p, ys.Perm M → sortedS ys = true → H p = none → Q (.ref p) (upd H p (.lst (ys.map V.str)))
theorem strs_txt {w : World} : ∀ {l : List (Int × Value)}, (∀ e ∈ l, EntT w e) → StrsAre (l.map (·.2)) (l.map txt)
  | [], _ => .nil
  | e :: l, g => by
    obtain ⟨tk, h1, _⟩ := g e (by simp)
    rw [List.map_cons, List.map_cons, h1]
    exact .cons _ tk (strs_txt fun x hx => g x (List.mem_cons_of_mem _ hx))
theorem strs_perm {vs us : List Value} {ks : List Str} (p : vs.Perm us) (h : StrsAre us ks) : ∃ ks', StrsAre vs ks' ∧ ks'.Perm ks := by
  induction p generalizing ks with
  | nil => exact ⟨ks, h, List.Perm.refl _⟩
  | cons x p ih =>
    cases h with
    | cons k t h =>
      obtain ⟨ks', h1, h2⟩ := ih h
      exact ⟨k :: ks', .cons k t h1, h2.cons k⟩
  | swap x y l =>
    cases h with
    | cons k t h =>
      cases h with
      | cons k2 t2 h => exact ⟨k2 :: k :: _, .cons k2 t2 (.cons k t h), List.Perm.swap _ _ _⟩
  | trans p1 p2 ih1 ih2 =>
    obtain ⟨k2, h2, q2⟩ := ih2 h
    obtain ⟨k1, h1, q1⟩ := ih1 h2
    exact ⟨k1, h1, q1.trans q2⟩
theorem cr_sortT (hc : X.calm = true) : CallR X (.builtin "sorted") (rSortT X.w) := by
  intro pins s σ H vs us Q I r h
  obtain ⟨a, M, rfl, ha, h64, q⟩ := h
  rw [Vals.ref1 r]
  obtain ⟨o, es, ep, t, ho, ⟨hx, hd⟩, ⟨ge, pm, nd⟩, ⟨hb, hf, hr⟩, hl⟩ := (show TSet X.w s.heap a M from (I.hok a _ ha).1)
  refine Calls.call_function_entry kind_sorted plain_sorted entry_sorted (args_sorted1 _) ?_
  unfold Builtin.«sorted»
  refine wpAny_bind (m := checkCount "sorted" 1 1 _) (wpAny_pure ?_)
  refine wpAny_bind (collect_set (A := X.A.in1) (I.ok.hd hc) ⟨o, ho, hx.1, hd⟩ hf hb hr hl fun s1 out k1 hz g1 o1 po => ?_)
  obtain ⟨ks, hS, pk⟩ := strs_perm po (strs_txt ge)
  have hlen : out.length = M.length := by
    have e1 := po.length_eq
    have e2 := pm.length_eq
    rw [List.length_map] at e1 e2
    rw [e1, e2]
  refine wpAny_bind (wpAny_newList ?_ (by rw [hlen, sizeLine_eq]; omega))
  have oL : (s1.heap.push (seqObj "list" out.toArray 0)).get? s1.heap.objs.size = some (seqObj "list" out.toArray 0) := Heap.get?_push_size _ rfl
  refine wpAny_bind (wpAny_holding (wpAny_call_entry slot_list_sort ⟨_, oL, rfl⟩ entry_list_sort
    (list_sort_treeK strKind_oneLt oL hS.keysOf (fun v₁ v₂ rest e => keyKind_strs (by rw [← e]; exact hS)) (by rw [hlen]; exact h64) fun st' hp hs => ⟨_, rfl, ?_⟩) (args_list_sort _)))
  obtain ⟨ys, y1, y2, y3⟩ := sorted_out_str hS hp hs
  obtain ⟨c, hc'⟩ := sortedHeap_at (vs := out) (out := (arrOf st').map (·.2)) oL
  have pM : ys.Perm M := y2.trans (pk.trans pm)
  have hp0 : H s1.heap.objs.size = none := I.hok.fresh hz
  have kk : ∀ b u, s.heap.get? b = some u → (sortedHeap (s1.heap.push (seqObj "list" out.toArray 0)) s1.heap.objs.size out ((arrOf st').map (·.2))).get? b = some u := fun b u e => by
    have e1 := k1 b u e
    have lt := Heap.lt_size e1
    rw [sortedHeap_old (Nat.ne_of_lt lt) (by rw [size_push']; exact Nat.lt_succ_of_lt lt)]
    exact Heap.get?_push_of_some _ e1
  have hys : (ys.map V.str).length ≤ sizeLine := by
    rw [List.length_map, pM.length_eq, sizeLine_eq]
    omega
  refine wpAny_pure ⟨_, rfl, ?_⟩
  generalize hh' : sortedHeap (s1.heap.push (seqObj "list" out.toArray 0)) s1.heap.objs.size out ((arrOf st').map (·.2)) = h' at hc' kk ⊢
  have J : Inv X pins σ (upd H s1.heap.objs.size (.lst (ys.map V.str))) { s with heap := h', gens := s1.gens, drawn := s1.drawn, toks := s1.toks } :=
    I.call (ch := []) (Un.laid kk hz hp0) (I.hok.laid kk hz ⟨hys, ((arrOf st').map (·.2)).toList, c, vals_of_strs y1, by rw [Array.toArray_toList]; exact hc'⟩) (by rw [g1]; exact I.bare) (fun _ z => nomatch z)
  refine ⟨.ref s1.heap.objs.size, _, ?_, rfl, q ys _ pM y3 hp0⟩
  have e : ({ s1 with heap := h' } : Shared) = { s with heap := h', gens := s1.gens, drawn := s1.drawn, toks := s1.toks } := by
    obtain ⟨_, _, _, _, os1⟩ := s1
    obtain ⟨_, _, _, _, os0⟩ := s
    cases o1
    rfl
  rw [e]
  exact J
end
end Ls
end
section
set_option Elab.async false
set_option linter.all false
set_option maxRecDepth 100000
set_option maxHeartbeats 4000000
namespace Ls
open PySem PySem.Spec PyProof.Rows L2
/-! ### e.f, a property that several classes share -/
/-- the classes S have the property f; its getter keeps sp -/
structure Prp (P : Program) (w : World) (K : PySem.W.Frag) (mg : Str → Option Value) (base : Heap) (CX : CXT) (k : Nat) (S : Addr → Prop) (f : Str) (sp : Sp) : Prop where
  ex : ∃ (p g : Addr) (fd : FuncData), (∀ C, S C → Cls K C ∧ PropOf K C f p g) ∧ FnOk P w K mg base CX k g fd ["self"] sp ∧ Binds K fd ["self"] []
def tPrp (S : Addr → Prop) (sp : Sp) (E : XK) (ta : TE) : TE := fun σ H Q => ta σ H fun x H1 => ∃ a C dx fs, x = .ref a ∧ H1 a = some (.ins C dx fs) ∧ S C ∧ sp [.ref a] H1 Q E
section
variable {X : Cx} {CX : CXT} {k : Nat} {S : Addr → Prop} {f : Str} {sp : Sp} {E : XK} {e : PySem.Expr} {pos : Pos} {ta : TE}
theorem pe_prp (c : Prp X.prog X.w X.K X.mg X.base CX k S f sp) (hr : Room (k + 1) X.A) (hx : Passes CX X.nox E) (he : PE X e ta) (hab : attributeBase e f X.env (eval e X.env) = eval e X.env := by rfl) : PE X (.Attribute e f pos) (tPrp S sp E ta) := by
  obtain ⟨p, g, fd, hc, F, hb⟩ := c.ex
  refine ⟨fun pins s σ H Q I h => ?_⟩
  refine attr_of hab (thn (he.run pins s σ H _ I h) fun u s1 ⟨x, H1, I1, rx, a, C, dx, fs, ex, ea, hS, q⟩ => ?_)
  subst ex
  obtain rfl : u = Value.ref a := rx
  exact getprop_ok I1 ea (hc C hS).1 (hc C hS).2 F hr hb .nil hx q
end
/-! ### xs.pop(i) within a comprehension's block -/
section
variable {X : Cx} {K : PySem.W.Frag} {o e : PySem.Expr} {to : TE} {t : TA} {apos cpos : Pos}
theorem pe_popK (hK : X.K = K) (ho : PE X o to) (ha : PA X [e] t) (hbase : attributeBase o "pop" X.env (eval o X.env) = eval o X.env := by rfl)
    (hfew : ((backTo cpos (starEach [e] X.env)).all (fun x => !x.1) && (backToKw cpos (keywordEach [] X.env)).all (fun x => x.1.isSome) && decide (([e] : List PySem.Expr).length + ([] : List Keyword).length + (if ([] : List Keyword).isEmpty then 0 else 1) < 30)) = true := by rfl)
    (hline : (apos.endLine == cpos.line) = true := by rfl) (hs : starEach [e] X.env = (false, eval e X.env) :: starEach [] X.env := by rfl) (hplain : (backTo cpos (starEach [] X.env)).any (·.1) = false := by rfl) :
    PE X (.Call (.Attribute o "pop" apos) [e] [] cpos) (tBM K "list" rPopAt to t) := by
  subst hK
  exact pe_bm PySem.F.plainAttrs_list PySem.F.slot_list_pop PySem.F.type_list_pop mt_popAt ho ha hbase hfew hline hs hplain
end
end Ls
end
section
set_option Elab.async false
set_option linter.all false
set_option maxRecDepth 100000
set_option maxHeartbeats 4000000
namespace Ls
open PySem PySem.Spec PyProof.Rows L2 TL
/-! ### what repr can show: lists and tuples of several -/
theorem show_all : ∀ {ds : List PyData}, (∀ d ∈ ds, d.showable = true) → PyData.showableAll ds = true
  | [], _ => rfl
  | d :: r, h => by
    show (d.showable && PyData.showableAll r) = true
    rw [h d (by simp), show_all fun x hx => h x (List.mem_cons_of_mem _ hx)]
    rfl
theorem depth_all {k : Nat} : ∀ {ds : List PyData}, (∀ d ∈ ds, d.depth ≤ k) → PyData.depthAll ds ≤ k
  | [], _ => Nat.zero_le _
  | d :: r, h => by
    show max d.depth (PyData.depthAll r) ≤ k
    have h1 := h d (by simp)
    have h2 := depth_all (ds := r) fun x hx => h x (List.mem_cons_of_mem _ hx)
    omega
theorem shown_all {n : Nat} : ∀ {ds : List PyData}, (∀ d ∈ ds, d.shown.length ≤ n) → ((PyData.shownAll ds).map (·.length)).sum ≤ ds.length * n ∧ (PyData.shownAll ds).length = ds.length
  | [], _ => ⟨Nat.zero_le _, rfl⟩
  | d :: r, h => by
    obtain ⟨h1, h2⟩ := shown_all (ds := r) fun x hx => h x (List.mem_cons_of_mem _ hx)
    have h0 := h d (by simp)
    show ((d.shown :: PyData.shownAll r).map (·.length)).sum ≤ (r.length + 1) * n ∧ (PyData.shownAll r).length + 1 = r.length + 1
    rw [List.map_cons, List.sum_cons, Nat.add_mul, Nat.one_mul, h2]
    exact ⟨by omega, rfl⟩
theorem Shw.listN {n k : Nat} {ds : List PyData} (h : ∀ d ∈ ds, Shw n d) (hd : ∀ d ∈ ds, d.depth ≤ k) (hk : k < 20) : Shw (ds.length * n + 2 * ds.length + 3) (.list ds) := ⟨show_all fun d hx => (h d hx).sh, by
  have := depth_all hd
  show PyData.depthAll ds + 1 ≤ 20
  omega, by
  obtain ⟨h1, h2⟩ := shown_all fun d hx => (h d hx).ln
  have := listText_len_le (PyData.shownAll ds)
  show (listText (PyData.shownAll ds)).length ≤ _
  omega⟩
theorem Shw.tupN {n k : Nat} {ds : List PyData} (h : ∀ d ∈ ds, Shw n d) (hd : ∀ d ∈ ds, d.depth ≤ k) (hk : k < 20) : Shw (ds.length * n + 2 * ds.length + 3) (.tuple ds) := ⟨show_all fun d hx => (h d hx).sh, by
  have := depth_all hd
  show PyData.depthAll ds + 1 ≤ 20
  omega, by
  obtain ⟨h1, h2⟩ := shown_all fun d hx => (h d hx).ln
  have := tupleText_len_le (PyData.shownAll ds)
  show (tupleText (PyData.shownAll ds)).length ≤ _
  omega⟩
theorem depth_tup {k : Nat} {ds : List PyData} (h : ∀ d ∈ ds, d.depth ≤ k) : (PyData.tuple ds).depth ≤ k + 1 := by
  have := depth_all h
  show PyData.depthAll ds + 1 ≤ k + 1
  omega
theorem depth_lst {k : Nat} {ds : List PyData} (h : ∀ d ∈ ds, d.depth ≤ k) : (PyData.list ds).depth ≤ k + 1 := by
  have := depth_all h
  show PyData.depthAll ds + 1 ≤ k + 1
  omega
theorem tvs_strs {H : Hp} : ∀ us : List Str, TVs H (us.map V.str) (us.map .str)
  | [] => .nil
  | u :: r => .cons (.str u) (tvs_strs r)
end Ls
end
section
set_option Elab.async false
set_option linter.all false
set_option maxRecDepth 100000
set_option maxHeartbeats 4000000
namespace Ls
open PySem PySem.Spec PyProof.Rows L2 TL
/-! ### tuples of texts, compared -/
theorem dp_strs {K : PySem.W.Frag} {H : Hp} : ∀ us : List Str, DpAll K H (us.map V.str) (us.map .str)
  | [] => .nil
  | u :: r => .cons (.str u) (dp_strs r)
theorem lay_strs : ∀ us : List Str, (∀ z ∈ us, PyData.strOk z = true) → PyData.canLayAll0 (us.map .str) = true
  | [], _ => rfl
  | u :: r, h => by
    show (PyData.strOk u && PyData.canLayAll0 (r.map .str)) = true
    rw [h u (by simp), lay_strs r fun z hz => h z (by simp [hz])]
    rfl
theorem shaped_strs (us : List Str) (ho : ∀ z ∈ us, PyData.strOk z = true) : SeqAt.shaped (.tuple (us.map .str)) = true := by
  have h : (PyData.tuple (us.map .str)).depth ≤ 1 := depth_tup fun d hd => by
    obtain ⟨z, _, rfl⟩ := List.mem_map.mp hd
    exact Nat.le_refl _
  show (PyData.canLay0 (.tuple (us.map .str)) && decide ((PyData.tuple (us.map .str)).depth ≤ 64)) = true
  rw [decide_eq_true (Nat.le_trans h (by decide)), Bool.and_true]
  exact lay_strs us ho
theorem eqv_strs (us : List Str) (ho : ∀ z ∈ us, PyData.strOk z = true) : PyData.eqv (.tuple (us.map .str)) (.tuple (us.map .str)) = true := SeqAt.eqv_refl _ (lay_strs us ho)
end Ls
end
section
set_option Elab.async false
set_option linter.all false
set_option maxRecDepth 100000
set_option maxHeartbeats 4000000
namespace Ls
open PySem PySem.Spec PyProof.Rows L2

/-! ### x == y, x != y, the class of y a proper subclass of that of x: y's own __eq__ is asked first -/
namespace OW
open PySem.W
section
variable {prog : Program} {w : World} {A : Around} {E : Value → Shared → Prop} {s : Shared} {K : Frag} {x y C D f : Addr} {ox oy : Obj} {od od' : Option Obj}
theorem rich_back {op : CmpOp} {Q : Value → Shared → Prop} (hu : A.units < cLine) (X : K.In s.heap) (I : InstAt s.heap x ox C od) (J : InstAt s.heap y oy D od') (hne : D ≠ C) (hsub : subIn K (.ref D) (.ref C) = some true)
    (one : wpAny (model prog w) A (tryCompare (.ref y) (cmpInfo op).2.2 (.ref x)) (fun r s' => ∃ v, r = some v ∧ Q v s') E s) : wpAny (model prog w) A (richCompare op (.ref x) (.ref y)) Q E s := by
  unfold richCompare
  simp only [oneThing_ref]
  refine wpAny_holding (wpAny_bind (wpAny_cRoomFor hu ?_))
  refine wpAny_bind (I.type.here (wpAny_bind (J.type.here ?_)))
  have e : ((Value.ref C != Value.ref D) = true) := by
    simp only [bne_iff_ne, ne_eq, Value.ref.injEq]
    exact fun z => hne z.symm
  rw [if_pos e]
  refine wpAny_bind ((looks_subIn X hsub).here ?_)
  rw [if_pos rfl]
  refine wpAny_bind (wpAny_mono one (fun r s' z => ?_) fun _ _ e => e)
  obtain ⟨v, rfl, hq⟩ := z
  exact wpAny_bind (wpAny_rule (wpAny_pure hq))
theorem eq_back {Q : Value → Shared → Prop} (hu : A.units < cLine) (X : K.In s.heap) (I : InstAt s.heap x ox C od) (J : InstAt s.heap y oy D od') (hne : D ≠ C) (hsub : subIn K (.ref D) (.ref C) = some true)
    (hs : findIn K (.ref D) "__eq__" = some (some (.ref f))) (hf : isFn K (.ref f) = true)
    (h : wpAny (model prog w) A (call (.ref f) [.ref y, .ref x]) (fun v s' => ∃ r, v = .bool r ∧ Q (.bool r) s') E s) : wpAny (model prog w) A (richCompare .Eq (.ref x) (.ref y)) Q E s := by
  refine rich_back hu X I J hne hsub ?_
  unfold tryCompare
  refine wpAny_bind (ifBound_K X J hs hf (wpAny_mono h (fun v s' hv => ?_) fun _ _ e => e))
  obtain ⟨r, rfl, q⟩ := hv
  exact wpAny_pure ⟨_, rfl, q⟩
theorem ne_back {Q : Value → Shared → Prop} (hu : A.units + 1 < cLine) (X : K.In s.heap) (I : InstAt s.heap x ox C od) (J : InstAt s.heap y oy D od') (hne' : D ≠ C) (hsub : subIn K (.ref D) (.ref C) = some true)
    (hs : findIn K (.ref D) "__eq__" = some (some (.ref f))) (hf : isFn K (.ref f) = true) (hne : findIn K (.ref D) "__ne__" = some (some (.builtin "object.__ne__"))) (hm : mroIn K D (.type "object") = some true)
    (h : wpAny (model prog w) A.in1 (call (.ref f) [.ref y, .ref x]) (fun v s' => ∃ r, v = .bool r ∧ Q (.bool (!r)) s') E s) : wpAny (model prog w) A (richCompare .NotEq (.ref x) (.ref y)) Q E s := by
  refine rich_back (by omega) X I J hne' hsub ?_
  have sub : Looks (model prog w) s.heap (isInstance (.ref y) (.type "object")) true := J.type.andThen (looks_mroIn X hm)
  have bd : bindSpecial (.builtin "object.__ne__") (.ref y) = pure (.builtin "object.__ne__", [.ref y]) := PySem.F.cmp_object.ne.bind _
  unfold tryCompare
  refine wpAny_bind (ifBound_B X J hne bd ?_)
  obtain ⟨hp, g, d, t, os⟩ := s
  refine wpAny_call (codeAny_call_builtin PySem.F.cmp_object.ne.plain PySem.F.cmpEntry_ne (@check_slot (model prog w) _ _ ⟨hp, g, d, t, os⟩ "object.__ne__" "object" "__ne__" (.ref y) [.ref x] [] _ PySem.F.cmpKind_ne PySem.F.cmpSplit_ne sub (PySem.F.cmpArgs_ne _ _) ?_))
  refine ne_body (A := A.in1) hu X J hs hf (wpAny_mono h (fun v s' hv => ?_) fun _ _ e => e)
  obtain ⟨r, rfl, q⟩ := hv
  exact ⟨_, rfl, wpAny_pure ⟨_, rfl, q⟩⟩
end
end OW
/-- x == y, both instances, y's class a proper subclass -/
def rEqR (K : PySem.W.Frag) (f : Addr) (sp : Sp) (E : XK) : R2 := fun x y H Q => ∃ (a b C D dx dy : Addr) (fs gs : List (Str × V)), x = .ref a ∧ y = .ref b ∧ H a = some (.ins C dx fs) ∧ H b = some (.ins D dy gs) ∧ D ≠ C ∧ PySem.W.subIn K (.ref D) (.ref C) = some true ∧
  PySem.W.findIn K (.ref D) "__eq__" = some (some (.ref f)) ∧ sp [.ref b, .ref a] H (fun v H' => ∃ r, v = .bl r ∧ Q (.bl r) H') E
def rNeR (K : PySem.W.Frag) (f : Addr) (sp : Sp) (E : XK) : R2 := fun x y H Q => ∃ (a b C D dx dy : Addr) (fs gs : List (Str × V)), x = .ref a ∧ y = .ref b ∧ H a = some (.ins C dx fs) ∧ H b = some (.ins D dy gs) ∧ D ≠ C ∧ PySem.W.subIn K (.ref D) (.ref C) = some true ∧
  PySem.W.findIn K (.ref D) "__eq__" = some (some (.ref f)) ∧ PySem.W.findIn K (.ref D) "__ne__" = some (some (.builtin "object.__ne__")) ∧ PySem.W.mroIn K D (.type "object") = some true ∧ sp [.ref b, .ref a] H (fun v H' => ∃ r, v = .bl r ∧ Q (.bl (!r)) H') E
section
variable {X : Cx} {CX : CXT} {n : Nat} {f : Addr} {sp : Sp} {E : XK}
theorem op_eqR (F : FnR X.prog X.w X.K X.mg X.base CX n f sp) (hf : PySem.W.isFn X.K (.ref f) = true) (hr : Room n X.A) (hx : Passes CX X E) : OpR X (compareOp .Eq) (rEqR X.K f sp E) := by
  intro pins s σ H x y v u Q I rx ry h
  obtain ⟨a, b, C, D, dx, dy, fs, gs, rfl, rfl, ha, hb, hne, hsub, hs, q⟩ := h
  cases (show v = Value.ref a from rx)
  cases (show u = Value.ref b from ry)
  obtain ⟨mA, J, _⟩ := ins_get I.hok ha
  obtain ⟨od, J, _⟩ := J.look
  obtain ⟨mB, J2, _⟩ := ins_get I.hok hb
  obtain ⟨od2, J2, _⟩ := J2.look
  show wpAny (model X.prog X.w) X.A (richCompare .Eq (.ref a) (.ref b)) (EP X pins σ Q) X.xe s
  refine OW.eq_back hr.units0 I.kIn J J2 hne hsub hs hf ?_
  have r2 : Vals [V.ref b, V.ref a] [Value.ref b, Value.ref a] := .cons rfl (.cons rfl .nil)
  refine thn (wpAny_call (run_fnR F hr hx I r2 q)) fun w' s' ⟨z, H', I', rz, r, ez, q'⟩ => ?_
  subst ez
  cases rz
  exact ⟨r, rfl, .bl r, H', I', rfl, q'⟩
theorem op_neR (F : FnR X.prog X.w X.K X.mg X.base CX n f sp) (hf : PySem.W.isFn X.K (.ref f) = true) (hr : Room (n + 1) X.A) (hx : ∀ (pins : List (Addr × Obj)) (σ : L2.St) (H : Hp) (s : Shared) (e : Value) (s' : Shared), Inv X pins σ H s → CX X.stack H s E e s' → X.xe e s') : OpR X (compareOp .NotEq) (rNeR X.K f sp E) := by
  intro pins s σ H x y v u Q I rx ry h
  obtain ⟨a, b, C, D, dx, dy, fs, gs, rfl, rfl, ha, hb, hne', hsub, hs, hne, hm, q⟩ := h
  cases (show v = Value.ref a from rx)
  cases (show u = Value.ref b from ry)
  obtain ⟨mA, J, _⟩ := ins_get I.hok ha
  obtain ⟨od, J, _⟩ := J.look
  obtain ⟨mB, J2, _⟩ := ins_get I.hok hb
  obtain ⟨od2, J2, _⟩ := J2.look
  show wpAny (model X.prog X.w) X.A (richCompare .NotEq (.ref a) (.ref b)) (EP X pins σ Q) X.xe s
  refine OW.ne_back (by have := hr.units; omega) I.kIn J J2 hne' hsub hs hf hne hm ?_
  refine wpAny_call (codeAny_mono (F X.A.in1 X.stack s H [.ref b, .ref a] [.ref b, .ref a] _ E hr.in1 I.env0.in1 (.cons rfl (.cons rfl .nil)) q) fun r s' hq => ?_)
  match r, hq with
  | .error e, hq => exact hx pins σ H s e s' I hq
  | .ok (.ret w'), hq =>
    obtain ⟨z, H', I', rz, r, ez, q'⟩ := I.after hq
    subst ez
    cases rz
    exact ⟨r, rfl, .bl (!r), H', I', rfl, q'⟩
/-- both ways -/
theorem OpR.or {op : Value → Value → Sem Value} {r1 r2 : R2} (h1 : OpR X op r1) (h2 : OpR X op r2) : OpR X op (fun x y H Q => r1 x y H Q ∨ r2 x y H Q) := fun pins s σ H x y v u Q I rx ry h =>
  h.elim (fun h => h1 pins s σ H x y v u Q I rx ry h) fun h => h2 pins s σ H x y v u Q I rx ry h
theorem op_eqB (F : FnR X.prog X.w X.K X.mg X.base CX n f sp) (hf : PySem.W.isFn X.K (.ref f) = true) (hr : Room n X.A) (hx : Passes CX X E) : OpR X (compareOp .Eq) (fun x y H Q => rEqO X.K f sp E x y H Q ∨ rEqR X.K f sp E x y H Q) := OpR.or (op_eqO F hf hr hx) (op_eqR F hf hr hx)
theorem op_neB (F : FnR X.prog X.w X.K X.mg X.base CX n f sp) (hf : PySem.W.isFn X.K (.ref f) = true) (hr : Room (n + 1) X.A) (hx : ∀ (pins : List (Addr × Obj)) (σ : L2.St) (H : Hp) (s : Shared) (e : Value) (s' : Shared), Inv X pins σ H s → CX X.stack H s E e s' → X.xe e s') : OpR X (compareOp .NotEq) (fun x y H Q => rNeO X.K f sp E x y H Q ∨ rNeR X.K f sp E x y H Q) := OpR.or (op_neO F hf hr hx) (op_neR F hf hr hx)
end

/-! ### X(), an own error class without an __init__; isinstance of a kept error, a tuple of classes -/
section
variable {X : Cx} {C : Addr} {bmB : List Value} {B newId initId : String}
theorem pmk_own0 {x : Str} {p pos : Pos} (F : ExcBaseFacts B newId initId bmB) (q : PySem.W.excIn X.K C bmB newId = true) (gC : X.mg x = some (.ref C)) (kC : PySem.W.keepIn X.K (.ref C) = true) (r : Raises X (.ref C)) (hg : Gl X x)
    (hdb : (x == ("__debug__" : Str)) = false := by decide) : PMk X (.Call (.Name x p) [] [] pos) (fun _ H Q => Q (.ref C) none H) := by
  intro pins s σ H Q I h
  refine wpAny_Call_Name_kw (ld_glob I hg gC ?_ hdb)
  refine PySem.W.callWith_K0 I.kIn kC ?_
  obtain ⟨bm, N, nm, qn, bs, hdct, sn, sub, ab, col, dd, k0, k1, k2, k3, k5, mN, hC, hN, hni, T⟩ := exc_obj I.kIn q
  refine wpAny_call_exc_subT F T hC hN hni (fun h' e hm => ?_) (Nat.zero_le _)
  exact mk_of I hm r h (I.hok.gone hm.new)
def rIsXT (K : PySem.W.Frag) : List V → Hp → VK → Prop := fun xs H Q => ∃ (a D tp : Addr) (d : Option Addr) (cs : List V) (us : List Value) (b : Bool), xs = [.ref a, .ref tp] ∧ H a = some (exk a (.ref D) d) ∧ ExcC K D ∧ (∀ dd, d = some dd → ∃ fs, H dd = some (.xd fs)) ∧ H tp = some (.tup cs) ∧ Paired ClsV cs us ∧ PySem.W.kitAny K (.ref D) us = some b ∧ Q (.bl b) H
theorem call_isXT : CallR X (.builtin "isinstance") (rIsXT X.K) := by
  intro pins s σ H xs us Q I r h
  obtain ⟨a, D, tp, d, cs, ws, b, rfl, ea, C, hd, hT, k, e, q⟩ := h
  obtain ⟨u1, u2, rfl, r1, r2⟩ := vals2 r
  cases (show u1 = Value.ref a from r1)
  cases (show u2 = Value.ref tp from r2)
  obtain ⟨oe, od, J⟩ := inst_of I ea hd
  have hcl : (PySem.W.clsIn X.K D).isSome = true := by
    obtain ⟨cd, hc, _⟩ := PySem.W.any_some C.hd
    rw [hc]
    rfl
  obtain ⟨_, its, rv, o, h1, h2, n, h3⟩ := (show ObjOk X.prog X.w H s.heap tp (.tup cs) from I.hok tp _ hT)
  have e3 := ClsV.all k rv
  subst e3
  obtain ⟨oc, od', dt, sl⟩ := o
  simp only at h2 h3
  subst h2 h3
  exact PySem.W.kia_tup (PySem.W.kitx_exc hcl C.hg C.hk C.hs C.ha C.hn C.ht C.hm) I.kIn J h1 e (fun z => nomatch z) fun tk => ⟨.bl b, H, I.kept (t' := tk) fun _ _ z => z, rfl, q⟩
end
end Ls
end
section
set_option Elab.async false
set_option linter.all false
set_option maxRecDepth 100000
set_option maxHeartbeats 4000000
namespace Ls
open PySem PySem.Spec PyProof.Rows L2 TL
/-! ### numbers and dicts that repr can show -/
theorem Shw.int10 {a : Int} {k : Nat} (hk : 0 < k) (h : a.natAbs < 10 ^ k) (h2 : k ≤ 450) : Shw (k + 1) (.int a) := ⟨by
  show decide (a.natAbs.log2 < 1920) = true
  refine decide_eq_true ?_
  by_cases e : a.natAbs = 0
  · rw [e]
    decide
  · rw [Nat.log2_lt e]
    refine Nat.lt_trans h (Nat.lt_of_le_of_lt (Nat.pow_le_pow_right (by decide) h2) ?_)
    decide +kernel, Nat.zero_le _, by
  show (Str.ofString (toString a)).length ≤ _
  rw [PySem.ofString_length]
  exact int_text_length_le10 hk h⟩
theorem Shw.dict1 {n m : Nat} {a b : PyData} (ha : Shw n a) (hb : Shw m b) (hd : a.depth < 20) (hd2 : b.depth < 20) : Shw (n + m + 7) (.dict [(a, b)]) := ⟨by
  show (a.showable && b.showable && true) = true
  rw [ha.sh, hb.sh]
  rfl, by
  show max (max a.depth b.depth) 0 + 1 ≤ 20
  omega, by
  have := dictText_len_le [a.shown ++ (": " : Str) ++ b.shown]
  have := ha.ln
  have := hb.ln
  show (dictText [a.shown ++ (": " : Str) ++ b.shown]).length ≤ _
  have e2 : (": " : Str).length = 2 := by decide +kernel
  simp [Str.length_append, e2] at *
  omega⟩
end Ls
end
section
set_option Elab.async false
set_option linter.all false
set_option maxRecDepth 100000
set_option maxHeartbeats 4000000
namespace Ls
open PySem PySem.Spec PyProof.Rows L2
/-! ### C(a = v), no positional argument -/
/-- the class under the module's name x, made by one argument given by its name -/
structure MkcK (P : Program) (w : World) (K : PySem.W.Frag) (mg : Str → Option Value) (base : Heap) (CX : CXT) (k : Nat) (C : Addr) (x a : Str) (sp : Sp) : Prop where
  ex : ∃ f fd, mg x = some (.ref C) ∧ Mk K C f ∧ FnOk P w K mg base CX k f fd ["self", a] sp ∧ KBn K fd ["self", a] 1 [a] (fun us ws => us ++ ws) (fun vs zs => vs ++ zs)
section
variable {X : Cx} {CX : CXT} {k : Nat} {C : Addr} {sp : Sp} {E : XK} {x a : Str} {p pos : Pos} {kws : List Keyword} {tk : TA}
theorem pe_makeK0 (c : MkcK X.prog X.w X.K X.mg X.base CX k C x a sp) (hr : Room (k + 1) X.A) (hg : Gl X x) (hx : Passes CX X E) (hkw : PK X kws tk)
    (hall : (backToKw pos (keywordEach kws X.env)).all (·.1.isSome) = true := by rfl) (hks : (backToKw pos (keywordEach kws X.env)).filterMap (·.1) = [a] := by rfl)
    (hdb : (x == ("__debug__" : Str)) = false := by decide)
    (hpl : ((backTo pos (starEach [] X.env)).any (·.1) || (backToKw pos (keywordEach kws X.env)).any (·.1.isNone)) = false := by rfl) :
    PE X (.Call (.Name x p) [] kws pos) (tMakeN C 0 1 sp (fun vs zs => vs ++ zs) E tNil tk) := by
  obtain ⟨f, fd, hm, M, F, hb⟩ := c.ex
  refine ⟨fun pins s σ H Q I h => ?_⟩
  refine wpAny_Call_Name_kw (ld_glob I hg hm ?_ hdb)
  refine PySem.W.callWith_KW0 (h₀ := X.base) I.ok.mod.kin M.kp hall ?_ hpl
  refine thn (hkw.run pos pins s σ H _ I h) fun ws s2 ⟨zs, H2, I2, rz, l1, l2, q2⟩ => ⟨I2.kIn, ?_⟩
  rw [hks]
  exact run_makeN (us := []) (vs := []) M F hr hb hx I2 .nil rz l1 l2 q2
end
theorem kbn_self {K : PySem.W.Frag} {x qual : Str} {st : Stmt} {f : Addr} {fd : FuncData} {a : Str} (F : Fun K x qual st f fd)
    (h : ∀ (kV doc pm : Value) (an : Option Addr) (cdv ct u v : Value), bindArgs (PySem.W.fnOf x qual (defArgs st) (defBody st) (defScope st) .none kV doc pm an cdv ct) ⟨[u], [(a, v)]⟩ = pure [(("self" : Str), u), (a, v)]) :
    KBn K fd ["self", a] 1 [a] (fun us ws => us ++ ws) (fun vs zs => vs ++ zs) := by
  obtain ⟨oc, od, kV, doc, pm, an, cdv, ct, osl, rfl, lk, hcd⟩ := F.ex
  refine ⟨fun s us ws _ l1 l2 => ?_, fun r1 r2 => r1.append r2⟩
  match us, ws, l1, l2 with
  | [v], [u], _, _ => exact .of_eq (h kV doc pm an cdv ct v u)
/-! ### xs[::-1] within a comprehension's block -/
theorem pe_revLK {X : Cx} {K : PySem.W.Frag} {e : Expr} {te : TE} {k : Nat} {p1 p2 p3 pos : Pos} (hK : X.K = K) (he : PE X e te) : PE X (.Subscript e (.Slice none none (some (.UnaryOp .USub (.Constant (.int 1) k p1) p2)) p3) pos) (tRevL K te) := by
  subst hK
  exact pe_revL he
/-! ### lists of texts, compared -/
theorem eqvAll_strs : ∀ us vs : List Str, PyData.eqvAll (us.map .str) (vs.map .str) = decide (us = vs)
  | [], [] => rfl
  | [], _ :: _ => rfl
  | _ :: _, [] => rfl
  | u :: us, v :: vs => by
    show ((u == v) && PyData.eqvAll (us.map .str) (vs.map .str)) = _
    rw [eqvAll_strs us vs]
    by_cases h : u = v
    · subst h
      simp
    · rw [show (u == v) = false from beq_eq_false_iff_ne.mpr h, Bool.false_and]
      exact (decide_eq_false fun e => h (List.cons.inj e).1).symm
end Ls
end
section
set_option Elab.async false
set_option linter.all false
set_option maxRecDepth 100000
set_option maxHeartbeats 4000000
namespace K01
open PySem PySem.Spec PyProof.Rows L2 Ls
open C8 (pss_cut tCut)
open TL
def top (i : Nat) : Stmt := PySem.Challenge.pw_loopstow_k01_deeds.main.body.getD i (.Pass ⟨0, 0, 0, 0⟩)
def bns : List Str := ["len", "int", "abs", "list", "str", "isinstance", "all", "range", "tuple", "super", "repr", "set", "sorted", "min", "ValueError", "LookupError", "ArithmeticError", "TypeError", "RuntimeError", "AttributeError"]
def lettersS : Str := "abcdefghijklmnopqrstuvwxyz"
/-- what the top has left, for the defs; EC: where the error classes stand -/
structure Tx (K : PySem.W.Frag) (mg : Str → Option Value) (EC : Str → Addr) (CE CD CU CM CO : Addr) (tL tN tU : Tok) : Prop where
  bn : ∀ x ∈ bns, mg x = none
  m_LETTERS : mg "LETTERS" = some (.str lettersS tL)
  m_LONGEST_NAME : mg "LONGEST_NAME" = some (.int 6 tN)
  m_MOST_USED : mg "MOST_USED" = some (.int 3 tU)
  m_StowError : mg "StowError" = some (.ref CE)
  m_Deed : mg "Deed" = some (.ref CD)
  m_Use : mg "Use" = some (.ref CU)
  m_Make : mg "Make" = some (.ref CM)
  m_Do : mg "Do" = some (.ref CO)
  m_BadName : mg "BadName" = some (.ref (EC "BadName"))
  m_BadDeed : mg "BadDeed" = some (.ref (EC "BadDeed"))
  m_BadMove : mg "BadMove" = some (.ref (EC "BadMove"))
  m_BadNumber : mg "BadNumber" = some (.ref (EC "BadNumber"))
  m_BadPrice : mg "BadPrice" = some (.ref (EC "BadPrice"))
  m_BadPlace : mg "BadPlace" = some (.ref (EC "BadPlace"))
  m_BadPart : mg "BadPart" = some (.ref (EC "BadPart"))
  m_BadSlots : mg "BadSlots" = some (.ref (EC "BadSlots"))
  m_BadStanding : mg "BadStanding" = some (.ref (EC "BadStanding"))
  m_BadRule : mg "BadRule" = some (.ref (EC "BadRule"))
  m_Twice : mg "Twice" = some (.ref (EC "Twice"))
  m_TooMany : mg "TooMany" = some (.ref (EC "TooMany"))
  m_Unmade : mg "Unmade" = some (.ref (EC "Unmade"))
  m_MadeAgain : mg "MadeAgain" = some (.ref (EC "MadeAgain"))
  m_NoRoom : mg "NoRoom" = some (.ref (EC "NoRoom"))
  m_Crowded : mg "Crowded" = some (.ref (EC "Crowded"))
  m_Barred : mg "Barred" = some (.ref (EC "Barred"))
  m_BadPlan : mg "BadPlan" = some (.ref (EC "BadPlan"))
  m_NoLoop : mg "NoLoop" = some (.ref (EC "NoLoop"))
  m_HasLoop : mg "HasLoop" = some (.ref (EC "HasLoop"))
  m_OneLoop : mg "OneLoop" = some (.ref (EC "OneLoop"))
  m_TwoLoops : mg "TwoLoops" = some (.ref (EC "TwoLoops"))
  m_Finished : mg "Finished" = some (.ref (EC "Finished"))
  m_BadText : mg "BadText" = some (.ref (EC "BadText"))
  m_BadLine : mg "BadLine" = some (.ref (EC "BadLine"))
/-! ### the pen -/
/-- a pen stands at p, its cells at c; at most n cells were read -/
def PenAt (H : Hp) (p c : Addr) (n : Nat) : Prop := ∃ (ns : List Int) (a r : Int), H p = some (.lst [.ref c, .int a, .int r]) ∧ H c = some (.lst (ns.map V.int)) ∧ p ≠ c ∧ 0 ≤ a ∧ a ≤ n ∧ 0 ≤ r ∧ ns.length ≤ 63
theorem PenAt.mono {H : Hp} {p c : Addr} {n m : Nat} (h : PenAt H p c n) (l : n ≤ m) : PenAt H p c m := let ⟨ns, a, r, h1, h2, h3, h4, h5, h6, h7⟩ := h; ⟨ns, a, r, h1, h2, h3, h4, by omega, h6, h7⟩
theorem PenAt.upd {H : Hp} {p c a : Addr} {n : Nat} {o : HO} (h : PenAt H p c n) (np : p ≠ a) (nc : c ≠ a) : PenAt (upd H a o) p c n := by
  obtain ⟨ns, b, r, h1, h2, h3⟩ := h
  exact ⟨ns, b, r, by rw [upd_ne np]; exact h1, by rw [upd_ne nc]; exact h2, h3⟩
theorem PenAt.ext {H H' : Hp} {p c : Addr} {n : Nat} (h : PenAt H p c n) (e : Ext H H') : PenAt H' p c n := by
  obtain ⟨ns, b, r, h1, h2, h3⟩ := h
  exact ⟨ns, b, r, e _ _ h1, e _ _ h2, h3⟩
theorem PenAt.ne {H : Hp} {p c a : Addr} {n : Nat} (h : PenAt H p c n) (ha : H a = none) : p ≠ a ∧ c ≠ a := by
  obtain ⟨ns, b, r, h1, h2, _⟩ := h
  exact ⟨ne_of_none h1 ha, ne_of_none h2 ha⟩
theorem PenAt.tabs {H H' : Hp} {p c : Addr} {n : Nat} {TT : List (Addr × Str)} (h : PenAt H p c n) (t : LamX.Tabs TT H) (k : Keep p c H H') : LamX.Tabs TT H' := by
  obtain ⟨ns, b, r, h1, h2, _⟩ := h
  exact tabs_keep t k h1 h2
theorem PenAt.extN {H H' : Hp} {p c : Addr} {n : Nat} (h : PenAt H p c n) (e : LamX.ExtN H H') : PenAt H' p c n := by
  obtain ⟨ns, b, r, h1, h2, h3⟩ := h
  exact ⟨ns, b, r, e _ _ h1 (fun ps z => nomatch z), e _ _ h2 (fun ps z => nomatch z), h3⟩
def spDraw : Sp := fun vs H Q _ => ∃ (p c : Addr) (n : Nat) (many : Int), vs = [.ref p, .int many] ∧ PenAt H p c n ∧ n < 1048576 ∧ 0 < many ∧ many < 1073741824 ∧
  ∀ (j : Int) (H' : Hp), 0 ≤ j → j < many → PenAt H' p c (n + 1) → Keep p c H H' → Q (.int j) H'
section
variable {P : Program} {w : World} {K : PySem.W.Frag} {mg : Str → Option Value} {base : Heap} {EC : Str → Addr} {CE CD CU CM CO : Addr} {tL tN tU : Tok}
abbrev s__law_draw : Stmt := top 43
abbrev N__law_draw : List Str := ["_law_pen_here", "_law_many", "_law_digit", "_law_at", "_law_cell", "_law_great", "_law_mixed"]
theorem sc__law_draw : FnScope N__law_draw ["_law_pen_here", "_law_many"] (defScope s__law_draw) := ⟨rfl, rfl, rfl, by decide +kernel, rfl, by decide +kernel, by decide +kernel⟩
theorem pow18 : ((10 : Int) ^ (18 : Int).toNat) = 1000000000000000000 := by decide +kernel
theorem ok_draw {f : Addr} {fd : FuncData} (F : Fun K "_law_draw" "_law_draw" s__law_draw f fd) (T : Tx K mg EC CE CD CU CM CO tL tN tU) : FnOk P w K mg base CX0 1 f fd ["_law_pen_here", "_law_many"] spDraw := by
  refine F.ok sc__law_draw (fun vs H Q E h => ?_) (fun cdv A outer s H vs Q E hr h => ?_)
  · obtain ⟨p, c, n, many, rfl, _⟩ := h
    rfl
  · obtain ⟨p, c, n, many, rfl, ⟨ns, a, r, hp, hc, npc, a0, an, r0, hz⟩, n1, m0, m1, k⟩ := h
    have hu := hu_of hr
    refine ⟨_, (pss_cons (ps_if (pt_cmpR op_gt (pe_ix ix_list (pv 0) pe_int (fun _ _ => rfl)) pe_int (nomark _)) (pss_cons (ps_set (i := 2) sc__law_draw.nd rfl (by first | exact Or.inl rfl | exact Or.inr rfl) (pe_op op_mod (pe_callTy call_int1 (by rfl) (T.bn _ (by decide +kernel)) (by decide +kernel) (pa_cons (pe_ix ix_list (pv 0) pe_int (fun _ _ => rfl)) pa_nil)) (pv 1)))
      (pss_cons (ps_asg (pe_op op_fdiv (pe_callTy call_int1 (by rfl) (T.bn _ (by decide +kernel)) (by decide +kernel) (pa_cons (pe_ix ix_list (pv 0) pe_int (fun _ _ => rfl)) pa_nil)) (pv 1)) (pg_sub (pv 0) pe_int set_list))
      (pss_one (ps_ret (pv 2))))) pss_nil)
      (pss_cons (ps_set (i := 3) sc__law_draw.nd rfl (by first | exact Or.inl rfl | exact Or.inr rfl) (pe_ix ix_list (pv 0) pe_int (fun _ _ => rfl)))
      (pss_cons (ps_asg (pe_op op_add (pv 3) pe_int) (pg_sub (pv 0) pe_int set_list))
      (pss_cons (ps_set (i := 4) sc__law_draw.nd rfl (by first | exact Or.inl rfl | exact Or.inr rfl) (pe_op op_add (pe_op op_mul pe_int (pv 3)) pe_int))
      (pss_cut (ps_if (pt_cmpR (op_neNil hr) (pe_ix ix_list (pv 0) pe_int (fun _ _ => rfl)) (pe_lst pa_nil) (nomark _)) (pss_one (ps_set (i := 4) sc__law_draw.nd rfl (by first | exact Or.inl rfl | exact Or.inr rfl) (pe_ix ix_list (pe_ix ix_list (pv 0) pe_int (fun _ _ => rfl)) (pe_op op_mod (pe_callTy call_int1 (by rfl) (T.bn _ (by decide +kernel)) (by decide +kernel) (pa_cons (pv 3) pa_nil)) (pe_callB call_len_seq (by rfl) (T.bn _ (by decide +kernel)) (by decide +kernel) (pa_cons (pe_ix ix_list (pv 0) pe_int (fun _ _ => rfl)) pa_nil))) (fun _ _ => rfl)))) pss_nil)
      (pss_cut (ps_if ((pw_and (pt_cmpR op_lt (pv 3) (pe_callB call_len_seq (by rfl) (T.bn _ (by decide +kernel)) (by decide +kernel) (pa_cons (pe_ix ix_list (pv 0) pe_int (fun _ _ => rfl)) pa_nil)) (nomark _)) (pw_and1 (pt_cmpR op_ge (pe_callB call_abs (by rfl) (T.bn _ (by decide +kernel)) (by decide +kernel) (pa_cons (pv 4) pa_nil)) (pe_op op_pow pe_int pe_int) (nomark _))))).pt (pss_cons (ps_set (i := 5) sc__law_draw.nd rfl (by first | exact Or.inl rfl | exact Or.inr rfl) (pe_op op_add (pe_op op_mul pe_int (pe_op op_sub (pe_callB call_abs (by rfl) (T.bn _ (by decide +kernel)) (by decide +kernel) (pa_cons (pv 4) pa_nil)) (pe_op op_pow pe_int pe_int))) (pe_callTy call_int1 (by rfl) (T.bn _ (by decide +kernel)) (by decide +kernel) (pa_cons (pe_cmpR op_lt (pv 4) pe_int (nomark _)) pa_nil))))
      (pss_cons (ps_asg (pe_op op_fdiv (pe_callTy call_int1 (by rfl) (T.bn _ (by decide +kernel)) (by decide +kernel) (pa_cons (pv 5) pa_nil)) (pv 1)) (pg_sub (pv 0) pe_int set_list))
      (pss_one (ps_ret (pe_op op_mod (pe_callTy call_int1 (by rfl) (T.bn _ (by decide +kernel)) (by decide +kernel) (pa_cons (pv 5) pa_nil)) (pv 1)))))) pss_nil)
      (pss_cons (ps_set (i := 6) sc__law_draw.nd rfl (by first | exact Or.inl rfl | exact Or.inr rfl) (pe_op op_mod (pe_callTy call_int1 (by rfl) (T.bn _ (by decide +kernel)) (by decide +kernel) (pa_cons (pe_op op_pow (pe_op op_add (pe_op op_add (pe_op op_mod (pe_callTy call_int1 (by rfl) (T.bn _ (by decide +kernel)) (by decide +kernel) (pa_cons (pv 4) pa_nil)) pe_int) (pe_op op_mul pe_int (pv 3))) pe_int) pe_int) pa_nil)) pe_int))
      (pss_cons (ps_set (i := 6) sc__law_draw.nd rfl (by first | exact Or.inl rfl | exact Or.inr rfl) (pe_op op_mod (pe_callTy call_int1 (by rfl) (T.bn _ (by decide +kernel)) (by decide +kernel) (pa_cons (pe_op op_pow (pe_op op_add (pe_op op_add (pe_op op_mul (pv 6) (pe_op op_add (pe_op op_mul pe_int (pv 3)) pe_int)) (pe_op op_mul (pe_op op_mul pe_int (pv 3)) (pv 3))) pe_int) pe_int) pa_nil)) pe_int))
      (pss_one (ps_ret (pe_op op_mod (pe_callTy call_int1 (by rfl) (T.bn _ (by decide +kernel)) (by decide +kernel) (pa_cons (pe_op op_fdiv (pv 6) pe_int) pa_nil)) (pv 1)))))))))))), ?_⟩
    refine ⟨_, rfl, p, _, 2, .int r, rfl, rfl, SqL.of hp, atI_nat (j := 2) rfl, r, 0, rfl, rfl, _, rfl, ?_⟩
    refine ite2 (fun hpos => ?_) (fun hno => ?_)
    · have hpos' : 0 < r := by simpa using hpos
      refine ⟨_, rfl, p, _, 2, .int r, rfl, rfl, SqL.of hp, atI_nat (j := 2) rfl, .inl ⟨r, rfl, _, rfl, _, _, rfl, rfl, m0, ?_⟩⟩
      refine ⟨_, rfl, p, _, 2, .int r, rfl, rfl, SqL.of hp, atI_nat (j := 2) rfl, .inl ⟨r, rfl, _, rfl, _, _, rfl, rfl, ⟨m0, m1⟩, ?_⟩⟩
      refine ⟨_, rfl, p, _, 2, 2, rfl, rfl, hp, rfl, ?_⟩
      refine ⟨_, rfl, k _ _ (Int.emod_nonneg _ (by omega)) (Int.emod_lt_of_pos _ m0) ⟨ns, a, r / many, upd_same, by rw [upd_ne npc.symm]; exact hc, npc, a0, by omega, Int.ediv_nonneg (by omega) (by omega), hz⟩ Keep.upd1⟩
    · refine ⟨_, rfl, p, _, 1, .int a, rfl, rfl, SqL.of hp, atI_nat (j := 1) rfl, ?_⟩
      refine ⟨_, rfl, _, _, rfl, rfl, ?_⟩
      refine ⟨_, rfl, p, _, 1, 1, rfl, rfl, hp, rfl, ?_⟩
      have hp1 : (upd H p (.lst [.ref c, .int (a + 1), .int r])) p = some (.lst [.ref c, .int (a + 1), .int r]) := upd_same
      have hc1 : (upd H p (.lst [.ref c, .int (a + 1), .int r])) c = some (.lst (ns.map V.int)) := by rw [upd_ne npc.symm]; exact hc
      have kp1 : Keep p c H (upd H p (.lst [.ref c, .int (a + 1), .int r])) := Keep.upd1
      refine ⟨_, rfl, _, _, rfl, rfl, .inl ⟨by decide, by decide⟩, _, _, rfl, rfl, ?_⟩
      -- behind the if: the cell is a number
      refine ⟨fun σ' H' => ∃ z : Int, σ' = [some (.ref p), some (.int many), none, some (.int a), some (.int z), none, none] ∧ H' p = some (.lst [.ref c, .int (a + 1), .int r]) ∧ H' c = some (.lst (ns.map V.int)) ∧ Keep p c H H', ?_, ?_⟩
      · refine ⟨_, rfl, p, _, 0, .ref c, rfl, rfl, SqL.of hp1, atI_nat (j := 0) rfl, (by show 0 ≤ sizeLine; decide), fun l hl => ?_⟩
        have npl : p ≠ l := ne_of_none hp1 hl
        have ncl : c ≠ l := ne_of_none hc1 hl
        refine ⟨c, l, _, rfl, rfl, by rw [upd_ne ncl]; exact hc1, upd_same, _, rfl, ?_⟩
        have hp2 : (upd (upd H p (.lst [.ref c, .int (a + 1), .int r])) l (.lst [])) p = some (.lst [.ref c, .int (a + 1), .int r]) := by rw [upd_ne npl]; exact hp1
        have hc2 : (upd (upd H p (.lst [.ref c, .int (a + 1), .int r])) l (.lst [])) c = some (.lst (ns.map V.int)) := by rw [upd_ne ncl]; exact hc1
        have kp2 : Keep p c H (upd (upd H p (.lst [.ref c, .int (a + 1), .int r])) l (.lst [])) := kp1.trans (Keep.new hl)
        cases ns with
        | nil =>
          refine iteF ?_
          exact ⟨_, rfl, hp2, hc2, kp2⟩
        | cons n0 ns =>
          refine iteT ?_
          have hlen : (0 : Int) < (((n0 :: ns).map V.int).length : Nat) := by simp
          have j0 := Int.emod_nonneg a (Int.ne_of_gt hlen)
          have j1 := Int.emod_lt_of_pos a hlen
          refine ⟨_, rfl, p, _, 0, .ref c, rfl, rfl, SqL.of hp2, atI_nat (j := 0) rfl, _, rfl, .inl ⟨a, rfl, _, rfl, p, _, 0, .ref c, rfl, rfl, SqL.of hp2, atI_nat (j := 0) rfl, c, _, rfl, .inl (SqL.of hc2), _, _, rfl, rfl, hlen, ?_⟩⟩
          have hj : (a % (((n0 :: ns).map V.int).length : Nat)).toNat < ((n0 :: ns).map V.int).length := by omega
          refine ⟨c, _, _, ((n0 :: ns).map V.int)[(a % (((n0 :: ns).map V.int).length : Nat)).toNat], rfl, rfl, SqL.of hc2, atI_at (j := (a % (((n0 :: ns).map V.int).length : Nat)).toNat) (by omega) (List.getElem?_eq_getElem hj), ?_⟩
          rw [List.getElem_map]
          exact ⟨_, rfl, hp2, hc2, kp2⟩
      · rintro σ' H1 ⟨z, rfl, hp1, hc1, kp1⟩
        have ab : (0 : Int) ≤ (if z < 0 then -z else z) := by split <;> omega
        have last : ∀ j : Int, 0 ≤ j → j < many → Q (.int j) H1 := fun j j0 j1 => k j H1 j0 j1 ⟨ns, a + 1, r, hp1, hc1, npc, by omega, by omega, r0, hz⟩ kp1
        refine ⟨fun σ' H' => σ' = [some (.ref p), some (.int many), none, some (.int a), some (.int z), none, none] ∧ H' = H1, ?_, ?_⟩
        · refine ⟨_, rfl, _, rfl, p, _, 0, .ref c, rfl, rfl, SqL.of hp1, atI_nat (j := 0) rfl, c, _, rfl, .inl (SqL.of hc1), _, _, rfl, rfl, _, rfl, ?_⟩
          refine ite2 (fun h1 => ?_) (fun h1 => ?_)
          · refine ⟨_, rfl, z, rfl, _, _, rfl, rfl, ⟨by decide, by decide, by decide⟩, _, _, rfl, rfl, _, rfl, ?_⟩
            refine ite2 (fun h2 => ?_) (fun h2 => ?_)
            · refine ⟨_, rfl, z, rfl, _, _, rfl, rfl, ⟨by decide, by decide, by decide⟩, _, _, rfl, rfl, _, _, rfl, rfl, .inl ⟨by decide, by decide⟩, ?_⟩
              refine ⟨_, rfl, _, _, rfl, rfl, .inr ⟨_, rfl, _, _, rfl, rfl, ?_⟩⟩
              refine ⟨_, rfl, .inl ⟨_, rfl, _, rfl, _, _, rfl, rfl, ⟨m0, m1⟩, ?_⟩⟩
              refine ⟨_, rfl, p, _, 2, 2, rfl, rfl, hp1, rfl, ?_⟩
              refine ⟨_, rfl, .inl ⟨_, rfl, _, rfl, _, _, rfl, rfl, m0, ?_⟩⟩
              refine k _ _ (Int.emod_nonneg _ (by omega)) (Int.emod_lt_of_pos _ m0) ⟨ns, a + 1, _, upd_same, by rw [upd_ne npc.symm]; exact hc1, npc, by omega, by omega, ?_, hz⟩ (kp1.trans Keep.upd1)
              refine Int.ediv_nonneg ?_ (by omega)
              have : (0 : Int) ≤ (if decide (z < 0) = true then 1 else 0) := by split <;> decide
              have h3 : ((10 : Int) ^ (18 : Int).toNat) ≤ (if z < 0 then -z else z) := by simpa using h2
              omega
            · exact ⟨rfl, rfl⟩
          · exact ⟨rfl, rfl⟩
        · rintro σ' H' ⟨rfl, rfl⟩
          have z0 := Int.emod_nonneg z (show (2147483579 : Int) ≠ 0 by decide)
          have z1 := Int.emod_lt_of_pos z (show (0 : Int) < 2147483579 by decide)
          refine ⟨_, rfl, .inl ⟨z, rfl, _, _, rfl, rfl, (by show (0 : Int) < 2147483579; decide), ?_⟩⟩
          refine ⟨_, rfl, _, _, rfl, rfl, .inl ⟨by decide, by decide⟩, _, _, rfl, rfl, _, _, rfl, rfl, _, _, rfl, rfl, ⟨by decide, by decide, ?_⟩, .inl ⟨_, rfl, _, _, rfl, rfl, (by show (0 : Int) < 2147483629; decide), ?_⟩⟩
          · show (z % 2147483579 + 50051 * a + 67).natAbs < 2 ^ 64
            have : (2 : Nat) ^ 64 = 18446744073709551616 := by decide
            omega
          obtain ⟨m, hm⟩ : ∃ m, (z % 2147483579 + 50051 * a + 67) ^ (3 : Int).toNat % 2147483629 = m := ⟨_, rfl⟩
          have q0 : 0 ≤ m := by rw [← hm]; exact Int.emod_nonneg _ (by decide)
          have q1 : m < 2147483629 := by rw [← hm]; exact Int.emod_lt_of_pos _ (by decide)
          have a1 : a ≤ 1048576 := by omega
          have e1 : m * (2 * a + 71) ≤ 2147483629 * 2097223 := Int.mul_le_mul (by omega) (by omega) (by omega) (by decide)
          have e2 : 0 ≤ m * (2 * a + 71) := Int.mul_nonneg q0 (by omega)
          have e3 : 61091 * a * a ≤ 61091 * 1048576 * 1048576 := Int.mul_le_mul (by omega) a1 a0 (by decide)
          have e4 : 0 ≤ 61091 * a * a := Int.mul_nonneg (by omega) a0
          refine ⟨_, rfl, _, rfl, _, _, rfl, rfl, .inl ⟨by decide, by decide⟩, _, _, rfl, rfl, _, _, rfl, rfl, .inl ⟨by omega, by omega⟩, ?_⟩
          refine ⟨_, rfl, _, _, rfl, rfl, .inl ⟨by decide, by decide⟩, _, rfl, _, _, rfl, rfl, .inr ⟨by omega, by omega⟩, _, _, rfl, rfl, _, _, rfl, rfl, _, _, rfl, rfl, ⟨by decide, by decide, ?_⟩, .inl ⟨_, rfl, _, _, rfl, rfl, (by show (0 : Int) < 2147483587; decide), ?_⟩⟩
          · show ((z % 2147483579 + 50051 * a + 67) ^ (3 : Int).toNat % 2147483629 * (2 * a + 71) + 61091 * a * a + 19).natAbs < 2 ^ 64
            rw [hm]
            have : (2 : Nat) ^ 64 = 18446744073709551616 := by decide
            generalize m * (2 * a + 71) = u at e1 e2
            generalize 61091 * a * a = v at e3 e4
            omega
          refine ⟨_, rfl, _, _, rfl, rfl, ⟨by decide, by decide⟩, .inl ⟨_, rfl, _, rfl, _, _, rfl, rfl, m0, ?_⟩⟩
          exact last _ (Int.emod_nonneg _ (by omega)) (Int.emod_lt_of_pos _ m0)
/-! ### the pen made; a pick -/
def spPen (K : PySem.W.Frag) : Sp := fun vs H Q _ => ∃ (a : Addr) (ns : List Int), vs = [.ref a] ∧ SqL K H a (ns.map V.int) ∧ ns.length ≤ 1000 ∧ ∀ p c H', PenAt H' p c 0 → Ext H H' → H p = none → H c = none → Q (.ref p) H'
abbrev s__law_pen : Stmt := top 42
abbrev N__law_pen : List Str := ["_law_script"]
theorem sc__law_pen : FnScope N__law_pen ["_law_script"] (defScope s__law_pen) := ⟨rfl, rfl, rfl, by decide +kernel, rfl, by decide +kernel, by decide +kernel⟩
theorem ok_pen {f : Addr} {fd : FuncData} (F : Fun K "_law_pen" "_law_pen" s__law_pen f fd) (T : Tx K mg EC CE CD CU CM CO tL tN tU) : FnOk P w K mg base CX0 1 f fd ["_law_script"] (spPen K) := by
  refine F.ok sc__law_pen (fun vs H Q E h => ?_) (fun cdv A outer s H vs Q E hr h => ?_)
  · obtain ⟨a, ns, rfl, _⟩ := h
    rfl
  · obtain ⟨a, ns, rfl, ha, hn, k⟩ := h
    refine ⟨_, (pss_one (ps_ret (pe_lst (pa_cons (pe_callTy call_list_of (by rfl) (T.bn _ (by decide +kernel)) (by decide +kernel) (pa_cons (pe_slice sl_list (pv 0) po_none (po_some pe_int)) pa_nil)) (pa_cons pe_int (pa_cons pe_int pa_nil)))))), ?_⟩
    refine ⟨_, rfl, 63, rfl, a, _, rfl, ha, fun q hq => ?_⟩
    refine ⟨q, _, rfl, .inl (SqL.of upd_same), fun c hc => ?_⟩
    have nqc : q ≠ c := ne_of_none upd_same hc
    refine ⟨(by show 3 ≤ sizeLine; decide), fun p hp => ?_⟩
    have npc : p ≠ c := (ne_of_none upd_same hp).symm
    have e1 := Ext.upd (o := HO.lst (((ns.map V.int).drop (HT.sIx (ns.map V.int).length 0 none)).take (HT.sIx (ns.map V.int).length (ns.map V.int).length (some 63) - HT.sIx (ns.map V.int).length 0 none))) hq
    refine k p c _ ⟨(ns.drop (HT.sIx (ns.map V.int).length 0 none)).take (HT.sIx (ns.map V.int).length (ns.map V.int).length (some 63) - HT.sIx (ns.map V.int).length 0 none), 0, 0, upd_same, ?_, npc, by decide, by decide, by decide, ?_⟩ ((e1.trans (Ext.upd hc)).trans (Ext.upd hp)) ?_ ?_
    · rw [upd_ne npc.symm, upd_same, List.map_take, List.map_drop]
      rfl
    · have : HT.sIx (ns.map V.int).length (ns.map V.int).length (some 63) ≤ 63 := by
        unfold HT.sIx
        simp
        omega
      rw [List.length_take]
      omega
    · exact ext_free (e1.trans (Ext.upd hc)) hp
    · exact ext_free e1 hc
def spPick (K : PySem.W.Frag) : Sp := fun vs H Q _ => ∃ (p c : Addr) (n : Nat) (v : V), vs = [.ref p, v] ∧ PenAt H p c n ∧ n < 1048576 ∧
  ((∃ (l : Addr) (xs : List V), v = .ref l ∧ l ≠ p ∧ l ≠ c ∧ H l = some (.lst xs) ∧ 0 < xs.length ∧ xs.length ≤ 1000 ∧ ∀ x H', x ∈ xs → PenAt H' p c (n + 1) → Keep p c H H' → Q x H') ∨
    ∃ z : Str, v = .str z ∧ 0 < z.length ∧ z.length ≤ 1000 ∧ ∀ c' H', c' ∈ tl z → PenAt H' p c (n + 1) → Keep p c H H' → Q (.str ⟨#[c']⟩) H')
abbrev s__law_pick : Stmt := top 44
abbrev N__law_pick : List Str := ["_law_pen_here", "_law_some_here"]
theorem sc__law_pick : FnScope N__law_pick ["_law_pen_here", "_law_some_here"] (defScope s__law_pick) := ⟨rfl, rfl, rfl, by decide +kernel, rfl, by decide +kernel, by decide +kernel⟩
theorem ok_pick {f : Addr} {fd : FuncData} (F : Fun K "_law_pick" "_law_pick" s__law_pick f fd) (T : Tx K mg EC CE CD CU CM CO tL tN tU) (c__law_draw : Cal P w K mg base CX0 1 "_law_draw" spDraw) : FnOk P w K mg base CX0 2 f fd ["_law_pen_here", "_law_some_here"] (spPick K) := by
  refine F.ok sc__law_pick (fun vs H Q E h => ?_) (fun cdv A outer s H vs Q E hr h => ?_)
  · obtain ⟨p, c, n, v, rfl, _⟩ := h
    rfl
  · obtain ⟨p, c, n, v, rfl, hp, hn, h⟩ := h
    refine ⟨_, (pss_one (ps_ret (pe_ix ix_seq (pv 1) (pe_cal c__law_draw (hr.mono (by decide)) (by rfl) pass0 (pa_cons (pv 0) (pa_cons (pe_callB (CallR.or call_len_seq call_len_str) (by rfl) (T.bn _ (by decide +kernel)) (by decide +kernel) (pa_cons (pv 1) pa_nil)) pa_nil))) (fun _ _ => rfl)))), ?_⟩
    rcases h with ⟨l, xs, rfl, n1, n2, hl, h0, h1, k⟩ | ⟨z, rfl, h0, h1, k⟩
    · refine ⟨_, rfl, _, rfl, _, rfl, .inl ⟨l, _, rfl, .inl (SqL.of hl), p, c, n, _, rfl, hp, hn, by omega, by omega, fun j H1 j0 j1 hp1 kp => ?_⟩⟩
      have hl1 := kp l _ hl n1 n2
      have hj : j.toNat < xs.length := by omega
      exact .inl ⟨l, xs, j, xs[j.toNat], rfl, rfl, SqL.of hl1, atI_at (j := j.toNat) (by omega) (List.getElem?_eq_getElem hj), k _ H1 (List.getElem_mem hj) hp1 kp⟩
    · refine ⟨_, rfl, _, rfl, _, rfl, .inr ⟨z, rfl, Nat.le_of_lt (small1000 h1), p, c, n, _, rfl, hp, hn, by omega, by omega, fun j H1 j0 j1 hp1 kp => ?_⟩⟩
      have hj : j.toNat < z.cps.toList.length := by
        have : z.cps.toList.length = z.length := by simp; rfl
        omega
      exact .inr (.inr ⟨z, j, z.cps.toList[j.toNat], rfl, rfl, Nat.le_of_lt (small1000 h1), atI_at (j := j.toNat) (by omega) (List.getElem?_eq_getElem hj), k _ H1 (List.getElem_mem hj) hp1 kp⟩)
end
end K01
end
section
set_option Elab.async false
set_option autoImplicit false
set_option linter.all false
set_option maxRecDepth 100000
set_option maxHeartbeats 4000000
namespace K01
open PySem PySem.Spec PyProof.Rows L2 Ls
open C8 (pss_cut tCut)
open TL
/-! ### the data -/
def isName (z : Str) : Bool := decide (1 ≤ z.length) && (decide (z.length ≤ 6) && (tl z).all fun c => decide (c ∈ tl lettersS))
/-- the name that a value is -/
def nameOf : PyData → Option Str
  | .str z => if isName z = true then some z else none
  | _ => none
theorem nameOf_some {d : PyData} {n : Str} (h : nameOf d = some n) : d = .str n ∧ isName n = true := by
  cases d with
  | str z =>
    have h : (if isName z = true then some z else none) = some n := h
    by_cases e : isName z = true
    · rw [if_pos e] at h
      cases h
      exact ⟨rfl, e⟩
    · rw [if_neg e] at h
      cases h
  | _ => cases h
theorem nameOf_str {z : Str} (h : isName z = true) : nameOf (.str z) = some z := if_pos h
theorem nameOf_no {z : Str} (h : isName z = false) : nameOf (.str z) = none := if_neg (by rw [h]; exact Bool.false_ne_true)
theorem name_len {z : Str} (h : isName z = true) : 1 ≤ z.length ∧ z.length ≤ 6 := by
  unfold isName at h
  simp only [Bool.and_eq_true, decide_eq_true_eq] at h
  exact ⟨h.1, h.2.1⟩
theorem name_sub {z : Str} (h : isName z = true) : ∀ c ∈ tl z, c ∈ tl lettersS := by
  unfold isName at h
  simp only [Bool.and_eq_true, decide_eq_true_eq, List.all_eq_true] at h
  exact h.2.2
theorem name_no {z : Str} (h : isName z = true) {c : Nat} (hc : c ∉ tl lettersS) : c ∉ tl z := fun hm => hc (name_sub h c hm)
section
variable {P : Program} {w : World} {K : PySem.W.Frag} {mg : Str → Option Value} {base : Heap} {EC : Str → Addr} {CE CD CU CM CO : Addr} {tL tN tU : Tok}
/-! ### is_name -/
def spName : Sp := fun vs H Q _ => ∃ (v : V) (d : PyData), vs = [v] ∧ TV H v d ∧ SmD d ∧ ∀ H', Ext H H' → Q (.bl (nameOf d).isSome) H'
abbrev s_is_name : Stmt := top 31
abbrev N_is_name : List Str := ["value", "letter"]
theorem sc_is_name : FnScope N_is_name ["value"] (defScope s_is_name) := ⟨rfl, rfl, rfl, by decide +kernel, rfl, by decide +kernel, by decide +kernel⟩
theorem ok_name {f : Addr} {fd : FuncData} (F : Fun K "is_name" "is_name" s_is_name f fd) (T : Tx K mg EC CE CD CU CM CO tL tN tU) : FnOk P w K mg base CX0 1 f fd ["value"] spName := by
  refine F.ok sc_is_name (fun vs H Q E h => ?_) (fun cdv A outer s H vs Q E hr h => ?_)
  · obtain ⟨v, d, rfl, _⟩ := h
    rfl
  · obtain ⟨v, d, rfl, hv, sm, k⟩ := h
    refine ⟨_, (pss_cons (ps_if ((pw_or (pt_not (pt_val (pe_callB call_isi (by rfl) (T.bn _ (by decide +kernel)) (by decide +kernel) (pa_cons (pv 0) (pa_cons (pe_gty (T := "str") (by rfl) (T.bn _ (by decide +kernel)) (by decide +kernel)) pa_nil))))) (pw_or1 (pt_not (pt_chain op_le op_le pe_int (pe_callB call_len_str (by rfl) (T.bn _ (by decide +kernel)) (by decide +kernel) (pa_cons (pv 0) pa_nil)) (pe_gint (by rfl) T.m_LONGEST_NAME)))))).pt (pss_one (ps_ret pe_bl)) pss_nil)
      (pss_one (ps_ret (pe_callB (cr_all rfl) (by rfl) (T.bn _ (by decide +kernel)) (by decide +kernel) (pa_cons (pe_lc (own := [("letter", 1)]) rfl sc_is_name.nd (pi_str (pv 0)) (blkOk_by (own := [("letter", 1)]) (N := N_is_name) (sc := defScope s_is_name) (by decide +kernel)) (fun _ _ _ _ _ => (pg_name (i := 1) sc_is_name.nd rfl (by first | exact Or.inl rfl | exact Or.inr rfl))) (fun _ _ _ _ _ => pts_nil) (fun _ _ _ _ _ => (pe_cmpR op_in_sign (pv 1) (pe_gstr (by rfl) T.m_LETTERS) rfl))) pa_nil))))), ?_⟩
    refine ⟨_, rfl, _, _, _, _, isStrD d, rfl, .ty "str", tyX_of hv, kit_str d, _, rfl, ?_⟩
    cases hd : isStrD d with
    | false =>
      refine iteT ?_
      have e1 : (nameOf d).isSome = false := by
        cases d <;> first | rfl | cases hd
      have := k H Ext.rfl'
      rw [e1] at this
      exact this
    | true =>
    obtain ⟨z, rfl⟩ := strD hd
    cases tv_str hv
    have hz : z.length ≤ 1000 := sm z rfl
    refine iteF ?_
    have hzl : z.length ≤ sizeLine := Nat.le_of_lt (small1000 hz)
    have eN : ∀ b, isName z = b → (nameOf (.str z)).isSome = b := fun b h => by
      show (if isName z = true then some z else none).isSome = b
      cases b with
      | true => rw [if_pos h]; rfl
      | false => rw [if_neg (by rw [h]; exact Bool.false_ne_true)]; rfl
    refine ⟨_, rfl, z, rfl, hzl, _, _, rfl, rfl, ?_⟩
    by_cases h1 : 1 ≤ z.length
    · refine ⟨true, by simp; omega, ?_⟩
      refine iteT ?_
      refine ⟨_, _, rfl, rfl, ?_⟩
      by_cases h6 : z.length ≤ 6
      · refine ⟨true, by simp; omega, ?_⟩
        refine iteF ?_
        -- the signs
        refine ⟨_, rfl, z, rfl, fun D hD => ?_⟩
        refine lc_map walk_str [D] (by simp) (fun _ => True) (fun i y _ => ∃ c, z.cps[i]? = some c ∧ y = .bl (decide (c ∈ tl lettersS))) (by have : z.length = z.cps.size := rfl; omega) (fun _ _ _ _ _ h => h) (fun _ _ _ => trivial) trivial (fun _ _ _ => trivial) ?_ ?_
        · rintro i x H1 H2 acc C hi e _ hD1 ⟨rfl, c, hc, rfl⟩ hC
          refine ⟨rfl, _, rfl, c, _, rfl, rfl, hC _ _ hD1 Ext.rfl' trivial ⟨c, hc, rfl⟩⟩
        · intro H1 ys e _ hD1 hl hy
          have hys : ys = ((tl z).map fun c => decide (c ∈ tl lettersS)).map V.bl := by
            refine List.ext_getElem? fun j => ?_
            cases q : ys[j]? with
            | none =>
              have : ys.length ≤ j := List.getElem?_eq_none_iff.mp q
              symm
              rw [List.getElem?_eq_none_iff]
              simp
              have : z.cps.size ≤ j := by omega
              exact this
            | some y =>
              obtain ⟨c, hc, rfl⟩ := hy j y q
              have hc' : (tl z)[j]? = some c := by rw [← hc]; simp [tl]
              simp [List.getElem?_map, hc']
          subst hys
          refine ⟨D, _, rfl, SqL.of hD1, ?_⟩
          have e1 : isName z = (((tl z).map fun c => decide (c ∈ tl lettersS)).all id) := by
            unfold isName
            rw [decide_eq_true h1, decide_eq_true h6, Bool.true_and, Bool.true_and, List.all_map]
            rfl
          rw [← eN _ e1]
          refine k _ fun b o q => ?_
          have := e b o (by rw [hid_at (by simpa using ne_of_none q hD)]; exact q)
          exact (hid_some this).2
      · refine ⟨false, by simp; omega, ?_⟩
        refine iteT ?_
        have e1 : isName z = false := by unfold isName; rw [decide_eq_false h6, Bool.false_and, Bool.and_false]
        have := k H Ext.rfl'
        rw [eN _ e1] at this
        exact this
    · refine ⟨false, by simp; omega, ?_⟩
      refine iteF ?_
      refine ⟨false, rfl, ?_⟩
      refine iteT ?_
      have e1 : isName z = false := by unfold isName; rw [decide_eq_false h1, Bool.false_and]
      have := k H Ext.rfl'
      rw [eN _ e1] at this
      exact this
end
end K01
end
section
set_option Elab.async false
set_option autoImplicit false
set_option linter.all false
set_option maxRecDepth 100000
set_option maxHeartbeats 4000000
namespace K01
open PySem PySem.Spec PyProof.Rows L2 Ls
open C8 (pss_cut tCut)
open TL
theorem eqV_str (a b : Str) : eqV (.str a) (.str b) = decide (b = a) := by
  show (a == b) = _
  by_cases h : b = a
  · subst h
    simp
  · rw [decide_eq_false h]
    exact beq_eq_false_iff_ne.mpr fun e => h e.symm
theorem inV_strs (z : Str) : ∀ l : List Str, inV (.str z) (l.map V.str) = decide (z ∈ l)
  | [] => rfl
  | a :: l => by
    have ih := inV_strs z l
    show (eqV (.str a) (.str z) || inV (.str z) (l.map V.str)) = _
    rw [eqV_str, ih]
    simp only [List.mem_cons, Bool.decide_or]
theorem flat_strs (l : List Str) : (l.map V.str).all flatV = true := by
  rw [List.all_map]
  exact List.all_eq_true.mpr fun _ _ => rfl
theorem not_take {zs : List Str} {i : Nat} {z : Str} (hnd : zs.Nodup) (hz : zs[i]? = some z) : z ∉ zs.take i := fun hm => by
  obtain ⟨h1, h2⟩ := List.getElem?_eq_some_iff.mp hz
  have e : zs = zs.take i ++ z :: zs.drop (i + 1) := by
    rw [← h2, ← List.drop_eq_getElem_cons h1, List.take_append_drop]
  rw [e] at hnd
  exact (List.nodup_append.mp hnd).2.2 z hm z (by simp) rfl
theorem name_sm {z : Str} (h : isName z = true) : SmD (.str z) := fun y e => by cases e; exact Nat.le_trans (name_len h).2 (by decide)
section
variable {P : Program} {w : World} {K : PySem.W.Frag} {mg : Str → Option Value} {base : Heap} {EC : Str → Addr} {CE CD CU CM CO : Addr} {tL tN tU : Tok}
/-! ### need_names -/
def spNN (K : PySem.W.Frag) : Sp := fun vs H Q _ => ∃ (l : Addr) (zs : List Str), vs = [.ref l] ∧ SqT K H l (zs.map V.str) ∧ (∀ z ∈ zs, isName z = true) ∧ zs.Nodup ∧ zs.length ≤ 100 ∧ ∀ a H', Ext H H' → nw H H' a = some (.lst (zs.map V.str)) → Q (.ref a) H'
abbrev s_need_names : Stmt := top 32
abbrev N_need_names : List Str := ["values", "found", "value"]
theorem sc_need_names : FnScope N_need_names ["values"] (defScope s_need_names) := ⟨rfl, rfl, rfl, by decide +kernel, rfl, by decide +kernel, by decide +kernel⟩
theorem ok_nn {f : Addr} {fd : FuncData} (F : Fun K "need_names" "need_names" s_need_names f fd) (T : Tx K mg EC CE CD CU CM CO tL tN tU) (c_is_name : Cal P w K mg base CX0 1 "is_name" spName) : FnOk P w K mg base CX0 3 f fd ["values"] (spNN K) := by
  refine F.ok sc_need_names (fun vs H Q E h => ?_) (fun cdv A outer s H vs Q E hr h => ?_)
  · obtain ⟨l, zs, rfl, _⟩ := h
    rfl
  · obtain ⟨l, zs, rfl, hl, hnm, hnd, hln, k⟩ := h
    have h4 : sizeLine = 16777216 := sizeLine_eq
    refine ⟨_, (pss_cons (ps_set (i := 1) sc_need_names.nd rfl (by first | exact Or.inl rfl | exact Or.inr rfl) (pe_lst pa_nil))
      (pss_cons (ps_for PassesOwn.never rfl (pi_tup (pv 0)) (pg_name (i := 2) sc_need_names.nd rfl (by first | exact Or.inl rfl | exact Or.inr rfl))
      (pss_one (ps_if (pt_not (pt_val (pe_cal c_is_name (hr.mono (by decide)) (by rfl) pass0 (pa_cons (pv 2) pa_nil)))) (pss_one ps_never) pss_nil)))
      (pss_cons (ps_for PassesOwn.never rfl (pi_tup (pv 0)) (pg_name (i := 2) sc_need_names.nd rfl (by first | exact Or.inl rfl | exact Or.inr rfl))
      (pss_cons (ps_if (pt_cmpR op_in_seq (pv 2) (pv 1) rfl) (pss_one ps_never) pss_nil)
      (pss_one (ps_expr (pe_bm PySem.F.plainAttrs_list PySem.F.slot_list_append PySem.F.type_list_append mt_append (pv 1) (pa_cons (pv 2) pa_nil))))))
      (pss_one (ps_ret (pv 1)))))), ?_⟩
    refine ⟨(by show 0 ≤ sizeLine; decide), fun L nL => ?_⟩
    have e0 : Ext H (upd H L (.lst [])) := Ext.upd nL
    have hzl : (zs.map V.str).length = zs.length := List.length_map _
    refine ⟨_, rfl, l, rfl, ⟨_, hl.ext e0⟩, for_it (walk_tup (xs := zs.map V.str)) (fun i σ H' => ∃ x2, σ = [some (.ref l), some (.ref L), x2] ∧ Ext H H' ∧ H' L = some (.lst [])) ⟨_, rfl, e0, upd_same⟩ (fun i σ H' _ ⟨_, _, e, _⟩ => hl.ext e) ?_ ?_⟩
    · rintro i x σ _ H1 hi ⟨x2, rfl, e1, hL1⟩ ⟨rfl, hx⟩
      rw [List.getElem?_map] at hx
      obtain ⟨z, hz, rfl⟩ := Option.map_eq_some_iff.mp hx
      have hzn := hnm z (List.mem_of_getElem? hz)
      refine ⟨_, rfl, .str z, .str z, rfl, .str _, name_sm hzn, fun H2 e2 => ⟨_, rfl, ?_⟩⟩
      rw [nameOf_str hzn]
      refine iteF ?_
      exact ⟨_, rfl, e1.trans e2, e2 _ _ hL1⟩
    · rintro σ H1 ⟨x2, rfl, e1, hL1⟩
      refine ⟨_, rfl, l, rfl, ⟨_, hl.ext e1⟩, for_it (walk_tup (xs := zs.map V.str)) (fun i σ H' => ∃ x2, σ = [some (.ref l), some (.ref L), x2] ∧ Ext H H' ∧ H' L = some (.lst ((zs.take i).map V.str))) ⟨_, rfl, e1, by simpa using hL1⟩ (fun i σ H' _ ⟨_, _, e, _⟩ => hl.ext e) ?_ ?_⟩
      · rintro i x σ _ H2 hi ⟨x2', rfl, e2, hL2⟩ ⟨rfl, hx⟩
        rw [List.getElem?_map] at hx
        obtain ⟨z, hz, rfl⟩ := Option.map_eq_some_iff.mp hx
        refine ⟨_, rfl, _, rfl, L, _, rfl, .inl (SqL.of hL2), rfl, flat_strs _, _, rfl, ?_⟩
        rw [inV_strs]
        refine iteNo (decide_eq_false (not_take hnd hz)) ?_
        have htk : zs.take (i + 1) = zs.take i ++ [z] := by rw [List.take_add_one, hz]; rfl
        refine ⟨_, rfl, .inl ⟨rfl, _, SqL.of hL2⟩, _, rfl, L, _, _, rfl, rfl, hL2, ?_, _, rfl, ?_, ?_⟩
        · rw [List.length_map]
          have := List.length_take_le i zs
          omega
        · intro b o q
          rw [upd_ne (ne_of_none q nL)]
          exact e2 b o q
        · rw [upd_same, htk, List.map_append]
          rfl
      · rintro σ H2 ⟨x2', rfl, e2, hL2⟩
        rw [hzl, List.take_length] at hL2
        refine ⟨_, rfl, k L H2 e2 ?_⟩
        rw [nw_at nL]
        exact hL2
/-! ### need_used -/
def spNU (K : PySem.W.Frag) : Sp := fun vs H Q _ => ∃ (l : Addr) (zs : List Str), vs = [.ref l] ∧ SqT K H l (zs.map V.str) ∧ (∀ z ∈ zs, isName z = true) ∧ zs.Nodup ∧ zs ≠ [] ∧ zs.length ≤ 3 ∧ ∀ a H', Ext H H' → nw H H' a = some (.tup (zs.map V.str)) → Q (.ref a) H'
abbrev s_need_used : Stmt := top 34
abbrev N_need_used : List Str := ["names", "used"]
theorem sc_need_used : FnScope N_need_used ["names"] (defScope s_need_used) := ⟨rfl, rfl, rfl, by decide +kernel, rfl, by decide +kernel, by decide +kernel⟩
theorem ok_nu {f : Addr} {fd : FuncData} (F : Fun K "need_used" "need_used" s_need_used f fd) (T : Tx K mg EC CE CD CU CM CO tL tN tU) (c_need_names : Cal P w K mg base CX0 3 "need_names" (spNN K)) : FnOk P w K mg base CX0 4 f fd ["names"] (spNU K) := by
  refine F.ok sc_need_used (fun vs H Q E h => ?_) (fun cdv A outer s H vs Q E hr h => ?_)
  · obtain ⟨l, zs, rfl, _⟩ := h
    rfl
  · obtain ⟨l, zs, rfl, hl, hnm, hnd, hne, h3, k⟩ := h
    refine ⟨_, (pss_cons (ps_set (i := 1) sc_need_used.nd rfl (by first | exact Or.inl rfl | exact Or.inr rfl) (pe_callTy call_tuple_of (by rfl) (T.bn _ (by decide +kernel)) (by decide +kernel) (pa_cons (pe_cal c_need_names (hr.mono (by decide)) (by rfl) pass0 (pa_cons (pv 0) pa_nil)) pa_nil)))
      (pss_cons (ps_if (pt_cmpR op_gt (pe_callB call_len_seq (by rfl) (T.bn _ (by decide +kernel)) (by decide +kernel) (pa_cons (pv 1) pa_nil)) (pe_gint (by rfl) T.m_MOST_USED) (nomark _)) (pss_one ps_never) pss_nil)
      (pss_cons (ps_if (pt_cmpR op_eq (pe_callB call_len_seq (by rfl) (T.bn _ (by decide +kernel)) (by decide +kernel) (pa_cons (pv 1) pa_nil)) pe_int (nomark _)) (pss_one ps_never) pss_nil)
      (pss_one (ps_ret (pv 1)))))), ?_⟩
    refine ⟨_, rfl, l, zs, rfl, hl, hnm, hnd, by omega, fun a H1 e1 ha1 => ?_⟩
    have hzl : (zs.map V.str).length = zs.length := List.length_map _
    refine ⟨a, _, rfl, .inl ⟨SqL.of (nw_some ha1).2, fun t nt => ?_⟩⟩
    have e2 : Ext H1 (upd H1 t (.tup (zs.map V.str))) := Ext.upd nt
    have f2 : (upd H1 t (.tup (zs.map V.str))) t = some (.tup (zs.map V.str)) := upd_same
    generalize (upd H1 t (.tup (zs.map V.str))) = H2 at e2 f2
    refine ⟨_, rfl, t, _, rfl, .inr (SqT.of f2), _, _, rfl, rfl, _, rfl, ?_⟩
    refine iteNo (decide_eq_false (by rw [hzl]; omega)) ?_
    refine ⟨_, rfl, t, _, rfl, .inr (SqT.of f2), rfl, _, rfl, ?_⟩
    refine iteNo (decide_eq_false fun q => hne ?_) ?_
    · have q' := V.int.inj q
      rw [hzl] at q'
      exact List.eq_nil_of_length_eq_zero (by omega)
    · refine ⟨_, rfl, k t H2 (e1.trans e2) ?_⟩
      rw [nw_at (ext_free e1 nt)]
      exact f2
/-! ### need_name -/
def spN1 : Sp := fun vs H Q _ => ∃ z : Str, vs = [.str z] ∧ isName z = true ∧ ∀ H', Ext H H' → Q (.str z) H'
abbrev s_need_name : Stmt := top 35
abbrev N_need_name : List Str := ["value"]
theorem sc_need_name : FnScope N_need_name ["value"] (defScope s_need_name) := ⟨rfl, rfl, rfl, by decide +kernel, rfl, by decide +kernel, by decide +kernel⟩
theorem ok_n1 {f : Addr} {fd : FuncData} (F : Fun K "need_name" "need_name" s_need_name f fd) (T : Tx K mg EC CE CD CU CM CO tL tN tU) (c_is_name : Cal P w K mg base CX0 1 "is_name" spName) : FnOk P w K mg base CX0 3 f fd ["value"] spN1 := by
  refine F.ok sc_need_name (fun vs H Q E h => ?_) (fun cdv A outer s H vs Q E hr h => ?_)
  · obtain ⟨z, rfl, _⟩ := h
    rfl
  · obtain ⟨z, rfl, hz, k⟩ := h
    refine ⟨_, (pss_cons (ps_if (pt_not (pt_val (pe_cal c_is_name (hr.mono (by decide)) (by rfl) pass0 (pa_cons (pv 0) pa_nil)))) (pss_one ps_never) pss_nil)
      (pss_one (ps_ret (pv 0)))), ?_⟩
    refine ⟨_, rfl, .str z, .str z, rfl, .str _, name_sm hz, fun H1 e1 => ⟨_, rfl, ?_⟩⟩
    rw [nameOf_str hz]
    refine iteF ?_
    exact ⟨_, rfl, k H1 e1⟩
end
end K01
end
section
set_option Elab.async false
set_option autoImplicit false
set_option linter.all false
set_option maxRecDepth 100000
set_option maxHeartbeats 4000000
namespace K01
open PySem PySem.Spec PyProof.Rows L2 Ls
open C8 (pss_cut tCut)
open TL
/-! ### deeds, as data -/
abbrev Dd := Option Str × List Str
structure Good (d : Dd) : Prop where
  nm : ∀ z ∈ d.2, isName z = true
  mn : ∀ z, d.1 = some z → isName z = true
  nd : d.2.Nodup
  le : d.2.length ≤ 3
  ne : d.1 = none → d.2 ≠ []
def clsD (CU CM CO : Addr) : Dd → Addr
  | (none, _) => CU
  | (some _, []) => CM
  | (some _, _ :: _) => CO
/-- a deed in the heap -/
def DeedAt (cl : Dd → Addr) (H : Hp) (a : Addr) (d : Dd) : Prop := ∃ dx fs t1 t2, H a = some (.ins (cl d) dx fs) ∧ fs.lookup ("used_names" : Str) = some (V.ref t1) ∧ fs.lookup ("made_names" : Str) = some (V.ref t2) ∧ H t1 = some (.tup (d.2.map V.str)) ∧ H t2 = some (.tup (d.1.toList.map V.str))
theorem DeedAt.ext {cl : Dd → Addr} {H H' : Hp} {a : Addr} {d : Dd} (h : DeedAt cl H a d) (e : Ext H H') : DeedAt cl H' a d := let ⟨dx, fs, t1, t2, h1, h2, h3, h4, h5⟩ := h; ⟨dx, fs, t1, t2, e _ _ h1, h2, h3, e _ _ h4, e _ _ h5⟩
/-- all stays but the object at x -/
def KeepX (x : Addr) (H H' : Hp) : Prop := ∀ b o, H b = some o → b ≠ x → H' b = some o
/-- what the top says of a class of deeds -/
structure ClD (K : PySem.W.Frag) (C : Addr) : Prop where
  cl : Cls K C
  nU : NoAttr K C "used_names"
  nM : NoAttr K C "made_names"
theorem num : ¬ (("used_names" : Str) = "made_names") := by decide +kernel
/-- the object at x has become that deed -/
def MadeX (C x dx : Addr) (us ms : List Str) (H H' : Hp) : Prop := KeepX x H H' ∧ ∃ fs t1 t2, H' x = some (.ins C dx fs) ∧ fs.lookup ("used_names" : Str) = some (V.ref t1) ∧ fs.lookup ("made_names" : Str) = some (V.ref t2) ∧ H' t1 = some (.tup (us.map V.str)) ∧ H' t2 = some (.tup (ms.map V.str))
section
variable {P : Program} {w : World} {K : PySem.W.Frag} {mg : Str → Option Value} {base : Heap} {EC : Str → Addr} {CE CD CU CM CO : Addr} {tL tN tU : Tok}
/-! ### Deed.__init__ -/
def spDI (K : PySem.W.Frag) : Sp := fun vs H Q _ => ∃ (x C dx t1 t2 : Addr) (us ms : List Str), vs = [.ref x, .ref t1, .ref t2] ∧ H x = some (.ins C dx []) ∧ H t1 = some (.tup (us.map V.str)) ∧ H t2 = some (.tup (ms.map V.str)) ∧ ClD K C ∧ ∀ H', MadeX C x dx us ms H H' → Q .non H'
abbrev s_Deed_init : Stmt := inClass (top 36) 1
abbrev N_Deed_init : List Str := ["self", "used", "made"]
theorem sc_Deed_init : FnScope N_Deed_init ["self", "used", "made"] (defScope s_Deed_init) := ⟨rfl, rfl, rfl, by decide +kernel, rfl, by decide +kernel, by decide +kernel⟩
theorem ok_DI {f : Addr} {fd : FuncData} (F : Fun K "__init__" "Deed.__init__" s_Deed_init f fd) (T : Tx K mg EC CE CD CU CM CO tL tN tU) : FnOk P w K mg base CX0 1 f fd ["self", "used", "made"] (spDI K) := by
  refine F.ok sc_Deed_init (fun vs H Q E h => ?_) (fun cdv A outer s H vs Q E hr h => ?_)
  · obtain ⟨x, C, dx, t1, t2, us, ms, rfl, _⟩ := h
    rfl
  · obtain ⟨x, C, dx, t1, t2, us, ms, rfl, hx, h1, h2, hc, k⟩ := h
    refine ⟨_, (pss_cons (ps_fld (pv 0) (pv 1) rfl)
      (pss_one (ps_fld (pv 0) (pv 2) rfl))), ?_⟩
    refine ⟨_, rfl, _, rfl, x, C, dx, _, rfl, hx, hc.cl, hc.nU, (by show 0 < 1000; decide), ?_⟩
    refine ⟨_, rfl, _, rfl, x, C, dx, _, rfl, upd_same, hc.cl, hc.nM, (by show 1 < 1000; decide), ?_⟩
    have kx : KeepX x H (upd (upd H x (.ins C dx (putF "used_names" (.ref t1) []))) x (.ins C dx (putF "made_names" (.ref t2) (putF "used_names" (.ref t1) [])))) := fun b o q hb => by rw [upd_ne hb, upd_ne hb]; exact q
    refine k _ ⟨kx, _, t1, t2, upd_same, ?_, ?_, kx _ _ h1 (ne_of h1 hx (by intro z; cases z)), kx _ _ h2 (ne_of h2 hx (by intro z; cases z))⟩
    · rw [lookup_putF, if_neg num, lookup_putF, if_pos rfl]
    · rw [lookup_putF, if_pos rfl]
/-! ### Use.__init__ -/
def spUse (C : Addr) : Sp := fun vs H Q _ => ∃ (x dx : Addr) (us : List Str), vs = .ref x :: us.map V.str ∧ H x = some (.ins C dx []) ∧ (∀ z ∈ us, isName z = true) ∧ us.Nodup ∧ us ≠ [] ∧ us.length ≤ 3 ∧ ∀ H', MadeX C x dx us [] H H' → Q .non H'
abbrev s_Use_init : Stmt := inClass (top 37) 0
abbrev N_Use_init : List Str := ["self", "names"]
theorem sc_Use_init : FnScope N_Use_init ["self", "names"] (defScope s_Use_init) := ⟨rfl, rfl, rfl, by decide +kernel, rfl, by decide +kernel, by decide +kernel⟩
theorem ok_Use_init {f : Addr} {fd : FuncData} (F : Fun K "__init__" "Use.__init__" s_Use_init f fd) (T : Tx K mg EC CE CD CU CM CO tL tN tU) (hC : ClD K CU) (c_need_used : Cal P w K mg base CX0 4 "need_used" (spNU K)) (c_Deed_init : Clf P w K mg base CX0 1 CD "__init__" (spDI K)) :
    FnR P w K mg base CX0 5 f (spUse CU) := by
  obtain ⟨oc, od, kV, doc, pm, an, cdv, ct, osl, rfl, lk, hcd⟩ := F.ex
  have R := StX.fn_star (P := P) (w := w) (mg := mg) (base := base) (CX := CX0) (k := 4) (N := N_Use_init) (ps := ["self"]) (pv := "names")
    (sp := fun vs H Q E => ∃ (x dx p : Addr) (us : List Str), vs = [.ref x, .ref p] ∧ H x = some (.ins CU dx []) ∧ H p = some (.tup (us.map V.str)) ∧ (∀ z ∈ us, isName z = true) ∧ us.Nodup ∧ us ≠ [] ∧ us.length ≤ 3 ∧ ∀ H', MadeX CU x dx us [] H H' → Q .non H')
    lk hcd sc_Use_init StX.cxUp_none (StX.bind_star1 (B := fun us => bindArgs _ ⟨us, []⟩) (fun a => rfl) fun a r rs => rfl) (fun A outer s H vs Q E hr h => ?_)
  · refine R.imp fun vs H Q E h => ?_
    obtain ⟨x, dx, us, rfl, hx, hnm, hnd, hne, h3, k⟩ := h
    refine ⟨[.ref x], us.map V.str, rfl, rfl, ?_, fun p np => ⟨x, dx, p, us, rfl, ?_, upd_same, hnm, hnd, hne, h3, fun H' ⟨hk, r⟩ => k H' ⟨fun b o q hb => hk b o ?_ hb, r⟩⟩⟩
    · have h4 : sizeLine = 16777216 := sizeLine_eq
      rw [List.length_map]
      omega
    · rw [upd_ne (ne_of_none hx np)]; exact hx
    · rw [upd_ne (ne_of_none q np)]; exact q
  · obtain ⟨x, dx, p, us, rfl, hx, hp, hnm, hnd, hne, h3, k⟩ := h
    refine ⟨_, (pss_one (ps_expr (pe_clf c_Deed_init (hr.mono (by decide)) (pe_gref (by rfl) T.m_Deed) pass0 (pa_cons (pv 0) (pa_cons (pe_cal c_need_used (hr.mono (by decide)) (by rfl) pass0 (pa_cons (pv 1) pa_nil)) (pa_cons (pe_tup pa_nil) pa_nil)))))), ?_⟩
    refine ⟨rfl, _, rfl, _, rfl, p, us, rfl, SqT.of hp, hnm, hnd, hne, h3, fun a H1 e1 h1 => ?_⟩
    refine ⟨(by show 0 ≤ sizeLine; decide), fun t nt => ?_⟩
    have up : ∀ {b : Addr} {o : HO}, H1 b = some o → (upd H1 t (.tup [])) b = some o := fun {b o} q => by rw [upd_ne (ne_of_none q nt)]; exact q
    exact ⟨x, CU, dx, a, t, us, [], rfl, up (e1 _ _ hx), up (nw_some h1).2, upd_same, hC, fun H2 ⟨hk, r⟩ => k H2 ⟨fun b o q hb => hk b o (up (e1 _ _ q)) hb, r⟩⟩
/-! ### Make.__init__ -/
def spMake (C : Addr) : Sp := fun vs H Q _ => ∃ (x dx : Addr) (z : Str), vs = [.ref x, .str z] ∧ H x = some (.ins C dx []) ∧ isName z = true ∧ ∀ H', MadeX C x dx [] [z] H H' → Q .non H'
abbrev s_Make_init : Stmt := inClass (top 38) 0
abbrev N_Make_init : List Str := ["self", "name"]
theorem sc_Make_init : FnScope N_Make_init ["self", "name"] (defScope s_Make_init) := ⟨rfl, rfl, rfl, by decide +kernel, rfl, by decide +kernel, by decide +kernel⟩
theorem ok_Make_init {f : Addr} {fd : FuncData} (F : Fun K "__init__" "Make.__init__" s_Make_init f fd) (T : Tx K mg EC CE CD CU CM CO tL tN tU) (hC : ClD K CM) (c_need_name : Cal P w K mg base CX0 3 "need_name" spN1) (c_Deed_init : Clf P w K mg base CX0 1 CD "__init__" (spDI K)) :
    FnOk P w K mg base CX0 5 f fd ["self", "name"] (spMake CM) := by
  refine F.ok sc_Make_init (fun vs H Q E h => ?_) (fun cdv A outer s H vs Q E hr h => ?_)
  · obtain ⟨x, dx, z, rfl, _⟩ := h
    rfl
  · obtain ⟨x, dx, z, rfl, hx, hz, k⟩ := h
    refine ⟨_, (pss_one (ps_expr (pe_clf c_Deed_init (hr.mono (by decide)) (pe_gref (by rfl) T.m_Deed) pass0 (pa_cons (pv 0) (pa_cons (pe_tup pa_nil) (pa_cons (pe_tup (pa_cons (pe_cal c_need_name (hr.mono (by decide)) (by rfl) pass0 (pa_cons (pv 1) pa_nil)) pa_nil)) pa_nil)))))), ?_⟩
    refine ⟨rfl, _, rfl, (by show 0 ≤ sizeLine; decide), fun t1 n1 => ?_⟩
    refine ⟨_, rfl, z, rfl, hz, fun H1 e1 => ⟨(by show 1 ≤ sizeLine; decide), fun t2 n2 => ?_⟩⟩
    have up : ∀ {b : Addr} {o : HO}, H b = some o → (upd H1 t2 (.tup [.str z])) b = some o := fun {b o} q => by
      have q1 : H1 b = some o := e1 _ _ (by rw [upd_ne (ne_of_none q n1)]; exact q)
      rw [upd_ne (ne_of_none q1 n2)]
      exact q1
    have q1 : H1 t1 = some (.tup []) := e1 _ _ upd_same
    exact ⟨x, CM, dx, t1, t2, [], [z], rfl, up hx, by rw [upd_ne (ne_of_none q1 n2)]; exact q1, upd_same, hC, fun H2 ⟨hk, r⟩ => k H2 ⟨fun b o q hb => hk b o (up q) hb, r⟩⟩
/-! ### Do.__init__ -/
def spDo (C : Addr) : Sp := fun vs H Q _ => ∃ (x dx : Addr) (z : Str) (us : List Str), vs = .ref x :: .str z :: us.map V.str ∧ H x = some (.ins C dx []) ∧ isName z = true ∧ (∀ z ∈ us, isName z = true) ∧ us.Nodup ∧ us ≠ [] ∧ us.length ≤ 3 ∧ ∀ H', MadeX C x dx us [z] H H' → Q .non H'
abbrev s_Do_init : Stmt := inClass (top 39) 0
abbrev N_Do_init : List Str := ["self", "name", "names"]
theorem sc_Do_init : FnScope N_Do_init ["self", "name", "names"] (defScope s_Do_init) := ⟨rfl, rfl, rfl, by decide +kernel, rfl, by decide +kernel, by decide +kernel⟩
theorem ok_Do_init {f : Addr} {fd : FuncData} (F : Fun K "__init__" "Do.__init__" s_Do_init f fd) (T : Tx K mg EC CE CD CU CM CO tL tN tU) (hC : ClD K CO) (c_need_name : Cal P w K mg base CX0 3 "need_name" spN1) (c_need_used : Cal P w K mg base CX0 4 "need_used" (spNU K)) :
    FnR P w K mg base CX0 5 f (spDo CO) := by
  obtain ⟨oc, od, kV, doc, pm, an, cdv, ct, osl, rfl, lk, hcd⟩ := F.ex
  have R := StX.fn_star (P := P) (w := w) (mg := mg) (base := base) (CX := CX0) (k := 4) (N := N_Do_init) (ps := ["self", "name"]) (pv := "names")
    (sp := fun vs H Q E => ∃ (x dx p : Addr) (z : Str) (us : List Str), vs = [.ref x, .str z, .ref p] ∧ H x = some (.ins CO dx []) ∧ H p = some (.tup (us.map V.str)) ∧ isName z = true ∧ (∀ z ∈ us, isName z = true) ∧ us.Nodup ∧ us ≠ [] ∧ us.length ≤ 3 ∧ ∀ H', MadeX CO x dx us [z] H H' → Q .non H')
    lk hcd sc_Do_init StX.cxUp_none (StX.bind_star2 (B := fun us => bindArgs _ ⟨us, []⟩) (fun a b => rfl) fun a b r rs => rfl) (fun A outer s H vs Q E hr h => ?_)
  · refine R.imp fun vs H Q E h => ?_
    obtain ⟨x, dx, z, us, rfl, hx, hz, hnm, hnd, hne, h3, k⟩ := h
    refine ⟨[.ref x, .str z], us.map V.str, rfl, rfl, ?_, fun p np => ⟨x, dx, p, z, us, rfl, ?_, upd_same, hz, hnm, hnd, hne, h3, fun H' ⟨hk, r⟩ => k H' ⟨fun b o q hb => hk b o ?_ hb, r⟩⟩⟩
    · have h4 : sizeLine = 16777216 := sizeLine_eq
      rw [List.length_map]
      omega
    · rw [upd_ne (ne_of_none hx np)]; exact hx
    · rw [upd_ne (ne_of_none q np)]; exact q
  · obtain ⟨x, dx, p, z, us, rfl, hx, hp, hz, hnm, hnd, hne, h3, k⟩ := h
    refine ⟨_, (pss_cons (ps_fld (pv 0) (pe_tup (pa_cons (pe_cal c_need_name (hr.mono (by decide)) (by rfl) pass0 (pa_cons (pv 1) pa_nil)) pa_nil)) rfl)
      (pss_one (ps_fld (pv 0) (pe_cal c_need_used (hr.mono (by decide)) (by rfl) pass0 (pa_cons (pv 2) pa_nil)) rfl))), ?_⟩
    refine ⟨_, rfl, z, rfl, hz, fun H1 e1 => ⟨(by show 1 ≤ sizeLine; decide), fun t nt => ?_⟩⟩
    have e2 : Ext H1 (upd H1 t (.tup [.str z])) := Ext.upd nt
    have f2 : (upd H1 t (.tup [.str z])) t = some (.tup ([z].map V.str)) := upd_same
    generalize (upd H1 t (.tup [.str z])) = H2 at e2 f2
    have e02 := e1.trans e2
    refine ⟨_, rfl, x, CO, dx, _, rfl, e02 _ _ hx, hC.cl, hC.nM, (by show 0 < 1000; decide), ?_⟩
    have nxp : p ≠ x := ne_of hp hx (by intro z; cases z)
    have nxt : t ≠ x := ne_of f2 (e02 _ _ hx) (by intro z; cases z)
    have kx : KeepX x H (upd H2 x (.ins CO dx (putF "made_names" (.ref t) []))) := fun b o q hb => by rw [upd_ne hb]; exact e02 b o q
    have hx3 : (upd H2 x (.ins CO dx (putF "made_names" (.ref t) []))) x = some (.ins CO dx (putF "made_names" (.ref t) [])) := upd_same
    have ht3 : (upd H2 x (.ins CO dx (putF "made_names" (.ref t) []))) t = some (.tup ([z].map V.str)) := by rw [upd_ne nxt]; exact f2
    have hp3 := kx p _ hp nxp
    generalize (upd H2 x (.ins CO dx (putF "made_names" (.ref t) []))) = H3 at kx hx3 hp3 ht3
    refine ⟨_, rfl, p, us, rfl, SqT.of hp3, hnm, hnd, hne, h3, fun a H4 e4 h4 => ?_⟩
    have na : a ≠ x := fun z => by
      have := (nw_some h4).1
      rw [z, hx3] at this
      cases this
    refine ⟨_, rfl, x, CO, dx, _, rfl, e4 _ _ hx3, hC.cl, hC.nU, (by show 1 < 1000; decide), k _ ⟨fun b o q hb => ?_, _, a, t, upd_same, ?_, ?_, ?_, ?_⟩⟩
    · rw [upd_ne hb]
      exact e4 _ _ (kx b o q hb)
    · rw [lookup_putF, if_pos rfl]
    · rw [lookup_putF, if_neg (fun e => num e.symm), lookup_putF, if_pos rfl]
    · rw [upd_ne na]
      exact (nw_some h4).2
    · rw [upd_ne nxt]
      exact e4 _ _ ht3
/-! ### a deed that is made -/
theorem mk_in {H : Hp} {x dx C : Addr} (nx : H x = none) (ndx : H dx = none) : Ext H (upd (upd H dx (.own x)) x (.ins C dx [])) := fun b o q => by
  rw [upd_ne (ne_of_none q nx), upd_ne (ne_of_none q ndx)]
  exact q
theorem made_at {cl : Dd → Addr} {H H2 : Hp} {x dx : Addr} {d : Dd} (nx : H x = none) (ndx : H dx = none) (h : MadeX (cl d) x dx d.2 d.1.toList (upd (upd H dx (.own x)) x (.ins (cl d) dx [])) H2) : Ext H H2 ∧ DeedAt cl H2 x d := by
  obtain ⟨hk, fs, t1, t2, h1, h2, h3, h4, h5⟩ := h
  exact ⟨fun b o q => hk b o (mk_in nx ndx _ _ q) (ne_of_none q nx), dx, fs, t1, t2, h1, h2, h3, h4, h5⟩
end
end K01
end
section
set_option Elab.async false
set_option autoImplicit false
set_option linter.all false
set_option maxRecDepth 100000
set_option maxHeartbeats 4000000
namespace K01
open PySem PySem.Spec PyProof.Rows L2 Ls
open C8 (pss_cut tCut)
open TL
/-! ### ascending, plain -/
def Asc (zs ys : List Str) : Prop := ys.Nodup ∧ sortedS ys = true ∧ ∀ y, y ∈ ys ↔ y ∈ zs
theorem rising_pw : ∀ {l : List Str} {p : Str}, risingS p l = true → (p :: l).Pairwise fun a b => tl a ≤ tl b
  | [], p, _ => List.pairwise_cons.mpr ⟨fun _ h => (List.not_mem_nil h).elim, .nil⟩
  | x :: r, p, h => by
    have h : (!ltCps x.cps.toList p.cps.toList && risingS x r) = true := h
    rw [Bool.and_eq_true, ltCps_eq] at h
    have hpx : tl p ≤ tl x := fun z => by
      have h1 := h.1
      rw [decide_eq_true (show x.cps.toList < p.cps.toList from z)] at h1
      cases h1
    have ih := rising_pw h.2
    refine List.pairwise_cons.mpr ⟨fun y hy => ?_, ih⟩
    rcases List.mem_cons.mp hy with rfl | hy
    · exact hpx
    · exact List.le_trans hpx ((List.pairwise_cons.mp ih).1 y hy)
theorem sorted_pw {l : List Str} (h : sortedS l = true) : l.Pairwise fun a b => tl a ≤ tl b := by
  cases l with
  | nil => exact .nil
  | cons x r => exact rising_pw h
theorem Asc.uniq {zs zs' ys ys' : List Str} (h : Asc zs ys) (h' : Asc zs' ys') (e : ∀ y, y ∈ zs ↔ y ∈ zs') : ys = ys' := by
  obtain ⟨n1, s1, m1⟩ := h
  obtain ⟨n2, s2, m2⟩ := h'
  exact List.Perm.eq_of_pairwise (le := fun a b => tl a ≤ tl b) (fun a b _ _ h1 h2 => ext_tl (List.le_antisymm h1 h2)) (sorted_pw s1) (sorted_pw s2) ((List.perm_ext_iff_of_nodup n1 n2).mpr fun y => by rw [m1, m2, e])
theorem list_of_get {ys : List V} {us : List Str} (hl : ys.length = us.length) (h : ∀ (j : Nat) (y : V), ys[j]? = some y → ∃ z, us[j]? = some z ∧ y = .str z) : ys = us.map V.str := by
  refine List.ext_getElem? fun j => ?_
  cases q : ys[j]? with
  | none =>
    have := List.getElem?_eq_none_iff.mp q
    symm
    rw [List.getElem?_eq_none_iff, List.length_map]
    omega
  | some v =>
    obtain ⟨z, h1, rfl⟩ := h j v q
    rw [List.getElem?_map, h1]
    rfl
section
variable {P : Program} {w : World} {K : PySem.W.Frag} {mg : Str → Option Value} {base : Heap} {EC : Str → Addr} {CE CD CU CM CO : Addr} {tL tN tU : Tok}
/-! ### ascending -/
def spAsc : Sp := fun vs H Q _ => ∃ (t : Addr) (zs : List Str), vs = [.ref t] ∧ H t = some (.tup (zs.map V.str)) ∧ zs.length ≤ 60 ∧ ∀ q ys H', Asc zs ys → Ext H H' → nw H H' q = some (.tup (ys.map V.str)) → Q (.ref q) H'
abbrev s_ascending : Stmt := top 33
abbrev N_ascending : List Str := ["names", "name"]
theorem sc_ascending : FnScope N_ascending ["names"] (defScope s_ascending) := ⟨rfl, rfl, rfl, by decide +kernel, rfl, by decide +kernel, by decide +kernel⟩
theorem ok_asc {f : Addr} {fd : FuncData} (F : Fun K "ascending" "ascending" s_ascending f fd) (T : Tx K mg EC CE CD CU CM CO tL tN tU) : FnOk P w K mg base CX0 1 f fd ["names"] spAsc := by
  refine F.ok sc_ascending (fun vs H Q E h => ?_) (fun cdv A outer s H vs Q E hr h => ?_)
  · obtain ⟨t, zs, rfl, _⟩ := h
    rfl
  · obtain ⟨t, zs, rfl, ht, hln, k⟩ := h
    have h4 : sizeLine = 16777216 := sizeLine_eq
    have lz : (zs.map V.str).length = zs.length := List.length_map _
    refine ⟨_, (pss_one (ps_ret (pe_callTy call_tuple_of (by rfl) (T.bn _ (by decide +kernel)) (by decide +kernel) (pa_cons (pe_callB (cr_sortT rfl) (by rfl) (T.bn _ (by decide +kernel)) (by decide +kernel) (pa_cons (pe_callTy (cr_setT rfl) (by rfl) (T.bn _ (by decide +kernel)) (by decide +kernel) (pa_cons (pe_lc (own := [("name", 1)]) rfl sc_ascending.nd (pi_tup (pv 0)) (blkOk_by (own := [("name", 1)]) (N := N_ascending) (sc := defScope s_ascending) (by decide +kernel)) (fun _ _ _ _ _ => (pg_name (i := 1) sc_ascending.nd rfl (by first | exact Or.inl rfl | exact Or.inr rfl))) (fun _ _ _ _ _ => pts_nil) (fun _ _ _ _ _ => (pe_callTy SkE.call_str_str (by rfl) (T.bn _ (by decide +kernel)) (by decide +kernel) (pa_cons (pv 1) pa_nil)))) pa_nil)) pa_nil)) pa_nil)))), ?_⟩
    refine ⟨_, rfl, t, rfl, ⟨_, SqT.of ht⟩, fun D hD => ?_⟩
    refine lc_map (walk_tup (xs := zs.map V.str)) [D] (by simp) (fun H' => Ext H H') (fun j y _ => ∃ z, zs[j]? = some z ∧ y = .str z) (by omega) (fun _ _ _ _ _ h => h)
      (fun H' o hh b o' z => by rw [upd_ne (ne_of_none z hD)]; exact hh b o' z) (Ext.upd hD) (fun H' _ hh => SqT.of (hh _ _ ht)) ?_ ?_
    · rintro j x H8 _ acc C hj e hh8 hD8 ⟨rfl, hx⟩ hC
      rw [List.getElem?_map] at hx
      obtain ⟨y, hy, rfl⟩ := Option.map_eq_some_iff.mp hx
      exact ⟨rfl, _, rfl, _, rfl, hC _ _ hD8 Ext.rfl' hh8 ⟨y, hy, rfl⟩⟩
    · intro H8 ys e hh8 hD8 hlen8 hy8
      have hzs := list_of_get (by rw [lz] at hlen8; exact hlen8) hy8
      subst hzs
      refine ⟨D, zs, rfl, SqL.of hD8, by omega, fun S M1 nS nd lM mM => ?_⟩
      have e9 : Ext H8 (upd H8 S (SetT w S M1)) := Ext.upd nS
      refine ⟨S, M1, rfl, upd_same, by omega, fun ys p pm so np => ?_⟩
      have e10 := e9.trans (Ext.upd (o := HO.lst (ys.map V.str)) np)
      refine ⟨p, _, rfl, .inl ⟨SqL.of upd_same, fun q nq => ?_⟩⟩
      refine k q ys _ ⟨pm.nodup_iff.mpr nd, so, fun y => by rw [pm.mem_iff, mM]⟩ (hh8.trans (e10.trans (Ext.upd nq))) ?_
      rw [nw_at (ext_free (hh8.trans e10) nq)]
      exact upd_same
/-! ### the properties -/
def spUses (cl : Dd → Addr) : Sp := fun vs H Q _ => ∃ (a : Addr) (d : Dd), vs = [.ref a] ∧ DeedAt cl H a d ∧ ∀ t, H t = some (.tup (d.2.map V.str)) → Q (.ref t) H
abbrev s_Deed_uses : Stmt := inClass (top 36) 2
abbrev N_Deed_uses : List Str := ["self"]
theorem sc_Deed_uses : FnScope N_Deed_uses ["self"] (defScope s_Deed_uses) := ⟨rfl, rfl, rfl, by decide +kernel, rfl, by decide +kernel, by decide +kernel⟩
theorem ok_uses {f : Addr} {fd : FuncData} (F : Fun K "uses" "Deed.uses" s_Deed_uses f fd) (T : Tx K mg EC CE CD CU CM CO tL tN tU) (TC : ∀ d, ClD K (clsD CU CM CO d)) : FnOk P w K mg base CX0 1 f fd ["self"] (spUses (clsD CU CM CO)) := by
  refine F.ok sc_Deed_uses (fun vs H Q E h => ?_) (fun cdv A outer s H vs Q E hr h => ?_)
  · obtain ⟨a, d, rfl, _⟩ := h
    rfl
  · obtain ⟨a, d, rfl, ⟨dx, fs, t1, t2, ha, l1, l2, h1, h2⟩, k⟩ := h
    refine ⟨_, (pss_one (ps_ret (pe_fld (pv 0) rfl))), ?_⟩
    exact ⟨_, rfl, a, _, dx, _, _, rfl, ha, (TC d).cl, (TC d).nU, l1, k t1 h1⟩
def madeV (d : Dd) : V := match d.1 with
  | none => .non
  | some z => .str z
def spMakes (cl : Dd → Addr) : Sp := fun vs H Q _ => ∃ (a : Addr) (d : Dd), vs = [.ref a] ∧ DeedAt cl H a d ∧ Q (madeV d) H
abbrev s_Deed_makes : Stmt := inClass (top 36) 3
abbrev N_Deed_makes : List Str := ["self"]
theorem sc_Deed_makes : FnScope N_Deed_makes ["self"] (defScope s_Deed_makes) := ⟨rfl, rfl, rfl, by decide +kernel, rfl, by decide +kernel, by decide +kernel⟩
theorem ok_makes {f : Addr} {fd : FuncData} (F : Fun K "makes" "Deed.makes" s_Deed_makes f fd) (T : Tx K mg EC CE CD CU CM CO tL tN tU) (TC : ∀ d, ClD K (clsD CU CM CO d)) : FnOk P w K mg base CX0 1 f fd ["self"] (spMakes (clsD CU CM CO)) := by
  refine F.ok sc_Deed_makes (fun vs H Q E h => ?_) (fun cdv A outer s H vs Q E hr h => ?_)
  · obtain ⟨a, d, rfl, _⟩ := h
    rfl
  · obtain ⟨a, d, rfl, ⟨dx, fs, t1, t2, ha, l1, l2, h1, h2⟩, k⟩ := h
    refine ⟨_, (pss_one (ps_ret (pe_ifExp (pt_cmpR op_gt (pe_callB call_len_seq (by rfl) (T.bn _ (by decide +kernel)) (by decide +kernel) (pa_cons (pe_fld (pv 0) rfl) pa_nil)) pe_int (nomark _)) (pe_ix ix_tup (pe_fld (pv 0) rfl) pe_int (fun _ _ => rfl)) pe_non))), ?_⟩
    refine ⟨_, rfl, a, _, dx, _, _, rfl, ha, (TC d).cl, (TC d).nM, l2, t2, _, rfl, .inr (SqT.of h2), _, _, rfl, rfl, _, rfl, ?_⟩
    obtain ⟨m, us⟩ := d
    cases m with
    | none =>
      refine iteNo (decide_eq_false (by simp)) ?_
      exact k
    | some z =>
      refine iteYes (decide_eq_true (by simp)) ?_
      exact ⟨_, rfl, a, _, dx, _, _, rfl, ha, (TC _).cl, (TC _).nM, l2, t2, _, 0, .str z, rfl, rfl, SqT.of h2, atI_nat (j := 0) rfl, k⟩
theorem cat_ok {H : Hp} {d : Dd} (hl : d.2.length ≤ 3) : ((d.2 ++ d.1.toList).map V.str).length ≤ 4 := by
  have : d.1.toList.length ≤ 1 := by cases d.1 <;> simp
  rw [List.length_map, List.length_append]
  omega
end
end K01
end
section
set_option Elab.async false
set_option autoImplicit false
set_option linter.all false
set_option maxRecDepth 100000
set_option maxHeartbeats 4000000
namespace K01
open PySem PySem.Spec PyProof.Rows L2 Ls
open C8 (pss_cut tCut)
open TL
/-! ### the text of a deed -/
def wordsD : Dd → List Str
  | (none, us) => "use" :: us
  | (some m, []) => ["make", m]
  | (some m, u :: r) => "do" :: m :: u :: r
def textD (d : Dd) : Str := Txt.join " " (wordsD d)
theorem sp_no : (32 : Nat) ∉ tl lettersS := by decide +kernel
theorem words_ne (d : Dd) : wordsD d ≠ [] := by
  obtain ⟨m, us⟩ := d
  cases m with
  | none => exact List.cons_ne_nil _ _
  | some z => cases us <;> exact List.cons_ne_nil _ _
theorem words_name {d : Dd} (h : Good d) : ∀ z ∈ wordsD d, isName z = true := by
  obtain ⟨m, us⟩ := d
  have hu := h.nm
  cases m with
  | none =>
    intro z hz
    rcases List.mem_cons.mp hz with rfl | hz
    · decide +kernel
    · exact hu z hz
  | some m =>
    have hm := h.mn m rfl
    cases us with
    | nil =>
      intro z hz
      rcases List.mem_cons.mp hz with rfl | hz
      · decide +kernel
      · rcases List.mem_cons.mp hz with rfl | hz
        · exact hm
        · cases hz
    | cons u r =>
      intro z hz
      rcases List.mem_cons.mp hz with rfl | hz
      · decide +kernel
      · rcases List.mem_cons.mp hz with rfl | hz
        · exact hm
        · exact hu z hz
theorem split_text {d : Dd} (h : Good d) : Txt.split (textD d) " " = wordsD d := split_join sp_tl sp_kd (words_ne d) fun p hp => name_no (words_name h p hp) sp_no
theorem words_inj {d d' : Dd} (h : Good d) (h' : Good d') (e : wordsD d = wordsD d') : d = d' := by
  obtain ⟨m, us⟩ := d
  obtain ⟨m', us'⟩ := d'
  have n1 : ¬ (("use" : Str) = "make") := by decide +kernel
  have n2 : ¬ (("use" : Str) = "do") := by decide +kernel
  have n3 : ¬ (("make" : Str) = "do") := by decide +kernel
  cases m with
  | none =>
    cases m' with
    | none =>
      have e : ("use" : Str) :: us = ("use" : Str) :: us' := e
      rw [(List.cons.inj e).2]
    | some z' =>
      cases us' with
      | nil => exact absurd (List.cons.inj e).1 n1
      | cons u r => exact absurd (List.cons.inj e).1 n2
  | some z =>
    cases us with
    | nil =>
      cases m' with
      | none => exact absurd (List.cons.inj e).1.symm n1
      | some z' =>
        cases us' with
        | nil =>
          have e : [("make" : Str), z] = [("make" : Str), z'] := e
          rw [(List.cons.inj (List.cons.inj e).2).1]
        | cons u r => exact absurd (List.cons.inj e).1 n3
    | cons u r =>
      cases m' with
      | none => exact absurd (List.cons.inj e).1.symm n2
      | some z' =>
        cases us' with
        | nil => exact absurd (List.cons.inj e).1.symm n3
        | cons u' r' =>
          have e : ("do" : Str) :: z :: u :: r = ("do" : Str) :: z' :: u' :: r' := e
          have e2 := List.cons.inj (List.cons.inj e).2
          rw [e2.1, e2.2]
theorem text_inj {d d' : Dd} (h : Good d) (h' : Good d') : textD d = textD d' ↔ d = d' := ⟨fun e => words_inj h h' (by rw [← split_text h, ← split_text h', e]), fun e => by rw [e]⟩
theorem join_cons (a b : Str) (r : List Str) : Txt.join " " (a :: b :: r) = a ++ " " ++ Txt.join " " (b :: r) := by
  rw [join_eq, join_eq]
  rfl
theorem join_one (a : Str) : Txt.join " " [a] = a := by
  rw [join_eq]
  rfl
theorem join_le : ∀ {us : List Str}, (∀ z ∈ us, isName z = true) → (Txt.join " " us).length ≤ 7 * us.length
  | [], _ => by rw [join_eq]; exact Nat.le_refl _
  | [a], h => by
    rw [join_one]
    have := (name_len (h a (by simp))).2
    simp
    omega
  | a :: b :: r, h => by
    rw [join_cons, Str.length_append, Str.length_append]
    have h1 := (name_len (h a (by simp))).2
    have h2 := join_le (us := b :: r) fun z hz => h z (List.mem_cons_of_mem _ hz)
    have h3 : (" " : Str).length = 1 := by decide +kernel
    simp only [List.length_cons] at h2 ⊢
    omega
theorem sum_le : ∀ {us : List Str}, (∀ z ∈ us, isName z = true) → (us.map (·.length)).sum ≤ 6 * us.length
  | [], _ => Nat.le_refl _
  | a :: r, h => by
    have h1 := (name_len (h a (by simp))).2
    have h2 := sum_le (us := r) fun z hz => h z (List.mem_cons_of_mem _ hz)
    simp only [List.map_cons, List.sum_cons, List.length_cons]
    omega
/-- what the top says of a class of deeds -/
structure ClT (K : PySem.W.Frag) (CD fs fe C : Addr) : Prop where
  cd : ClD K C
  ha : PySem.W.findIn K (.ref C) "__class__" = some (some (.builtin "object.__class__"))
  hn : PySem.W.specialIn K (.builtin "object.__class__") "__get__" = some (some (.builtin "getset_descriptor.__get__"))
  htk : PySem.W.takesIn K (.builtin "object.__class__") = some true
  hm : PySem.W.mroIn K C (.type "object") = some true
  kit : PySem.W.kitOne K (.ref C) (.ref CD) = some true
  st : PySem.W.findIn K (.ref C) "__str__" = some (some (.ref fs))
  eq : PySem.W.findIn K (.ref C) "__eq__" = some (some (.ref fe))
section
variable {P : Program} {w : World} {K : PySem.W.Frag} {mg : Str → Option Value} {base : Heap} {EC : Str → Addr} {CE CD CU CM CO : Addr} {tL tN tU : Tok}
/-! ### names, room -/
theorem cat_go {t1 t2 : Addr} {H : Hp} {d : Dd} {Q : VK} {E : XK} (hg : Good d) (h1 : H t1 = some (.tup (d.2.map V.str))) (h2 : H t2 = some (.tup (d.1.toList.map V.str))) (k : ∀ q ys H', Asc (d.2 ++ d.1.toList) ys → Ext H H' → nw H H' q = some (.tup (ys.map V.str)) → Q (.ref q) H') :
    (d.2.map V.str = [] → spAsc [.ref t2] H Q E) ∧ (d.2.map V.str ≠ [] → d.1.toList.map V.str = [] → spAsc [.ref t1] H Q E) ∧ (d.2.map V.str ≠ [] → d.1.toList.map V.str ≠ [] → ∀ p, H p = none → spAsc [.ref p] (upd H p (.tup (d.2.map V.str ++ d.1.toList.map V.str))) Q E) := by
  have hc := cat_ok (H := H) (d := d) hg.le
  rw [List.length_map] at hc
  have go : ∀ t H1, Ext H H1 → H1 t = some (.tup ((d.2 ++ d.1.toList).map V.str)) → spAsc [.ref t] H1 Q E := fun t H1 e1 ht => ⟨t, _, rfl, ht, by omega, fun q ys H' as e nq => k q ys H' as (e1.trans e) (nw_back e1 _ _ nq)⟩
  refine ⟨fun e => go t2 H Ext.rfl' ?_, fun _ e => go t1 H Ext.rfl' ?_, fun _ _ p np => go p _ (Ext.upd np) ?_⟩
  · rw [List.map_append, e, List.nil_append]
    exact h2
  · rw [List.map_append, e, List.append_nil]
    exact h1
  · rw [List.map_append]
    exact upd_same
def spNames (cl : Dd → Addr) : Sp := fun vs H Q _ => ∃ (a : Addr) (d : Dd), vs = [.ref a] ∧ DeedAt cl H a d ∧ Good d ∧ ∀ q ys H', Asc (d.2 ++ d.1.toList) ys → Ext H H' → nw H H' q = some (.tup (ys.map V.str)) → Q (.ref q) H'
abbrev s_Deed_names : Stmt := inClass (top 36) 4
abbrev N_Deed_names : List Str := ["self"]
theorem sc_Deed_names : FnScope N_Deed_names ["self"] (defScope s_Deed_names) := ⟨rfl, rfl, rfl, by decide +kernel, rfl, by decide +kernel, by decide +kernel⟩
theorem ok_names {f : Addr} {fd : FuncData} (F : Fun K "names" "Deed.names" s_Deed_names f fd) (T : Tx K mg EC CE CD CU CM CO tL tN tU) (TC : ∀ d, ClD K (clsD CU CM CO d)) (c_ascending : Cal P w K mg base CX0 1 "ascending" spAsc) : FnOk P w K mg base CX0 2 f fd ["self"] (spNames (clsD CU CM CO)) := by
  refine F.ok sc_Deed_names (fun vs H Q E h => ?_) (fun cdv A outer s H vs Q E hr h => ?_)
  · obtain ⟨a, d, rfl, _⟩ := h
    rfl
  · obtain ⟨a, d, rfl, ⟨dx, fs, t1, t2, ha, l1, l2, h1, h2⟩, hg, k⟩ := h
    have h4 : sizeLine = 16777216 := sizeLine_eq
    have hl := hg.le
    have hc := cat_ok (H := H) (d := d) hl
    rw [List.map_append, List.length_append] at hc
    have hc2 : (d.2 ++ d.1.toList).length ≤ 4 := by
      rw [List.length_map, List.length_map] at hc
      rw [List.length_append]
      exact hc
    refine ⟨_, (pss_one (ps_ret (pe_cal c_ascending (hr.mono (by decide)) (by rfl) pass0 (pa_cons (pe_op op_catA (pe_fld (pv 0) rfl) (pe_fld (pv 0) rfl)) pa_nil)))), ?_⟩
    refine ⟨_, rfl, a, _, dx, _, _, rfl, ha, (TC d).cl, (TC d).nU, l1, _, rfl, a, _, dx, _, _, rfl, ha, (TC d).cl, (TC d).nM, l2, t1, t2, _, _, rfl, rfl, SqT.of h1, SqT.of h2, by omega, cat_go (E := C8.E0) hg h1 h2 k⟩
def spRoom (cl : Dd → Addr) : Sp := fun vs H Q _ => ∃ (a : Addr) (d : Dd), vs = [.ref a] ∧ DeedAt cl H a d ∧ Good d ∧ ∀ ys H', Asc (d.2 ++ d.1.toList) ys → Ext H H' → Q (.int ys.length) H'
abbrev s_Deed_room : Stmt := inClass (top 36) 5
abbrev N_Deed_room : List Str := ["self"]
theorem sc_Deed_room : FnScope N_Deed_room ["self"] (defScope s_Deed_room) := ⟨rfl, rfl, rfl, by decide +kernel, rfl, by decide +kernel, by decide +kernel⟩
theorem ok_room {f : Addr} {fd : FuncData} (F : Fun K "room" "Deed.room" s_Deed_room f fd) (T : Tx K mg EC CE CD CU CM CO tL tN tU) (TC : ∀ d, ClD K (clsD CU CM CO d)) (c_ascending : Cal P w K mg base CX0 1 "ascending" spAsc) : FnOk P w K mg base CX0 2 f fd ["self"] (spRoom (clsD CU CM CO)) := by
  refine F.ok sc_Deed_room (fun vs H Q E h => ?_) (fun cdv A outer s H vs Q E hr h => ?_)
  · obtain ⟨a, d, rfl, _⟩ := h
    rfl
  · obtain ⟨a, d, rfl, ⟨dx, fs, t1, t2, ha, l1, l2, h1, h2⟩, hg, k⟩ := h
    have h4 : sizeLine = 16777216 := sizeLine_eq
    have hl := hg.le
    have hc := cat_ok (H := H) (d := d) hl
    rw [List.map_append, List.length_append] at hc
    have hc2 : (d.2 ++ d.1.toList).length ≤ 4 := by
      rw [List.length_map, List.length_map] at hc
      rw [List.length_append]
      exact hc
    refine ⟨_, (pss_one (ps_ret (pe_callB call_len_seq (by rfl) (T.bn _ (by decide +kernel)) (by decide +kernel) (pa_cons (pe_cal c_ascending (hr.mono (by decide)) (by rfl) pass0 (pa_cons (pe_op op_catA (pe_fld (pv 0) rfl) (pe_fld (pv 0) rfl)) pa_nil)) pa_nil)))), ?_⟩
    refine ⟨_, rfl, a, _, dx, _, _, rfl, ha, (TC d).cl, (TC d).nU, l1, _, rfl, a, _, dx, _, _, rfl, ha, (TC d).cl, (TC d).nM, l2, t1, t2, _, _, rfl, rfl, SqT.of h1, SqT.of h2, by omega, cat_go (E := C8.E0) (Q := fun v H2 => ∃ p xs, [v] = [V.ref p] ∧ (SqL K H2 p xs ∨ SqT K H2 p xs) ∧ Q (.int xs.length) H2) hg h1 h2 fun q ys H' as e nq => ⟨q, _, rfl, .inr (SqT.of (nw_some nq).2), ?_⟩⟩
    rw [List.length_map]
    exact k ys H' as e
/-! ### __str__ -/
def spStr (cl : Dd → Addr) : Sp := fun vs H Q _ => ∃ (a : Addr) (d : Dd), vs = [.ref a] ∧ DeedAt cl H a d ∧ Good d ∧ Q (.str (textD d)) H
abbrev s_Deed_str : Stmt := inClass (top 36) 8
abbrev N_Deed_str : List Str := ["self"]
theorem sc_Deed_str : FnScope N_Deed_str ["self"] (defScope s_Deed_str) := ⟨rfl, rfl, rfl, by decide +kernel, rfl, by decide +kernel, by decide +kernel⟩
theorem ok_str {f : Addr} {fd : FuncData} (F : Fun K "__str__" "Deed.__str__" s_Deed_str f fd) (T : Tx K mg EC CE CD CU CM CO tL tN tU) (TC : ∀ d, ClD K (clsD CU CM CO d)) : FnOk P w K mg base CX0 1 f fd ["self"] (spStr (clsD CU CM CO)) := by
  refine F.ok sc_Deed_str (fun vs H Q E h => ?_) (fun cdv A outer s H vs Q E hr h => ?_)
  · obtain ⟨a, d, rfl, _⟩ := h
    rfl
  · obtain ⟨a, d, rfl, ⟨dx, fs, t1, t2, ha, l1, l2, h1, h2⟩, hg, k⟩ := h
    have h4 : sizeLine = 16777216 := sizeLine_eq
    have hl := hg.le
    have hj := join_le hg.nm
    have emp : Str.empty.length = 0 := rfl
    have c1 : (" " : Str).length = 1 := by decide +kernel
    refine ⟨_, (pss_cons (ps_if (pt_cmpR op_eq (pe_callB call_len_seq (by rfl) (T.bn _ (by decide +kernel)) (by decide +kernel) (pa_cons (pe_fld (pv 0) rfl) pa_nil)) pe_int (nomark _)) (pss_one (ps_ret (pe_joined (.cons pe_str (.cons (pe_fmt (pe_join pe_str (pe_fld (pv 0) rfl))) .nil))))) pss_nil)
      (pss_cons (ps_if (pt_cmpR op_eq (pe_callB call_len_seq (by rfl) (T.bn _ (by decide +kernel)) (by decide +kernel) (pa_cons (pe_fld (pv 0) rfl) pa_nil)) pe_int (nomark _)) (pss_one (ps_ret (pe_joined (.cons pe_str (.cons (pe_fmt (pe_ix ix_tup (pe_fld (pv 0) rfl) pe_int (fun _ _ => rfl))) .nil))))) pss_nil)
      (pss_one (ps_ret (pe_joined (.cons pe_str (.cons (pe_fmt (pe_ix ix_tup (pe_fld (pv 0) rfl) pe_int (fun _ _ => rfl))) (.cons pe_str (.cons (pe_fmt (pe_join pe_str (pe_fld (pv 0) rfl))) .nil))))))))), ?_⟩
    refine ⟨_, rfl, a, _, dx, _, _, rfl, ha, (TC d).cl, (TC d).nM, l2, t2, _, rfl, .inr (SqT.of h2), rfl, _, rfl, ?_⟩
    obtain ⟨m, us⟩ := d
    cases m with
    | none =>
      refine iteYes (decide_eq_true rfl) ?_
      have hj : (Txt.join " " us).length ≤ 7 * us.length := hj
      have hl : us.length ≤ 3 := hl
      have lu : ("use " : Str).length = 4 := by decide +kernel
      have hs := sum_le (us := us) hg.nm
      refine ⟨"use ", rfl, by rw [Str.length_append]; omega, ⟨_, rfl⟩, _, rfl, a, _, dx, _, _, rfl, ha, (TC _).cl, (TC _).nU, l1, _, t1, us, rfl, rfl, .inr (SqT.of h1), by rw [c1]; omega, .inl ⟨_, rfl, by omega, _, rfl, by rw [Str.length_append, Str.length_append]; omega, ?_⟩⟩
      have e : Str.empty ++ "use " ++ Txt.join " " us = textD (none, us) := by
        cases us with
        | nil => exact absurd rfl (hg.ne rfl)
        | cons u r =>
          show _ = Txt.join " " ("use" :: u :: r)
          rw [join_cons]
          refine ext_tl ?_
          rw [tl_append, tl_append, tl_append, tl_append, show tl ("use " : Str) = tl ("use" : Str) ++ tl (" " : Str) from by decide +kernel]
          rfl
      rw [e]
      exact k
    | some z =>
      have hz := (name_len (hg.mn z rfl)).2
      refine iteNo (decide_eq_false (by intro q; cases q)) ?_
      refine ⟨_, rfl, a, _, dx, _, _, rfl, ha, (TC _).cl, (TC _).nU, l1, t1, _, rfl, .inr (SqT.of h1), rfl, _, rfl, ?_⟩
      cases us with
      | nil =>
        refine iteYes (decide_eq_true rfl) ?_
        have lu : ("make " : Str).length = 5 := by decide +kernel
        refine ⟨"make ", rfl, by rw [Str.length_append]; omega, _, rfl, a, _, dx, _, _, rfl, ha, (TC _).cl, (TC _).nM, l2, t2, _, 0, .str z, rfl, rfl, SqT.of h2, atI_nat (j := 0) rfl, .inl ⟨z, rfl, by omega, z, rfl, by rw [Str.length_append, Str.length_append]; omega, ?_⟩⟩
        have e : Str.empty ++ "make " ++ z = textD (some z, []) := by
          show _ = Txt.join " " ["make", z]
          rw [join_cons, join_one]
          refine ext_tl ?_
          rw [tl_append, tl_append, tl_append, tl_append, show tl ("make " : Str) = tl ("make" : Str) ++ tl (" " : Str) from by decide +kernel]
          rfl
        rw [e]
        exact k
      | cons u r =>
        refine iteNo (decide_eq_false (by intro q; have := V.int.inj q; simp at this; omega)) ?_
        have hj : (Txt.join " " (u :: r)).length ≤ 7 * (u :: r).length := hj
        have hl : (u :: r).length ≤ 3 := hl
        have hs := sum_le (us := u :: r) hg.nm
        have lu : ("do " : Str).length = 3 := by decide +kernel
        refine ⟨"do ", rfl, by rw [Str.length_append]; omega, _, rfl, a, _, dx, _, _, rfl, ha, (TC _).cl, (TC _).nM, l2, t2, _, 0, .str z, rfl, rfl, SqT.of h2, atI_nat (j := 0) rfl, .inl ⟨z, rfl, by omega, z, rfl, by rw [Str.length_append, Str.length_append]; omega, ?_⟩⟩
        refine ⟨" ", rfl, by rw [Str.length_append, Str.length_append, Str.length_append]; omega, ⟨_, rfl⟩, _, rfl, a, _, dx, _, _, rfl, ha, (TC _).cl, (TC _).nU, l1, _, t1, u :: r, rfl, rfl, .inr (SqT.of h1), by rw [c1]; omega, .inl ⟨_, rfl, by omega, _, rfl, by rw [Str.length_append, Str.length_append, Str.length_append, Str.length_append]; omega, ?_⟩⟩
        have e : Str.empty ++ "do " ++ z ++ " " ++ Txt.join " " (u :: r) = textD (some z, u :: r) := by
          show _ = Txt.join " " ("do" :: z :: u :: r)
          rw [join_cons, join_cons]
          refine ext_tl ?_
          rw [tl_append, tl_append, tl_append, tl_append, tl_append, tl_append, tl_append, tl_append, show tl ("do " : Str) = tl ("do" : Str) ++ tl (" " : Str) from by decide +kernel]
          simp only [List.append_assoc]
          rfl
        rw [e]
        exact k
end
end K01
end
section
set_option Elab.async false
set_option autoImplicit false
set_option linter.all false
set_option maxRecDepth 100000
set_option maxHeartbeats 4000000
namespace K01
open PySem PySem.Spec PyProof.Rows L2 Ls
open C8 (pss_cut tCut)
open TL
def usedOf (w0 : Str) (r : List Str) : List Str := if w0 = "use" then r else if w0 = "do" then r.drop 1 else []
def rowOk : List Str → Bool
  | [] => false
  | w0 :: r => r.all isName && (!r.isEmpty && (if w0 = "make" then decide (r.length = 1) else (decide (1 ≤ (usedOf w0 r).length) && (decide ((usedOf w0 r).length ≤ 3) && decide (usedOf w0 r).Nodup))))
abbrev kU : Key := Sum.inr "use"
abbrev kM : Key := Sum.inr "make"
abbrev kD : Key := Sum.inr "do"
def firstV (w0 : Str) (n : Int) : Int := if w0 = "use" then 1 else if w0 = "make" then 2 else if w0 = "do" then 2 else n
theorem first_nn {w0 : Str} {n : Int} (h : 0 ≤ n) : 0 ≤ firstV w0 n := by
  unfold firstV
  split
  · decide
  · split
    · decide
    · split
      · decide
      · exact h
theorem first_get (w0 : Str) (n : Int) : (valV [(kU, V.int 1), (kM, .int 2), (kD, .int 2)] (Sum.inr w0)).getD (.int n) = .int (firstV w0 n) := by
  have ne : ∀ {a b : Str}, ¬ b = a → ¬ ((Sum.inr a : Key) = Sum.inr b) := fun h e => h (Sum.inr.inj e).symm
  unfold firstV
  by_cases h1 : w0 = "use"
  · rw [if_pos h1, valV_pos (by rw [h1])]
    rfl
  · rw [if_neg h1, valV_neg (ne h1)]
    by_cases h2 : w0 = "make"
    · rw [if_pos h2, valV_pos (by rw [h2])]
      rfl
    · rw [if_neg h2, valV_neg (ne h2)]
      by_cases h3 : w0 = "do"
      · rw [if_pos h3, valV_pos (by rw [h3])]
        rfl
      · rw [if_neg h3, valV_neg (ne h3), valV_nil]
        rfl
theorem sIx_pos {n d : Nat} {i : Int} (h : 0 ≤ i) : HT.sIx n d (some i) = min i.toNat n := by
  show (if i < 0 then (i + (n : Int)).toNat else min i.toNat n) = _
  rw [if_neg (by omega)]
theorem cutV_to (xs : List V) {i : Int} (h : 0 ≤ i) : cutV xs none (some i) = xs.take i.toNat := by
  unfold cutV
  rw [sIx_pos h, HT.sIx_none, List.drop_zero, Nat.sub_zero]
  rcases Nat.le_total i.toNat xs.length with h1 | h1
  · rw [Nat.min_eq_left h1]
  · rw [Nat.min_eq_right h1, List.take_of_length_le (Nat.le_refl _), List.take_of_length_le h1]
theorem cutV_from (xs : List V) {i : Int} (h : 0 ≤ i) : cutV xs (some i) none = xs.drop i.toNat := by
  unfold cutV
  rw [sIx_pos h, HT.sIx_none]
  rcases Nat.le_total i.toNat xs.length with h1 | h1
  · rw [Nat.min_eq_left h1]
    exact List.take_of_length_le (by rw [List.length_drop]; omega)
  · rw [Nat.min_eq_right h1, List.drop_of_length_le (Nat.le_refl _), List.drop_of_length_le h1]
    simp
theorem cutM_from (ws : List Str) {i : Int} (h : 0 ≤ i) : cutV (ws.map V.str) (some i) none = (ws.drop i.toNat).map V.str := by rw [cutV_from _ h, List.map_drop]
theorem cutM_to (ws : List Str) {i : Int} (h : 0 ≤ i) : cutV (ws.map V.str) none (some i) = (ws.take i.toNat).map V.str := by rw [cutV_to _ h, List.map_take]
theorem used_drop (w0 : Str) (r : List Str) (h : ¬ w0 = "make") : (w0 :: r).drop (firstV w0 (((w0 :: r).length : Nat) + 1)).toNat = usedOf w0 r := by
  unfold firstV usedOf
  by_cases h1 : w0 = "use"
  · rw [if_pos h1, if_pos h1]
    rfl
  · rw [if_neg h1, if_neg h1, if_neg h]
    by_cases h3 : w0 = "do"
    · rw [if_pos h3, if_pos h3]
      rfl
    · rw [if_neg h3, if_neg h3]
      exact List.drop_of_length_le (by omega)
/-- a list of bools that a comprehension has made -/
theorem bools_of {ys : List V} {α : Type} {l : List α} {f : α → Bool} (hl : ys.length = l.length) (h : ∀ (j : Nat) (y : V), ys[j]? = some y → ∃ z, l[j]? = some z ∧ y = .bl (f z)) : ys = (l.map f).map V.bl := by
  refine List.ext_getElem? fun j => ?_
  cases q : ys[j]? with
  | none =>
    have : ys.length ≤ j := List.getElem?_eq_none_iff.mp q
    symm
    rw [List.getElem?_eq_none_iff, List.length_map, List.length_map]
    omega
  | some y =>
    obtain ⟨z, hz, rfl⟩ := h j y q
    rw [List.getElem?_map, List.getElem?_map, hz]
    rfl
theorem row_good {d : Dd} (h : Good d) : rowOk (wordsD d) = true := by
  obtain ⟨m, us⟩ := d
  have hu : us.all isName = true := List.all_eq_true.mpr h.nm
  have hnd : us.Nodup := h.nd
  have hle : us.length ≤ 3 := h.le
  have n1 : ¬ (("use" : Str) = "make") := by decide +kernel
  have n2 : ¬ (("do" : Str) = "use") := by decide +kernel
  have n3 : ¬ (("do" : Str) = "make") := by decide +kernel
  cases m with
  | none =>
    have hne : us ≠ [] := h.ne rfl
    have h1 : 1 ≤ us.length := by
      cases us with
      | nil => exact absurd rfl hne
      | cons a b => simp
    have e : usedOf "use" us = us := if_pos rfl
    show (us.all isName && (!us.isEmpty && (if ("use" : Str) = "make" then decide (us.length = 1) else (decide (1 ≤ (usedOf "use" us).length) && (decide ((usedOf "use" us).length ≤ 3) && decide (usedOf "use" us).Nodup))))) = true
    rw [if_neg n1, e, hu, decide_eq_true h1, decide_eq_true hle, decide_eq_true hnd]
    cases us with
    | nil => exact absurd rfl hne
    | cons a b => rfl
  | some z =>
    have hz := h.mn z rfl
    cases us with
    | nil =>
      show ([z].all isName && (![z].isEmpty && (if ("make" : Str) = "make" then decide ([z].length = 1) else _))) = true
      rw [if_pos rfl]
      simp [hz]
    | cons u r =>
      have e : usedOf "do" (z :: u :: r) = u :: r := by unfold usedOf; rw [if_neg n2, if_pos rfl]; rfl
      show ((z :: u :: r).all isName && (!(z :: u :: r).isEmpty && (if ("do" : Str) = "make" then decide ((z :: u :: r).length = 1) else (decide (1 ≤ (usedOf "do" (z :: u :: r)).length) && (decide ((usedOf "do" (z :: u :: r)).length ≤ 3) && decide (usedOf "do" (z :: u :: r)).Nodup))))) = true
      rw [if_neg n3, e, List.all_cons, hz, hu, decide_eq_true (show 1 ≤ (u :: r).length by simp), decide_eq_true hle, decide_eq_true hnd]
      rfl
theorem words_len {d : Dd} (h : Good d) : (wordsD d).length ≤ 5 := by
  obtain ⟨m, us⟩ := d
  have hle : us.length ≤ 3 := h.le
  cases m with
  | none => show us.length + 1 ≤ 5; omega
  | some z =>
    cases us with
    | nil => show 2 ≤ 5; omega
    | cons u r => show (u :: r).length + 2 ≤ 5; omega
theorem text_len {d : Dd} (h : Good d) : (textD d).length ≤ 40 := by
  have h1 := join_le (words_name h)
  have h2 := words_len h
  show (Txt.join " " (wordsD d)).length ≤ 40
  omega
theorem strNo {a b : Str} (h : ¬ a = b) : decide (V.str a = V.str b) = false := decide_eq_false fun e => h (V.str.inj e)
section
variable {P : Program} {w : World} {K : PySem.W.Frag} {mg : Str → Option Value} {base : Heap} {EC : Str → Addr} {CE CD CU CM CO : Addr} {tL tN tU : Tok}
/-! ### is_deed_row -/
def spRow : Sp := fun vs H Q _ => ∃ (l : Addr) (ws : List Str), vs = [.ref l] ∧ H l = some (.lst (ws.map V.str)) ∧ ws ≠ [] ∧ ws.length ≤ 2000 ∧ (∀ z ∈ ws, z.length ≤ 1000) ∧ ∀ H', Ext H H' → Q (.bl (rowOk ws)) H'
abbrev s_is_deed_row : Stmt := top 40
abbrev N_is_deed_row : List Str := ["words", "first", "word", "used"]
theorem sc_is_deed_row : FnScope N_is_deed_row ["words"] (defScope s_is_deed_row) := ⟨rfl, rfl, rfl, by decide +kernel, rfl, by decide +kernel, by decide +kernel⟩
theorem ok_drow {f : Addr} {fd : FuncData} (F : Fun K "is_deed_row" "is_deed_row" s_is_deed_row f fd) (T : Tx K mg EC CE CD CU CM CO tL tN tU) (c_is_name : Cal P w K mg base CX0 1 "is_name" spName) : FnOk P w K mg base CX0 2 f fd ["words"] spRow := by
  refine F.ok sc_is_deed_row (fun vs H Q E h => ?_) (fun cdv A outer s H vs Q E hr h => ?_)
  · obtain ⟨l, ws, rfl, _⟩ := h
    rfl
  · obtain ⟨l, ws, rfl, hl, hne, hwl, hws, k⟩ := h
    have hu := hu_of hr
    have h4 : sizeLine = 16777216 := sizeLine_eq
    refine ⟨_, (pss_cons (ps_set (i := 1) sc_is_deed_row.nd rfl (by first | exact Or.inl rfl | exact Or.inr rfl) (pe_dget2 hu (pe_disp (pps_cons pe_str pe_int (pps_cons pe_str pe_int (pps_cons pe_str pe_int pps_nil))) (by rfl) (by rfl) (fun z => by cases z) (by decide)) (pe_ix ix_list (pv 0) pe_int (fun _ _ => rfl)) (pe_op op_add (pe_callB call_len_seq (by rfl) (T.bn _ (by decide +kernel)) (by decide +kernel) (pa_cons (pv 0) pa_nil)) pe_int) (by constructor <;> rfl)))
      (pss_cons (ps_if ((pw_or (pt_not (pt_val (pe_callB (cr_all rfl) (by rfl) (T.bn _ (by decide +kernel)) (by decide +kernel) (pa_cons (pe_lc (own := [("word", 2)]) rfl sc_is_deed_row.nd (pi_list (pe_slice sl_list (pv 0) (po_some pe_int) po_none)) (blkOk_by (own := [("word", 2)]) (N := N_is_deed_row) (sc := defScope s_is_deed_row) (by decide +kernel)) (fun _ _ _ _ _ => (pg_name (i := 2) sc_is_deed_row.nd rfl (by first | exact Or.inl rfl | exact Or.inr rfl))) (fun _ _ _ _ _ => pts_nil) (fun _ _ _ _ _ => (pe_cal c_is_name (hr.mono (by decide)) (by rfl) pass0 (pa_cons (pv 2) pa_nil)))) pa_nil)))) (pw_or1 (pt_cmpR op_lt (pe_callB call_len_seq (by rfl) (T.bn _ (by decide +kernel)) (by decide +kernel) (pa_cons (pv 0) pa_nil)) pe_int (nomark _))))).pt (pss_one (ps_ret pe_bl)) pss_nil)
      (pss_cons (ps_if (pt_cmpR op_eq (pe_ix ix_list (pv 0) pe_int (fun _ _ => rfl)) pe_str (nomark _)) (pss_one (ps_ret (pe_cmpR op_eq (pe_callB call_len_seq (by rfl) (T.bn _ (by decide +kernel)) (by decide +kernel) (pa_cons (pv 0) pa_nil)) (pv 1) (nomark _)))) pss_nil)
      (pss_cons (ps_set (i := 3) sc_is_deed_row.nd rfl (by first | exact Or.inl rfl | exact Or.inr rfl) (pe_slice sl_list (pv 0) (po_some (pv 1)) po_none))
      (pss_one (ps_ret (pe_and (pe_chain op_le op_le pe_int (pe_callB call_len_seq (by rfl) (T.bn _ (by decide +kernel)) (by decide +kernel) (pa_cons (pv 3) pa_nil)) (pe_gint (by rfl) T.m_MOST_USED)) (pe_one (pe_callB (cr_all rfl) (by rfl) (T.bn _ (by decide +kernel)) (by decide +kernel) (pa_cons (pe_lc (own := [("word", 2)]) rfl sc_is_deed_row.nd (pi_list (pv 3)) (blkOk_by (own := [("word", 2)]) (N := N_is_deed_row) (sc := defScope s_is_deed_row) (by decide +kernel)) (fun _ _ _ _ _ => (pg_name (i := 2) sc_is_deed_row.nd rfl (by first | exact Or.inl rfl | exact Or.inr rfl))) (fun _ _ _ _ _ => pts_nil) (fun _ _ _ _ _ => (pe_cmpR op_eq (pe_countK (K := K) rfl (pv 3) (pa_cons (pv 2) pa_nil)) pe_int (nomark _)))) pa_nil)))))))))), ?_⟩
    obtain ⟨w0, r, rfl⟩ : ∃ w0 r, ws = w0 :: r := by
      cases ws with
      | nil => exact absurd rfl hne
      | cons a b => exact ⟨a, b, rfl⟩
    have lm : ((w0 :: r).map V.str).length = r.length + 1 := by simp
    intro p np
    refine ⟨upd_same, [(kU, .int 1), (kM, .int 2), (kD, .int 2)], rfl, by show 3 ≤ 15; decide, ?_⟩
    rw [upd_upd, show mergeK [] [(kU, V.int 1), (kM, .int 2), (kD, .int 2)] = [(kU, V.int 1), (kM, .int 2), (kD, .int 2)] from by kernel_rfl]
    have e1 : Ext H (upd H p (.dK [(kU, V.int 1), (kM, .int 2), (kD, .int 2)])) := Ext.upd np
    have f1 : (upd H p (.dK [(kU, V.int 1), (kM, .int 2), (kD, .int 2)])) p = some (.dK [(kU, V.int 1), (kM, .int 2), (kD, .int 2)]) := upd_same
    generalize (upd H p (.dK [(kU, V.int 1), (kM, .int 2), (kD, .int 2)])) = H1 at e1 f1
    have hl1 := e1 _ _ hl
    refine ⟨p, rfl, .inl ⟨_, .inl f1⟩, _, rfl, l, _, 0, .str w0, rfl, rfl, SqL.of hl1, atI_nat (j := 0) rfl, _, rfl, l, _, rfl, .inl (SqL.of hl1), _, _, rfl, rfl, _, DGet.k (k := Sum.inr w0) f1, ?_⟩
    rw [first_get]
    -- the names
    refine ⟨_, rfl, 1, rfl, l, _, rfl, SqL.of hl1, fun q nq => ?_⟩
    rw [cutM_from _ (show (0 : Int) ≤ 1 by decide)]
    show _
    have e2 : Ext H1 (upd H1 q (.lst (r.map V.str))) := Ext.upd nq
    have f2 : (upd H1 q (.lst (r.map V.str))) q = some (.lst (r.map V.str)) := upd_same
    have hdr : ((w0 :: r).drop (1 : Int).toNat) = r := rfl
    rw [hdr]
    generalize (upd H1 q (.lst (r.map V.str))) = H2 at e2 f2
    have e02 := e1.trans e2
    have hl2 := e02 _ _ hl
    refine ⟨q, rfl, ⟨_, SqL.of f2⟩, fun D hD => ?_⟩
    have nqD : q ≠ D := ne_of_none f2 hD
    refine lc_map (walk_list (xs := r.map V.str)) [D] (by simp) (fun H' => Ext H2 H') (fun j y _ => ∃ z, r[j]? = some z ∧ y = .bl (isName z)) (by rw [List.length_map]; simp at hwl; omega) (fun _ _ _ _ _ h => h)
      (fun H' o hh b o' z => by rw [upd_ne (ne_of_none z hD)]; exact hh b o' z) (Ext.upd hD) (fun H' _ hh => SqL.of (hh _ _ f2)) ?_ ?_
    · rintro j x H3 _ acc C hj e hh hD3 ⟨rfl, hx⟩ hC
      rw [List.getElem?_map] at hx
      obtain ⟨z, hz, rfl⟩ := Option.map_eq_some_iff.mp hx
      have hzl : z.length ≤ 1000 := hws z (List.mem_cons_of_mem _ (List.mem_of_getElem? hz))
      refine ⟨rfl, _, rfl, _, .str z, rfl, .str z, fun y ey => by cases ey; exact hzl, fun H4 e4 => ?_⟩
      have en : (nameOf (.str z)).isSome = isName z := by
        cases hn : isName z with
        | true => rw [nameOf_str hn]; rfl
        | false => rw [nameOf_no hn]; rfl
      rw [en]
      exact hC _ _ (e4 _ _ hD3) (hid_mono e4) (hh.trans e4) ⟨z, hz, rfl⟩
    · intro H3 ys e hh hD3 hlen hy
      rw [List.length_map] at hlen
      have hys := bools_of (f := isName) hlen hy
      subst hys
      refine ⟨D, _, rfl, SqL.of hD3, _, rfl, ?_⟩
      have hal : ((r.map isName).all id) = r.all isName := by rw [List.all_map]; rfl
      rw [hal]
      have e03 := e02.trans hh
      have hl3 := hh _ _ hl2
      have no : rowOk (w0 :: r) = false → Q (.bl false) H3 := fun h => by
        have := k H3 e03
        rw [h] at this
        exact this
      cases ha : r.all isName with
      | false =>
        refine iteT ?_
        refine no ?_
        show (r.all isName && _) = false
        rw [ha]
        rfl
      | true =>
        refine iteF ?_
        refine ⟨_, rfl, l, _, rfl, .inl (SqL.of hl3), _, _, rfl, rfl, _, rfl, ?_⟩
        cases hr0 : r with
        | nil =>
          subst hr0
          refine iteYes (decide_eq_true (by show ((1 : Nat) : Int) < 2; decide)) ?_
          exact no rfl
        | cons r1 r2 =>
          have hemp : (!r.isEmpty) = true := by rw [hr0]; rfl
          have hrl : 1 ≤ r.length := by rw [hr0]; simp
          have hro : rowOk (w0 :: r) = (if w0 = "make" then decide (r.length = 1) else (decide (1 ≤ (usedOf w0 r).length) && (decide ((usedOf w0 r).length ≤ 3) && decide (usedOf w0 r).Nodup))) := by
            show (r.all isName && (!r.isEmpty && _)) = _
            rw [ha, hemp, Bool.true_and, Bool.true_and]
          rw [← hr0]
          clear hr0
          refine iteNo (decide_eq_false (by rw [lm]; omega)) ?_
          refine ⟨_, rfl, l, _, 0, .str w0, rfl, rfl, SqL.of hl3, atI_nat (j := 0) rfl, rfl, _, rfl, ?_⟩
          by_cases hm : w0 = "make"
          · refine iteYes (by rw [hm]; exact decide_eq_true rfl) ?_
            refine ⟨_, rfl, l, _, rfl, .inl (SqL.of hl3), _, rfl, rfl, ?_⟩
            have ef : firstV w0 (((w0 :: r).map V.str).length + 1) = 2 := by rw [hm]; rfl
            have eb : decide (V.int ((w0 :: r).map V.str).length = V.int (firstV w0 (((w0 :: r).map V.str).length + 1))) = rowOk (w0 :: r) := by
              rw [hro, if_pos hm, ef, lm]
              by_cases h1 : r.length = 1
              · rw [h1]
                rfl
              · rw [decide_eq_false h1]
                exact decide_eq_false fun q => h1 (by have := V.int.inj q; omega)
            rw [eb]
            exact k H3 e03
          · refine iteNo (strNo hm) ?_
            rw [if_neg hm] at hro
            have hfv : 0 ≤ firstV w0 (((w0 :: r).map V.str).length + 1) := first_nn (by omega)
            refine ⟨_, rfl, _, rfl, _, rfl, l, _, rfl, SqL.of hl3, fun t nt => ?_⟩
            rw [cutM_from _ hfv, show (w0 :: r).drop (firstV w0 (((w0 :: r).map V.str).length + 1)).toNat = usedOf w0 r from by rw [List.length_map]; exact used_drop w0 r hm]
            have e4 : Ext H3 (upd H3 t (.lst ((usedOf w0 r).map V.str))) := Ext.upd nt
            have f4 : (upd H3 t (.lst ((usedOf w0 r).map V.str))) t = some (.lst ((usedOf w0 r).map V.str)) := upd_same
            generalize (upd H3 t (.lst ((usedOf w0 r).map V.str))) = H4 at e4 f4
            generalize usedOf w0 r = us at f4 hro
            have e04 := e03.trans e4
            have lu : (us.map V.str).length = us.length := List.length_map _
            have no4 : rowOk (w0 :: r) = false → Q (.bl false) H4 := fun h => by
              have := k H4 e04
              rw [h] at this
              exact this
            refine ⟨_, rfl, t, _, rfl, .inl (SqL.of f4), _, _, rfl, rfl, ?_⟩
            by_cases h1 : 1 ≤ us.length
            · refine ⟨true, by simp; omega, ?_⟩
              refine iteT ?_
              refine ⟨_, _, rfl, rfl, ?_⟩
              by_cases h3 : us.length ≤ 3
              · refine ⟨true, by simp; omega, ?_⟩
                refine iteT ?_
                have hro2 : rowOk (w0 :: r) = decide us.Nodup := by rw [hro, decide_eq_true h1, decide_eq_true h3, Bool.true_and, Bool.true_and]
                refine ⟨_, rfl, t, rfl, ⟨_, SqL.of f4⟩, fun D2 hD2 => ?_⟩
                refine lc_map (walk_list (xs := us.map V.str)) [D2] (by simp) (fun H' => Ext H4 H') (fun j y _ => ∃ z, us[j]? = some z ∧ y = .bl (us.count z == 1)) (by omega) (fun _ _ _ _ _ h => h)
                  (fun H' o hh b o' z => by rw [upd_ne (ne_of_none z hD2)]; exact hh b o' z) (Ext.upd hD2) (fun H' _ hh => SqL.of (hh _ _ f4)) ?_ ?_
                · rintro j x H5 _ acc C hj e hh5 hD5 ⟨rfl, hx⟩ hC
                  rw [List.getElem?_map] at hx
                  obtain ⟨z, hz, rfl⟩ := Option.map_eq_some_iff.mp hx
                  refine ⟨rfl, _, rfl, .inl ⟨rfl, _, SqL.of (hh5 _ _ f4)⟩, _, rfl, t, _, _, rfl, rfl, SqL.of (hh5 _ _ f4), rfl, flat_strs _, rfl, ?_⟩
                  refine hC _ _ hD5 Ext.rfl' hh5 ⟨z, hz, ?_⟩
                  rw [count_strs]
                  congr 1
                  by_cases hc : us.count z = 1
                  · rw [hc]
                    rfl
                  · rw [show (us.count z == 1) = false from beq_eq_false_iff_ne.mpr hc]
                    exact decide_eq_false fun q => hc (by have := V.int.inj q; omega)
                · intro H5 zs e hh5 hD5 hlen5 hy5
                  rw [lu] at hlen5
                  have hzs := bools_of (f := fun z => us.count z == 1) hlen5 hy5
                  subst hzs
                  refine ⟨D2, _, rfl, SqL.of hD5, ?_⟩
                  have ea : ((us.map fun z => us.count z == 1).all id) = rowOk (w0 :: r) := by
                    rw [List.all_map, hro2]
                    show (us.all fun z => us.count z == 1) = decide us.Nodup
                    by_cases hd : us.Nodup
                    · rw [decide_eq_true hd]; exact once_iff.mpr hd
                    · rw [decide_eq_false hd]
                      cases q : (us.all fun z => us.count z == 1) with
                      | false => rfl
                      | true => exact absurd (once_iff.mp q) hd
                  rw [ea]
                  exact k H5 (e04.trans hh5)
              · refine ⟨false, by simp; omega, ?_⟩
                refine iteF ?_
                exact no4 (by rw [hro, decide_eq_false h3, Bool.false_and, Bool.and_false])
            · refine ⟨false, by simp; omega, ?_⟩
              refine iteF ?_
              refine ⟨false, rfl, ?_⟩
              refine iteF ?_
              exact no4 (by rw [hro, decide_eq_false h1, Bool.false_and])
/-! ### Deed.read -/
/-! ### Deed.read -/
def spRead (cl : Dd → Addr) : Sp := fun vs H Q _ => ∃ (c : V) (d : Dd), vs = [c, .str (textD d)] ∧ Good d ∧ ∀ a H', Ext H H' → H a = none → DeedAt cl H' a d → Q (.ref a) H'
abbrev s_Deed_read : Stmt := inClass (top 36) 6
abbrev N_Deed_read : List Str := ["cls", "text", "words", "rest"]
theorem sc_Deed_read : FnScope N_Deed_read ["cls", "text"] (defScope s_Deed_read) := ⟨rfl, rfl, rfl, by decide +kernel, rfl, by decide +kernel, by decide +kernel⟩
theorem ok_read {f : Addr} {fd : FuncData} (F : Fun K "read" "Deed.read" s_Deed_read f fd) (T : Tx K mg EC CE CD CU CM CO tL tN tU) (c_is_deed_row : Cal P w K mg base CX0 2 "is_deed_row" spRow)
    (c_Use : Mkc P w K mg base CX0 5 CU "Use" (spUse CU)) (c_Make : Mkc P w K mg base CX0 5 CM "Make" (spMake CM)) (c_Do : Mkc P w K mg base CX0 5 CO "Do" (spDo CO)) :
    FnOk P w K mg base CX0 7 f fd ["cls", "text"] (spRead (clsD CU CM CO)) := by
  refine F.ok sc_Deed_read (fun vs H Q E h => ?_) (fun cdv A outer s H vs Q E hr h => ?_)
  · obtain ⟨c, d, rfl, _⟩ := h
    rfl
  · obtain ⟨c, d, rfl, hg, k⟩ := h
    have h4 : sizeLine = 16777216 := sizeLine_eq
    have hzl := text_len hg
    refine ⟨_, (pss_cons (ps_set (i := 2) sc_Deed_read.nd rfl (by first | exact Or.inl rfl | exact Or.inr rfl) (pe_ifExp (pt_val (pe_callB call_isi (by rfl) (T.bn _ (by decide +kernel)) (by decide +kernel) (pa_cons (pv 1) (pa_cons (pe_gty (T := "str") (by rfl) (T.bn _ (by decide +kernel)) (by decide +kernel)) pa_nil)))) (pe_split (pv 1) pe_str) (pe_lst (pa_cons pe_str pa_nil))))
      (pss_cons (ps_if (pt_not (pt_val (pe_cal c_is_deed_row (hr.mono (by decide)) (by rfl) pass0 (pa_cons (pv 2) pa_nil)))) (pss_one ps_never) pss_nil)
      (pss_cons (ps_set (i := 3) sc_Deed_read.nd rfl (by first | exact Or.inl rfl | exact Or.inr rfl) (pe_slice sl_list (pv 2) (po_some pe_int) po_none))
      (pss_cons (ps_if (pt_cmpR op_eq (pe_ix ix_list (pv 2) pe_int (fun _ _ => rfl)) pe_str (nomark _)) (pss_one (ps_ret (pe_mkc c_Make (hr.mono (by decide)) (by rfl) pass0 (pa_cons (pe_ix ix_list (pv 3) pe_int (fun _ _ => rfl)) pa_nil)))) pss_nil)
      (pss_one (ps_ret (pe_ifExp (pt_cmpR op_eq (pe_ix ix_list (pv 2) pe_int (fun _ _ => rfl)) pe_str (nomark _)) (pe_mkS c_Use (hr.mono (by decide)) (by rfl) pass0 (pv 3)) (pe_mkS c_Do (hr.mono (by decide)) (by rfl) pass0 (pv 3))))))))), ?_⟩
    refine ⟨_, rfl, _, _, _, _, true, rfl, .ty "str", .base (.str _), kit_ty (by decide +kernel), _, rfl, ?_⟩
    refine iteT ?_
    refine ⟨_, rfl, ⟨_, rfl⟩, _, _, rfl, rfl, (by decide +kernel), by omega, fun l nl => ?_⟩
    rw [split_text hg]
    have e1 : Ext H (upd H l (.lst ((wordsD d).map V.str))) := Ext.upd nl
    have f1 : (upd H l (.lst ((wordsD d).map V.str))) l = some (.lst ((wordsD d).map V.str)) := upd_same
    generalize (upd H l (.lst ((wordsD d).map V.str))) = H1 at e1 f1
    have hwl := words_len hg
    refine ⟨_, rfl, l, wordsD d, rfl, f1, words_ne d, by omega, fun p hp => Nat.le_trans (name_len (words_name hg p hp)).2 (by decide), fun H2 e2 => ⟨_, rfl, ?_⟩⟩
    rw [row_good hg]
    refine iteF ?_
    have e02 := e1.trans e2
    have f2 := e2 _ _ f1
    have n1 : ¬ (("use" : Str) = "make") := by decide +kernel
    have n2 : ¬ (("do" : Str) = "use") := by decide +kernel
    have n3 : ¬ (("do" : Str) = "make") := by decide +kernel
    obtain ⟨w0, r, hw⟩ : ∃ w0 r, wordsD d = w0 :: r := by
      cases h : wordsD d with
      | nil => exact absurd h (words_ne d)
      | cons a b => exact ⟨a, b, rfl⟩
    rw [hw] at f2
    refine ⟨_, rfl, 1, rfl, l, _, rfl, SqL.of f2, fun q nq => ?_⟩
    rw [cutM_from _ (show (0 : Int) ≤ 1 by decide), show (w0 :: r).drop (1 : Int).toNat = r from rfl]
    have e3 : Ext H2 (upd H2 q (.lst (r.map V.str))) := Ext.upd nq
    have f3 : (upd H2 q (.lst (r.map V.str))) q = some (.lst (r.map V.str)) := upd_same
    generalize (upd H2 q (.lst (r.map V.str))) = H3 at e3 f3
    have e03 := e02.trans e3
    have g3 := e3 _ _ f2
    refine ⟨_, rfl, l, _, 0, .str w0, rfl, rfl, SqL.of g3, atI_nat (j := 0) rfl, rfl, _, rfl, ?_⟩
    have fin : ∀ {x dx : Addr} {H4 : Hp}, H3 x = none → H3 dx = none → MadeX (clsD CU CM CO d) x dx d.2 d.1.toList (upd (upd H3 dx (.own x)) x (.ins (clsD CU CM CO d) dx [])) H4 → Q (.ref x) H4 := fun {x dx H4} nx ndx hk => by
      obtain ⟨z1, z2⟩ := made_at nx ndx hk
      exact k x H4 (e03.trans z1) (ext_free e03 nx) z2
    obtain ⟨m, us⟩ := d
    cases m with
    | none =>
      obtain ⟨rfl, rfl⟩ := List.cons.inj hw
      refine iteNo (strNo n1) ?_
      refine ⟨_, rfl, l, _, 0, .str "use", rfl, rfl, SqL.of g3, atI_nat (j := 0) rfl, rfl, _, rfl, ?_⟩
      refine iteYes (decide_eq_true rfl) ?_
      refine ⟨_, rfl, q, _, rfl, .inr (SqL.of f3), fun x dx nx ndx ne => ⟨x, dx, us, rfl, upd_same, hg.nm, hg.nd, hg.ne rfl, hg.le, fun H4 hk => ⟨rfl, fin nx ndx hk⟩⟩⟩
    | some z =>
      cases us with
      | nil =>
        obtain ⟨rfl, rfl⟩ := List.cons.inj hw
        refine iteYes (decide_eq_true rfl) ?_
        exact ⟨_, rfl, q, _, 0, .str z, rfl, rfl, SqL.of f3, atI_nat (j := 0) rfl, fun x dx nx ndx ne => ⟨x, dx, z, rfl, upd_same, hg.mn z rfl, fun H4 hk => ⟨rfl, fin nx ndx hk⟩⟩⟩
      | cons u us =>
        obtain ⟨rfl, rfl⟩ := List.cons.inj hw
        refine iteNo (strNo n3) ?_
        refine ⟨_, rfl, l, _, 0, .str "do", rfl, rfl, SqL.of g3, atI_nat (j := 0) rfl, rfl, _, rfl, ?_⟩
        refine iteNo (strNo n2) ?_
        exact ⟨_, rfl, q, _, rfl, .inr (SqL.of f3), fun x dx nx ndx ne => ⟨x, dx, z, u :: us, rfl, upd_same, hg.mn z rfl, hg.nm, hg.nd, by simp, hg.le, fun H4 hk => ⟨rfl, fin nx ndx hk⟩⟩⟩
/-! ### __eq__ -/
def spEq (cl : Dd → Addr) (K : PySem.W.Frag) (CD : Addr) : Sp := fun vs H Q _ => ∃ (a : Addr) (v : V) (d : Dd), vs = [.ref a, v] ∧ DeedAt cl H a d ∧ Good d ∧ ((∃ b d2, v = .ref b ∧ DeedAt cl H b d2 ∧ Good d2 ∧ Q (.bl (decide (d = d2))) H) ∨ (∃ ty, TyX K H v ty ∧ PySem.W.kitOne K ty (.ref CD) = some false ∧ Q (.bl false) H))
abbrev s_Deed_eq : Stmt := inClass (top 36) 7
abbrev N_Deed_eq : List Str := ["self", "other"]
theorem sc_Deed_eq : FnScope N_Deed_eq ["self", "other"] (defScope s_Deed_eq) := ⟨rfl, rfl, rfl, by decide +kernel, rfl, by decide +kernel, by decide +kernel⟩
theorem ok_eq {f fs fe : Addr} {fd : FuncData} (F : Fun K "__eq__" "Deed.__eq__" s_Deed_eq f fd) (T : Tx K mg EC CE CD CU CM CO tL tN tU) (TC : ∀ d, ClT K CD fs fe (clsD CU CM CO d)) (hfs : PySem.W.isFn K (.ref fs) = true) (rS : FnR P w K mg base CX0 1 fs (spStr (clsD CU CM CO))) :
    FnOk P w K mg base CX0 4 f fd ["self", "other"] (spEq (clsD CU CM CO) K CD) := by
  refine F.ok sc_Deed_eq (fun vs H Q E h => ?_) (fun cdv A outer s H vs Q E hr h => ?_)
  · obtain ⟨a, v, d, rfl, _⟩ := h
    rfl
  · obtain ⟨a, v, d, rfl, hd, hg, h⟩ := h
    refine ⟨_, (pss_one (ps_ret (pe_and (pe_callB call_isi (by rfl) (T.bn _ (by decide +kernel)) (by decide +kernel) (pa_cons (pv 1) (pa_cons (pe_gref (by rfl) T.m_Deed) pa_nil))) (pe_one (pe_cmpR op_eq (pe_callTy (call_strOwn hfs rS (hr.mono (by decide)) pass0) (by rfl) (T.bn _ (by decide +kernel)) (by decide +kernel) (pa_cons (pv 0) pa_nil)) (pe_callTy (call_strOwn hfs rS (hr.mono (by decide)) pass0) (by rfl) (T.bn _ (by decide +kernel)) (by decide +kernel) (pa_cons (pv 1) pa_nil)) (nomark _)))))), ?_⟩
    rcases h with ⟨b, d2, rfl, hd2, hg2, k⟩ | ⟨ty, hty, kn, k⟩
    · obtain ⟨dy, gs, u1, u2, hb, _⟩ := id hd2
      obtain ⟨dx, fs', t1, t2, ha, _⟩ := id hd
      have C2 := TC d2
      refine ⟨_, rfl, _, _, _, _, true, rfl, .own CD, .base (.ins hb C2.cd.cl C2.ha C2.hn C2.htk C2.hm), C2.kit, _, rfl, ?_⟩
      refine iteT ?_
      refine ⟨_, rfl, a, _, dx, _, rfl, ha, (TC d).st, a, d, rfl, hd, hg, _, rfl, ?_⟩
      refine ⟨_, rfl, b, _, dy, _, rfl, hb, C2.st, b, d2, rfl, hd2, hg2, _, rfl, rfl, ?_⟩
      have e : decide (V.str (textD d) = V.str (textD d2)) = decide (d = d2) := by
        by_cases q : d = d2
        · rw [q, decide_eq_true rfl, decide_eq_true rfl]
        · rw [decide_eq_false q]
          exact strNo fun z => q ((text_inj hg hg2).mp z)
      rw [e]
      exact k
    · refine ⟨_, rfl, _, _, _, _, false, rfl, .own CD, hty, kn, _, rfl, ?_⟩
      refine iteF ?_
      exact k
end
end K01
end
section
set_option Elab.async false
set_option autoImplicit false
set_option linter.all false
set_option maxRecDepth 100000
set_option maxHeartbeats 4000000
namespace K01
open PySem PySem.Spec PyProof.Rows L2 Ls
open C8 (pss_cut tCut)
open TL
theorem seqIx {j : Int} {n : Nat} (h0 : 0 ≤ j) (h1 : j < n) : seqIndex? j n = some j.toNat := by
  have h2 : ¬ j < 0 := by omega
  simp [seqIndex?, h2, h0, h1]
theorem erase_map : ∀ (l : List Str) (k : Nat), (l.map V.str).eraseIdx k = (l.eraseIdx k).map V.str
  | [], _ => rfl
  | _ :: _, 0 => rfl
  | a :: l, k + 1 => congrArg (V.str a :: ·) (erase_map l k)
theorem erase_perm : ∀ {l : List Str} {k : Nat} {z : Str}, l[k]? = some z → (z :: l.eraseIdx k).Perm l
  | [], _, _, h => by simp at h
  | a :: l, 0, z, h => by
    have : a = z := by simpa using h
    subst this
    exact List.Perm.refl _
  | a :: l, k + 1, z, h => (List.Perm.swap a z _).trans (List.Perm.cons a (erase_perm (l := l) (k := k) (by simpa using h)))
section
variable {P : Program} {w : World} {K : PySem.W.Frag} {mg : Str → Option Value} {base : Heap} {EC : Str → Addr} {CE CD CU CM CO : Addr} {tL tN tU : Tok}
/-! ### _law_some -/
def spSome : Sp := fun vs H Q _ => ∃ (p c : Addr) (n : Nat) (q : Addr) (ps : List Str) (least most : Nat), vs = [.ref p, .ref q, .int least, .int most] ∧ PenAt H p c n ∧ n < 1000000 ∧ H q = some (.lst (ps.map V.str)) ∧ q ≠ p ∧ q ≠ c ∧ ps.Nodup ∧ ps.length ≤ 10 ∧ least ≤ most ∧ least ≤ ps.length ∧
  ∀ (l : Addr) (us : List Str) (H' : Hp), H l = none → l ≠ p → l ≠ c → H' l = some (.lst (us.map V.str)) → us.Nodup → (∀ z ∈ us, z ∈ ps) → least ≤ us.length → us.length ≤ most → PenAt H' p c (n + 20) → Keep p c H H' → Q (.ref l) H'
abbrev s__law_some : Stmt := top 45
abbrev N__law_some : List Str := ["_law_pen_here", "_law_pool", "_law_least", "_law_most", "_law_left", "_law_many", "_law_lap"]
theorem sc__law_some : FnScope N__law_some ["_law_pen_here", "_law_pool", "_law_least", "_law_most"] (defScope s__law_some) := ⟨rfl, rfl, rfl, by decide +kernel, rfl, by decide +kernel, by decide +kernel⟩
theorem ok_some {f : Addr} {fd : FuncData} (F : Fun K "_law_some" "_law_some" s__law_some f fd) (T : Tx K mg EC CE CD CU CM CO tL tN tU) (c__law_draw : Cal P w K mg base CX0 1 "_law_draw" spDraw) : FnOk P w K mg base CX0 2 f fd ["_law_pen_here", "_law_pool", "_law_least", "_law_most"] spSome := by
  refine F.ok sc__law_some (fun vs H Q E h => ?_) (fun cdv A outer s H vs Q E hr h => ?_)
  · obtain ⟨p, c, n, q, ps, least, most, rfl, _⟩ := h
    rfl
  · obtain ⟨p, c, n, q, ps, least, most, rfl, hp, hn, hq, nqp, nqc, hnd, hle, hlm, hlp, k⟩ := h
    have h4 : sizeLine = 16777216 := sizeLine_eq
    have lp : (ps.map V.str).length = ps.length := List.length_map _
    refine ⟨_, (pss_cons (ps_set (i := 4) sc__law_some.nd rfl (by first | exact Or.inl rfl | exact Or.inr rfl) (pe_callTy call_list_of (by rfl) (T.bn _ (by decide +kernel)) (by decide +kernel) (pa_cons (pv 1) pa_nil)))
      (pss_cons (ps_set (i := 5) sc__law_some.nd rfl (by first | exact Or.inl rfl | exact Or.inr rfl) (pe_op op_add (pv 2) (pe_cal c__law_draw (hr.mono (by decide)) (by rfl) pass0 (pa_cons (pv 0) (pa_cons (pe_op op_add (pe_op op_sub (pe_callB (call_min2 rfl) (by rfl) (T.bn _ (by decide +kernel)) (by decide +kernel) (pa_cons (pv 3) (pa_cons (pe_callB call_len_seq (by rfl) (T.bn _ (by decide +kernel)) (by decide +kernel) (pa_cons (pv 1) pa_nil)) pa_nil))) (pv 2)) pe_int) pa_nil)))))
      (pss_one (ps_ret (pe_lc (own := [("_law_lap", 6)]) rfl sc__law_some.nd (pi_range1 rfl (T.bn _ (by decide +kernel)) (pa_cons (pv 5) pa_nil)) (blkOk_by (own := [("_law_lap", 6)]) (N := N__law_some) (sc := defScope s__law_some) (by decide +kernel)) (fun _ _ _ _ _ => (pg_name (i := 6) sc__law_some.nd rfl (by first | exact Or.inl rfl | exact Or.inr rfl))) (fun _ _ _ _ _ => pts_nil) (fun _ _ _ _ _ => (pe_popK (K := K) rfl (pv 4) (pa_cons (pe_cal c__law_draw (hr.mono (by decide)) (by rfl) pass0 (pa_cons (pv 0) (pa_cons (pe_callB (call_lenK (K := K) rfl) (by rfl) (T.bn _ (by decide +kernel)) (by decide +kernel) (pa_cons (pv 4) pa_nil)) pa_nil))) pa_nil)))))))), ?_⟩
    refine ⟨_, rfl, q, _, rfl, .inl (SqL.of hq), fun L nL => ?_⟩
    obtain ⟨npL, ncL⟩ := hp.ne nL
    have e1 : Ext H (upd H L (.lst (ps.map V.str))) := Ext.upd nL
    have f1 : (upd H L (.lst (ps.map V.str))) L = some (.lst (ps.map V.str)) := upd_same
    generalize (upd H L (.lst (ps.map V.str))) = H1 at e1 f1
    have hq1 := e1 _ _ hq
    refine ⟨_, rfl, _, rfl, _, rfl, _, rfl, q, _, rfl, .inl (SqL.of hq1), most, ps.length, by rw [lp], ?_⟩
    have hmm : ∀ x : Int, x = (if (ps.length : Int) < most then (ps.length : Int) else most) → x ≤ most ∧ x ≤ ps.length ∧ (least : Int) ≤ x := fun x hx => by
      rw [hx]
      split <;> omega
    obtain ⟨m1, m2, m3⟩ := hmm _ rfl
    generalize (if (ps.length : Int) < most then (ps.length : Int) else most) = mm at m1 m2 m3
    refine ⟨_, rfl, _, _, rfl, rfl, _, _, rfl, rfl, p, c, n, mm - least + 1, rfl, hp.ext e1, by omega, by omega, by omega, fun j H2 j0 j1 hp2 kp2 => ?_⟩
    have f2 := kp2 L _ f1 npL.symm ncL.symm
    have k02 : Keep p c H H2 := (Keep.ext e1).trans kp2
    refine ⟨_, _, rfl, rfl, ?_⟩
    refine ⟨_, rfl, (least : Int) + j, rfl, by omega, by omega, fun D hD => ?_⟩
    obtain ⟨npD, ncD⟩ := hp2.ne hD
    have nLD : L ≠ D := ne_of_none f2 hD
    have hDH : H D = none := by
      cases q : H D with
      | none => rfl
      | some o =>
        rw [k02 D o q npD.symm ncD.symm] at hD
        cases hD
    refine lc_it walk_range (fun i H' => ∃ left acc : List Str, H' L = some (.lst (left.map V.str)) ∧ H' D = some (.lst (acc.map V.str)) ∧ (acc ++ left).Perm ps ∧ acc.length = i ∧ PenAt H' p c (n + 1 + i) ∧ Keep p c H H') ?_ (fun _ _ _ _ => trivial) ?_ ?_
    · refine ⟨ps, [], by rw [upd_ne nLD]; exact f2, upd_same, List.Perm.refl _, rfl, hp2.upd npD ncD, fun b o q h1 h2 => ?_⟩
      rw [upd_ne (ne_of_none (k02 b o q h1 h2) hD)]
      exact k02 b o q h1 h2
    · rintro i x H3 _ hi ⟨left, acc, g1, g2, pm, hl, hp3, k03⟩ ⟨rfl, rfl⟩
      have hpl := pm.length_eq
      rw [List.length_append] at hpl
      have ll : (left.map V.str).length = left.length := List.length_map _
      have hi' : i < ((least : Int) + j).toNat := hi
      refine ⟨rfl, _, rfl, .inl ⟨rfl, _, SqL.of g1⟩, _, rfl, _, rfl, L, _, rfl, .inl (SqL.of g1), p, c, _, left.length, by rw [ll], hp3, by omega, by omega, by omega, fun u H4 u0 u1 hp4 kp4 => ?_⟩
      have g14 := kp4 L _ g1 npL.symm ncL.symm
      have g24 := kp4 D _ g2 npD.symm ncD.symm
      have hk : u.toNat < left.length := by omega
      obtain ⟨z, hz⟩ : ∃ z, left[u.toNat]? = some z := ⟨_, List.getElem?_eq_getElem hk⟩
      refine ⟨L, _, u, u.toNat, .str z, rfl, rfl, g14, by omega, by omega, seqIx u0 (by rw [ll]; exact u1), by rw [List.getElem?_map, hz]; rfl, ?_⟩
      refine ⟨acc.map V.str, by rw [upd_ne nLD.symm]; exact g24, by rw [List.length_map]; omega, left.eraseIdx u.toNat, acc ++ [z], ?_, ?_, ?_, by simp [hl], ?_, ?_⟩
      · rw [upd_ne nLD, upd_same, erase_map]
      · rw [upd_same, List.map_append]
        rfl
      · refine List.Perm.trans ?_ pm
        rw [List.append_assoc]
        refine List.Perm.append_left _ ?_
        exact erase_perm hz
      · exact ((hp4.upd npL ncL).upd npD ncD).mono (by omega)
      · intro b o q h1 h2
        have q3 := k03 b o q h1 h2
        rw [upd_ne (ne_of_none q hDH), upd_ne (ne_of_none q nL)]
        exact kp4 b o q3 h1 h2
    · rintro H3 ⟨left, acc, g1, g2, pm, hl, hp3, k03⟩
      have hpl := pm.length_eq
      rw [List.length_append] at hpl
      have nda : (acc ++ left).Nodup := pm.nodup_iff.mpr hnd
      exact k D acc H3 hDH npD.symm ncD.symm g2 (List.nodup_append.mp nda).1 (fun z hz => pm.mem_iff.mp (List.mem_append_left _ hz)) (by omega) (by omega) (hp3.mono (by omega)) k03
end
end K01
end
section
set_option Elab.async false
set_option autoImplicit false
set_option linter.all false
set_option maxRecDepth 100000
set_option maxHeartbeats 4000000
namespace K01
open PySem PySem.Spec PyProof.Rows L2 Ls
open C8 (pss_cut tCut)
open TL
def poolsS : List (List Str) := [["a", "b", "c", "d", "e", "f"], ["x", "xy", "xyz", "xyzz", "xyzzz", "xyzzzz"], ["use", "make", "do", "loop", "end", "given"], ["zzzzzz", "aaaaaa", "azazaz", "z", "again", "store"]]
theorem pools_ok : poolsS.all (fun ws => ws.all isName && decide ws.Nodup && decide (ws.length = 6)) = true := by decide +kernel
theorem pool_of {ws : List Str} (h : ws ∈ poolsS) : (∀ z ∈ ws, isName z = true) ∧ ws.Nodup ∧ ws.length = 6 := by
  have q := List.all_eq_true.mp pools_ok ws h
  simp only [Bool.and_eq_true, decide_eq_true_eq, List.all_eq_true] at q
  exact ⟨q.1.1, q.1.2, q.2⟩
section
variable {P : Program} {w : World} {K : PySem.W.Frag} {mg : Str → Option Value} {base : Heap} {EC : Str → Addr} {CE CD CU CM CO : Addr} {tL tN tU : Tok}
/-! ### _law_names -/
def spLNames : Sp := fun vs H Q _ => ∃ (p c : Addr) (n : Nat), vs = [.ref p, .int 6] ∧ PenAt H p c n ∧ n < 900000 ∧
  ∀ (l : Addr) (ws : List Str) (H' : Hp), l ≠ p → l ≠ c → H' l = some (.lst (ws.map V.str)) → ws.Nodup → (∀ z ∈ ws, isName z = true) → ws.length = 6 → PenAt H' p c (n + 30) → Keep p c H H' → Q (.ref l) H'
abbrev s__law_names : Stmt := top 46
abbrev N__law_names : List Str := ["_law_pen_here", "_law_many", "_law_pools"]
theorem sc__law_names : FnScope N__law_names ["_law_pen_here", "_law_many"] (defScope s__law_names) := ⟨rfl, rfl, rfl, by decide +kernel, rfl, by decide +kernel, by decide +kernel⟩
theorem ok_lnames {f : Addr} {fd : FuncData} (F : Fun K "_law_names" "_law_names" s__law_names f fd) (T : Tx K mg EC CE CD CU CM CO tL tN tU) (c__law_pick : Cal P w K mg base CX0 2 "_law_pick" (spPick K)) (c__law_some : Cal P w K mg base CX0 2 "_law_some" spSome) : FnOk P w K mg base CX0 3 f fd ["_law_pen_here", "_law_many"] spLNames := by
  refine F.ok sc__law_names (fun vs H Q E h => ?_) (fun cdv A outer s H vs Q E hr h => ?_)
  · obtain ⟨p, c, n, rfl, _⟩ := h
    rfl
  · obtain ⟨p, c, n, rfl, hp, hn, k⟩ := h
    refine ⟨_, (pss_cons (ps_set (i := 2) sc__law_names.nd rfl (by first | exact Or.inl rfl | exact Or.inr rfl) (pe_lst (pa_cons (pe_lst (pa_cons pe_str (pa_cons pe_str (pa_cons pe_str (pa_cons pe_str (pa_cons pe_str (pa_cons pe_str pa_nil))))))) (pa_cons (pe_lst (pa_cons pe_str (pa_cons pe_str (pa_cons pe_str (pa_cons pe_str (pa_cons pe_str (pa_cons pe_str pa_nil))))))) pa_nil))))
      (pss_cons (ps_expr (pe_bm PySem.F.plainAttrs_list PySem.F.slot_list_append PySem.F.type_list_append mt_append (pv 2) (pa_cons (pe_lst (pa_cons pe_str (pa_cons pe_str (pa_cons pe_str (pa_cons pe_str (pa_cons pe_str (pa_cons pe_str pa_nil))))))) pa_nil)))
      (pss_cons (ps_expr (pe_bm PySem.F.plainAttrs_list PySem.F.slot_list_append PySem.F.type_list_append mt_append (pv 2) (pa_cons (pe_lst (pa_cons pe_str (pa_cons pe_str (pa_cons pe_str (pa_cons pe_str (pa_cons pe_str (pa_cons pe_str pa_nil))))))) pa_nil)))
      (pss_one (ps_ret (pe_cal c__law_some (hr.mono (by decide)) (by rfl) pass0 (pa_cons (pv 0) (pa_cons (pe_cal c__law_pick (hr.mono (by decide)) (by rfl) pass0 (pa_cons (pv 0) (pa_cons (pv 2) pa_nil))) (pa_cons (pv 1) (pa_cons (pv 1) pa_nil)))))))))), ?_⟩
    refine ⟨(by show 6 ≤ sizeLine; decide), fun a0 n0 => ⟨(by show 6 ≤ sizeLine; decide), fun a1 n1 => ⟨(by show 2 ≤ sizeLine; decide), fun L nL => ?_⟩⟩⟩
    have e0 : Ext H (upd H a0 (.lst [.str "a", .str "b", .str "c", .str "d", .str "e", .str "f"])) := Ext.upd n0
    have f0 : (upd H a0 (.lst [.str "a", .str "b", .str "c", .str "d", .str "e", .str "f"])) a0 = some (.lst ((["a", "b", "c", "d", "e", "f"] : List Str).map V.str)) := upd_same
    generalize (upd H a0 (.lst [.str "a", .str "b", .str "c", .str "d", .str "e", .str "f"])) = H1 at e0 f0 n1 nL ⊢
    have e1 : Ext H1 (upd H1 a1 (.lst [.str "x", .str "xy", .str "xyz", .str "xyzz", .str "xyzzz", .str "xyzzzz"])) := Ext.upd n1
    have f1 : (upd H1 a1 (.lst [.str "x", .str "xy", .str "xyz", .str "xyzz", .str "xyzzz", .str "xyzzzz"])) a1 = some (.lst ((["x", "xy", "xyz", "xyzz", "xyzzz", "xyzzzz"] : List Str).map V.str)) := upd_same
    generalize (upd H1 a1 (.lst [.str "x", .str "xy", .str "xyz", .str "xyzz", .str "xyzzz", .str "xyzzzz"])) = H2 at e1 f1 nL ⊢
    have e2 : Ext H2 (upd H2 L (.lst [.ref a0, .ref a1])) := Ext.upd nL
    have fL : (upd H2 L (.lst [.ref a0, .ref a1])) L = some (.lst [.ref a0, .ref a1]) := upd_same
    generalize (upd H2 L (.lst [.ref a0, .ref a1])) = H3 at e2 fL ⊢
    have E2 := e0.trans e1
    have E3 := E2.trans e2
    have hLH : H L = none := ext_free E2 nL
    have n0L : a0 ≠ L := ne_of_none (e1 _ _ f0) nL
    have n1L : a1 ≠ L := ne_of_none f1 nL
    refine ⟨_, rfl, .inl ⟨rfl, _, SqL.of fL⟩, (by show 6 ≤ sizeLine; decide), fun a2 n2 => ?_⟩
    have e3 : Ext H3 (upd H3 a2 (.lst [.str "use", .str "make", .str "do", .str "loop", .str "end", .str "given"])) := Ext.upd n2
    have f2 : (upd H3 a2 (.lst [.str "use", .str "make", .str "do", .str "loop", .str "end", .str "given"])) a2 = some (.lst ((["use", "make", "do", "loop", "end", "given"] : List Str).map V.str)) := upd_same
    generalize (upd H3 a2 (.lst [.str "use", .str "make", .str "do", .str "loop", .str "end", .str "given"])) = H4 at e3 f2 ⊢
    have n2L : a2 ≠ L := (ne_of_none fL n2).symm
    refine ⟨L, _, _, rfl, rfl, e3 _ _ fL, (by show 2 < sizeLine; decide), ?_⟩
    have K4 : ∀ b o, H4 b = some o → b ≠ L → (upd H4 L (.lst ([.ref a0, .ref a1] ++ [.ref a2]))) b = some o := fun b o q h => by rw [upd_ne h]; exact q
    have fL5 : (upd H4 L (.lst ([.ref a0, .ref a1] ++ [.ref a2]))) L = some (.lst [.ref a0, .ref a1, .ref a2]) := upd_same
    generalize (upd H4 L (.lst ([.ref a0, .ref a1] ++ [.ref a2]))) = H5 at K4 fL5 ⊢
    have E4 := E3.trans e3
    have E5 : Ext H H5 := fun b o q => K4 b o (E4 b o q) (ne_of_none q hLH)
    have g0 := K4 _ _ (e3 _ _ (e2 _ _ (e1 _ _ f0))) n0L
    have g1 := K4 _ _ (e3 _ _ (e2 _ _ f1)) n1L
    have g2 := K4 _ _ f2 n2L
    refine ⟨_, rfl, .inl ⟨rfl, _, SqL.of fL5⟩, (by show 6 ≤ sizeLine; decide), fun a3 n3 => ?_⟩
    have e5 : Ext H5 (upd H5 a3 (.lst [.str "zzzzzz", .str "aaaaaa", .str "azazaz", .str "z", .str "again", .str "store"])) := Ext.upd n3
    have f3 : (upd H5 a3 (.lst [.str "zzzzzz", .str "aaaaaa", .str "azazaz", .str "z", .str "again", .str "store"])) a3 = some (.lst ((["zzzzzz", "aaaaaa", "azazaz", "z", "again", "store"] : List Str).map V.str)) := upd_same
    generalize (upd H5 a3 (.lst [.str "zzzzzz", .str "aaaaaa", .str "azazaz", .str "z", .str "again", .str "store"])) = H6 at e5 f3 ⊢
    have n3L : a3 ≠ L := (ne_of_none fL5 n3).symm
    refine ⟨L, _, _, rfl, rfl, e5 _ _ fL5, (by show 3 < sizeLine; decide), ?_⟩
    have K6 : ∀ b o, H6 b = some o → b ≠ L → (upd H6 L (.lst ([.ref a0, .ref a1, .ref a2] ++ [.ref a3]))) b = some o := fun b o q h => by rw [upd_ne h]; exact q
    have fL7 : (upd H6 L (.lst ([.ref a0, .ref a1, .ref a2] ++ [.ref a3]))) L = some (.lst [.ref a0, .ref a1, .ref a2, .ref a3]) := upd_same
    generalize (upd H6 L (.lst ([.ref a0, .ref a1, .ref a2] ++ [.ref a3]))) = H7 at K6 fL7 ⊢
    have E7 : Ext H H7 := fun b o q => K6 b o (e5 b o (E5 b o q)) (ne_of_none q hLH)
    have g0 := K6 _ _ (e5 _ _ g0) n0L
    have g1 := K6 _ _ (e5 _ _ g1) n1L
    have g2 := K6 _ _ (e5 _ _ g2) n2L
    have g3 := K6 _ _ f3 n3L
    have hp7 := hp.ext E7
    obtain ⟨nLp, nLc⟩ := hp.ne hLH
    have away : ∀ {a : Addr}, H a = none → a ≠ p ∧ a ≠ c := fun {a} h => ⟨(hp.ne h).1.symm, (hp.ne h).2.symm⟩
    refine ⟨_, rfl, _, rfl, _, rfl, p, c, n, .ref L, rfl, hp7, by omega, .inl ⟨L, _, rfl, nLp.symm, nLc.symm, fL7, by simp, by simp, fun x H8 hx hp8 kp8 => ?_⟩⟩
    have k08 : Keep p c H H8 := (Keep.ext E7).trans kp8
    obtain ⟨q, ws, rfl, hws, nq, gq⟩ : ∃ (q : Addr) (ws : List Str), x = .ref q ∧ ws ∈ poolsS ∧ H q = none ∧ H7 q = some (.lst (ws.map V.str)) := by
      simp only [List.mem_cons, List.not_mem_nil, or_false] at hx
      rcases hx with rfl | rfl | rfl | rfl
      · exact ⟨_, _, rfl, by simp [poolsS], n0, g0⟩
      · exact ⟨_, _, rfl, by simp [poolsS], ext_free e0 n1, g1⟩
      · exact ⟨_, _, rfl, by simp [poolsS], ext_free E3 n2, g2⟩
      · exact ⟨_, _, rfl, by simp [poolsS], ext_free E5 n3, g3⟩
    obtain ⟨q1, q2⟩ := away nq
    obtain ⟨w1, w2, w3⟩ := pool_of hws
    refine ⟨_, rfl, _, rfl, p, c, n + 1, q, ws, 6, 6, rfl, hp8, by omega, kp8 _ _ gq q1 q2, q1, q2, w2, by omega, by omega, by omega, fun l us H9 nl l1 l2 hl9 und us1 us2 us3 hp9 kp9 => ?_⟩
    exact k l us H9 l1 l2 hl9 und (fun z hz => w1 z (us1 z hz)) (by omega) (hp9.mono (by omega)) (k08.trans kp9)
/-! ### _law_real_deed -/
def spReal (cl : Dd → Addr) : Sp := fun vs H Q _ => ∃ (d : Dd) (l : Addr), vs = [madeV d, .ref l] ∧ H l = some (.lst (d.2.map V.str)) ∧ Good d ∧ ∀ a H', Ext H H' → H a = none → DeedAt cl H' a d → Q (.ref a) H'
abbrev s__law_real_deed : Stmt := top 47
abbrev N__law_real_deed : List Str := ["_law_made", "_law_used"]
theorem sc__law_real_deed : FnScope N__law_real_deed ["_law_made", "_law_used"] (defScope s__law_real_deed) := ⟨rfl, rfl, rfl, by decide +kernel, rfl, by decide +kernel, by decide +kernel⟩
theorem ok_real {f : Addr} {fd : FuncData} (F : Fun K "_law_real_deed" "_law_real_deed" s__law_real_deed f fd) (T : Tx K mg EC CE CD CU CM CO tL tN tU)
    (c_Use : Mkc P w K mg base CX0 5 CU "Use" (spUse CU)) (c_Make : Mkc P w K mg base CX0 5 CM "Make" (spMake CM)) (c_Do : Mkc P w K mg base CX0 5 CO "Do" (spDo CO)) :
    FnOk P w K mg base CX0 7 f fd ["_law_made", "_law_used"] (spReal (clsD CU CM CO)) := by
  refine F.ok sc__law_real_deed (fun vs H Q E h => ?_) (fun cdv A outer s H vs Q E hr h => ?_)
  · obtain ⟨d, l, rfl, _⟩ := h
    rfl
  · obtain ⟨d, l, rfl, hl, hg, k⟩ := h
    refine ⟨_, (pss_cons (ps_if (pt_cmpR op_isN (pv 0) pe_non (nomark _)) (pss_cons (ps_if (pt_cmpR op_eq (pe_callB call_len_seq (by rfl) (T.bn _ (by decide +kernel)) (by decide +kernel) (pa_cons (pv 1) pa_nil)) pe_int (nomark _)) (pss_one (ps_ret (pe_mkc c_Use (hr.mono (by decide)) (by rfl) pass0 (pa_cons (pe_ix ix_list (pv 1) pe_int (fun _ _ => rfl)) pa_nil)))) pss_nil)
      (pss_one (ps_ret (pe_ifExp (pt_cmpR op_eq (pe_callB call_len_seq (by rfl) (T.bn _ (by decide +kernel)) (by decide +kernel) (pa_cons (pv 1) pa_nil)) pe_int (nomark _)) (pe_mkc c_Use (hr.mono (by decide)) (by rfl) pass0 (pa_cons (pe_ix ix_list (pv 1) pe_int (fun _ _ => rfl)) (pa_cons (pe_ix ix_list (pv 1) pe_int (fun _ _ => rfl)) pa_nil))) (pe_mkc c_Use (hr.mono (by decide)) (by rfl) pass0 (pa_cons (pe_ix ix_list (pv 1) pe_int (fun _ _ => rfl)) (pa_cons (pe_ix ix_list (pv 1) pe_int (fun _ _ => rfl)) (pa_cons (pe_ix ix_list (pv 1) pe_int (fun _ _ => rfl)) pa_nil)))))))) pss_nil)
      (pss_cons (ps_if (pt_cmpR (op_eqNil hr) (pv 1) (pe_lst pa_nil) (nomark _)) (pss_one (ps_ret (pe_mkc c_Make (hr.mono (by decide)) (by rfl) pass0 (pa_cons (pv 0) pa_nil)))) pss_nil)
      (pss_cons (ps_if (pt_cmpR op_eq (pe_callB call_len_seq (by rfl) (T.bn _ (by decide +kernel)) (by decide +kernel) (pa_cons (pv 1) pa_nil)) pe_int (nomark _)) (pss_one (ps_ret (pe_mkc c_Do (hr.mono (by decide)) (by rfl) pass0 (pa_cons (pv 0) (pa_cons (pe_ix ix_list (pv 1) pe_int (fun _ _ => rfl)) pa_nil))))) pss_nil)
      (pss_one (ps_ret (pe_ifExp (pt_cmpR op_eq (pe_callB call_len_seq (by rfl) (T.bn _ (by decide +kernel)) (by decide +kernel) (pa_cons (pv 1) pa_nil)) pe_int (nomark _)) (pe_mkc c_Do (hr.mono (by decide)) (by rfl) pass0 (pa_cons (pv 0) (pa_cons (pe_ix ix_list (pv 1) pe_int (fun _ _ => rfl)) (pa_cons (pe_ix ix_list (pv 1) pe_int (fun _ _ => rfl)) pa_nil)))) (pe_mkc c_Do (hr.mono (by decide)) (by rfl) pass0 (pa_cons (pv 0) (pa_cons (pe_ix ix_list (pv 1) pe_int (fun _ _ => rfl)) (pa_cons (pe_ix ix_list (pv 1) pe_int (fun _ _ => rfl)) (pa_cons (pe_ix ix_list (pv 1) pe_int (fun _ _ => rfl)) pa_nil))))))))))), ?_⟩
    refine ⟨_, rfl, rfl, _, rfl, ?_⟩
    have fin : ∀ (x dx : Addr) (H4 : Hp), H x = none → H dx = none → MadeX (clsD CU CM CO d) x dx d.2 d.1.toList (upd (upd H dx (.own x)) x (.ins (clsD CU CM CO d) dx [])) H4 → Q (.ref x) H4 := fun x dx H4 nx ndx hk => by
      obtain ⟨z1, z2⟩ := made_at nx ndx hk
      exact k x H4 z1 nx z2
    obtain ⟨m, us⟩ := d
    have h3 : us.length ≤ 3 := hg.le
    cases m with
    | none =>
      refine iteYes (decide_eq_true rfl) ?_
      match us, hl, hg, fin with
      | [], hl, hg, fin => exact absurd rfl (hg.ne rfl)
      | [u0], hl, hg, fin =>
        refine ⟨_, rfl, l, _, rfl, .inl (SqL.of hl), rfl, _, rfl, ?_⟩
        refine iteYes (decide_eq_true rfl) ?_
        exact ⟨_, rfl, l, _, 0, .str u0, rfl, rfl, SqL.of hl, atI_nat (j := 0) rfl, fun x dx nx ndx _ => ⟨x, dx, [u0], rfl, upd_same, hg.nm, hg.nd, by simp, hg.le, fun H4 hk => ⟨rfl, fin _ _ _ nx ndx hk⟩⟩⟩
      | [u0, u1], hl, hg, fin =>
        refine ⟨_, rfl, l, _, rfl, .inl (SqL.of hl), rfl, _, rfl, ?_⟩
        refine iteNo (decide_eq_false (by intro q; have := V.int.inj q; simp at this)) ?_
        refine ⟨_, rfl, l, _, rfl, .inl (SqL.of hl), rfl, _, rfl, ?_⟩
        refine iteYes (decide_eq_true rfl) ?_
        exact ⟨_, rfl, l, _, 0, .str u0, rfl, rfl, SqL.of hl, atI_nat (j := 0) rfl, _, rfl, l, _, 1, .str u1, rfl, rfl, SqL.of hl, atI_nat (j := 1) rfl, fun x dx nx ndx _ => ⟨x, dx, [u0, u1], rfl, upd_same, hg.nm, hg.nd, by simp, hg.le, fun H4 hk => ⟨rfl, fin _ _ _ nx ndx hk⟩⟩⟩
      | [u0, u1, u2], hl, hg, fin =>
        refine ⟨_, rfl, l, _, rfl, .inl (SqL.of hl), rfl, _, rfl, ?_⟩
        refine iteNo (decide_eq_false (by intro q; have := V.int.inj q; simp at this)) ?_
        refine ⟨_, rfl, l, _, rfl, .inl (SqL.of hl), rfl, _, rfl, ?_⟩
        refine iteNo (decide_eq_false (by intro q; have := V.int.inj q; simp at this)) ?_
        exact ⟨_, rfl, l, _, 0, .str u0, rfl, rfl, SqL.of hl, atI_nat (j := 0) rfl, _, rfl, l, _, 1, .str u1, rfl, rfl, SqL.of hl, atI_nat (j := 1) rfl, _, rfl, l, _, 2, .str u2, rfl, rfl, SqL.of hl, atI_nat (j := 2) rfl, fun x dx nx ndx _ => ⟨x, dx, [u0, u1, u2], rfl, upd_same, hg.nm, hg.nd, by simp, hg.le, fun H4 hk => ⟨rfl, fin _ _ _ nx ndx hk⟩⟩⟩
      | _ :: _ :: _ :: _ :: _, hl, hg, fin => exact absurd hg.le (by simp)
    | some z =>
      refine iteNo (decide_eq_false (by intro q; cases q)) ?_
      refine ⟨_, rfl, (by show 0 ≤ sizeLine; decide), fun e ne => ?_⟩
      have e5 : Ext H (upd H e (.lst [])) := Ext.upd ne
      refine ⟨l, e, _, rfl, rfl, e5 _ _ hl, upd_same, _, rfl, ?_⟩
      generalize (upd H e (.lst [])) = H5 at e5
      have hl := e5 _ _ hl
      have fin : ∀ (x dx : Addr) (H4 : Hp), H5 x = none → H5 dx = none → MadeX (clsD CU CM CO (some z, us)) x dx us [z] (upd (upd H5 dx (.own x)) x (.ins (clsD CU CM CO (some z, us)) dx [])) H4 → Q (.ref x) H4 := fun x dx H4 nx ndx hk => by
        obtain ⟨z1, z2⟩ := made_at (d := (some z, us)) nx ndx hk
        exact k x H4 (e5.trans z1) (ext_free e5 nx) z2
      match us, hl, hg, fin with
      | [], hl, hg, fin =>
        refine iteYes rfl ?_
        exact ⟨_, rfl, fun x dx nx ndx _ => ⟨x, dx, z, rfl, upd_same, hg.mn z rfl, fun H4 hk => ⟨rfl, fin _ _ _ nx ndx hk⟩⟩⟩
      | [u0], hl, hg, fin =>
        refine iteNo rfl ?_
        refine ⟨_, rfl, l, _, rfl, .inl (SqL.of hl), rfl, _, rfl, ?_⟩
        refine iteYes (decide_eq_true rfl) ?_
        exact ⟨_, rfl, _, rfl, l, _, 0, .str u0, rfl, rfl, SqL.of hl, atI_nat (j := 0) rfl, fun x dx nx ndx _ => ⟨x, dx, z, [u0], rfl, upd_same, hg.mn z rfl, hg.nm, hg.nd, by simp, hg.le, fun H4 hk => ⟨rfl, fin _ _ _ nx ndx hk⟩⟩⟩
      | [u0, u1], hl, hg, fin =>
        refine iteNo rfl ?_
        refine ⟨_, rfl, l, _, rfl, .inl (SqL.of hl), rfl, _, rfl, ?_⟩
        refine iteNo (decide_eq_false (by intro q; have := V.int.inj q; simp at this)) ?_
        refine ⟨_, rfl, l, _, rfl, .inl (SqL.of hl), rfl, _, rfl, ?_⟩
        refine iteYes (decide_eq_true rfl) ?_
        exact ⟨_, rfl, _, rfl, l, _, 0, .str u0, rfl, rfl, SqL.of hl, atI_nat (j := 0) rfl, _, rfl, l, _, 1, .str u1, rfl, rfl, SqL.of hl, atI_nat (j := 1) rfl, fun x dx nx ndx _ => ⟨x, dx, z, [u0, u1], rfl, upd_same, hg.mn z rfl, hg.nm, hg.nd, by simp, hg.le, fun H4 hk => ⟨rfl, fin _ _ _ nx ndx hk⟩⟩⟩
      | [u0, u1, u2], hl, hg, fin =>
        refine iteNo rfl ?_
        refine ⟨_, rfl, l, _, rfl, .inl (SqL.of hl), rfl, _, rfl, ?_⟩
        refine iteNo (decide_eq_false (by intro q; have := V.int.inj q; simp at this)) ?_
        refine ⟨_, rfl, l, _, rfl, .inl (SqL.of hl), rfl, _, rfl, ?_⟩
        refine iteNo (decide_eq_false (by intro q; have := V.int.inj q; simp at this)) ?_
        exact ⟨_, rfl, _, rfl, l, _, 0, .str u0, rfl, rfl, SqL.of hl, atI_nat (j := 0) rfl, _, rfl, l, _, 1, .str u1, rfl, rfl, SqL.of hl, atI_nat (j := 1) rfl, _, rfl, l, _, 2, .str u2, rfl, rfl, SqL.of hl, atI_nat (j := 2) rfl, fun x dx nx ndx _ => ⟨x, dx, z, [u0, u1, u2], rfl, upd_same, hg.mn z rfl, hg.nm, hg.nd, by simp, hg.le, fun H4 hk => ⟨rfl, fin _ _ _ nx ndx hk⟩⟩⟩
      | _ :: _ :: _ :: _ :: _, hl, hg, fin => exact absurd hg.le (by simp)
end
end K01
end
section
set_option Elab.async false
set_option autoImplicit false
set_option linter.all false
set_option maxRecDepth 100000
set_option maxHeartbeats 4000000
namespace K01
open PySem PySem.Spec PyProof.Rows L2 Ls
open C8 (pss_cut tCut)
open TL
/-- a lot in the heap -/
def LotAt (H : Hp) (t : Addr) (d : Dd) : Prop := ∃ ul, H t = some (.tup [madeV d, .ref ul]) ∧ H ul = some (.lst (d.2.map V.str))
theorem LotAt.ext {H H' : Hp} {t : Addr} {d : Dd} (h : LotAt H t d) (e : Ext H H') : LotAt H' t d := let ⟨ul, h1, h2⟩ := h; ⟨ul, e _ _ h1, e _ _ h2⟩
theorem kfree {p c e : Addr} {n : Nat} {H H' : Hp} (k : Keep p c H H') (hp : PenAt H' p c n) (h : H' e = none) : H e = none := by
  cases q : H e with
  | none => rfl
  | some o =>
    obtain ⟨z1, z2⟩ := hp.ne h
    rw [k e o q z1.symm z2.symm] at h
    cases h
section
variable {P : Program} {w : World} {K : PySem.W.Frag} {mg : Str → Option Value} {base : Heap} {EC : Str → Addr} {CE CD CU CM CO : Addr} {tL tN tU : Tok}
/-! ### _law_lot -/
def spLot : Sp := fun vs H Q _ => ∃ (p c : Addr) (n : Nat) (l : Addr) (ws : List Str), vs = [.ref p, .ref l] ∧ PenAt H p c n ∧ n < 900000 ∧ H l = some (.lst (ws.map V.str)) ∧ l ≠ p ∧ l ≠ c ∧ ws.Nodup ∧ (∀ z ∈ ws, isName z = true) ∧ ws.length = 6 ∧
  ∀ (t : Addr) (d : Dd) (H' : Hp), Good d → LotAt (nw H H') t d → PenAt H' p c (n + 30) → Keep p c H H' → Q (.ref t) H'
abbrev s__law_lot : Stmt := top 48
abbrev N__law_lot : List Str := ["_law_pen_here", "_law_known", "_law_way", "_law_used", "_law_made"]
theorem sc__law_lot : FnScope N__law_lot ["_law_pen_here", "_law_known"] (defScope s__law_lot) := ⟨rfl, rfl, rfl, by decide +kernel, rfl, by decide +kernel, by decide +kernel⟩
theorem ok_lot {f : Addr} {fd : FuncData} (F : Fun K "_law_lot" "_law_lot" s__law_lot f fd) (T : Tx K mg EC CE CD CU CM CO tL tN tU) (c__law_draw : Cal P w K mg base CX0 1 "_law_draw" spDraw) (c__law_pick : Cal P w K mg base CX0 2 "_law_pick" (spPick K)) (c__law_some : Cal P w K mg base CX0 2 "_law_some" spSome) : FnOk P w K mg base CX0 3 f fd ["_law_pen_here", "_law_known"] spLot := by
  refine F.ok sc__law_lot (fun vs H Q E h => ?_) (fun cdv A outer s H vs Q E hr h => ?_)
  · obtain ⟨p, c, n, l, ws, rfl, _⟩ := h
    rfl
  · obtain ⟨p, c, n, l, ws, rfl, hp, hn, hl, nlp, nlc, hnd, hnm, h6, k⟩ := h
    refine ⟨_, (pss_cons (ps_par (i := 2) (j := 3) rfl sc__law_lot.nd rfl rfl (by decide) rfl rfl (pa_cons (pe_cal c__law_draw (hr.mono (by decide)) (by rfl) pass0 (pa_cons (pv 0) (pa_cons pe_int pa_nil))) (pa_cons (pe_cal c__law_some (hr.mono (by decide)) (by rfl) pass0 (pa_cons (pv 0) (pa_cons (pv 1) (pa_cons pe_int (pa_cons pe_int pa_nil))))) pa_nil)) (by rfl))
      (pss_cut (ps_set (i := 4) sc__law_lot.nd rfl (by first | exact Or.inl rfl | exact Or.inr rfl) (pe_ifExp (pt_cmpR op_gt (pv 2) pe_int (nomark _)) (pe_cal c__law_pick (hr.mono (by decide)) (by rfl) pass0 (pa_cons (pv 0) (pa_cons (pv 1) pa_nil))) pe_non))
      (pss_one (ps_ret (pe_tup (pa_cons (pv 4) (pa_cons (pe_ifExp (pt_cmpR op_eq (pv 2) pe_int (nomark _)) (pe_lst pa_nil) (pv 3)) pa_nil))))))), ?_⟩
    refine ⟨_, rfl, p, c, n, 3, rfl, hp, by omega, by decide, by decide, fun wy H1 w0 w1 hp1 kp1 => ⟨_, rfl, _, rfl, p, c, n + 1, l, ws, 1, 3, rfl, hp1, by omega, kp1 _ _ hl nlp nlc, nlp, nlc, hnd, by omega, by decide, by omega, fun ul us H2 nul u1 u2 hul und usub us1 us3 hp2 kp2 => ⟨_, _, rfl, ?_⟩⟩⟩
    have k02 := kp1.trans kp2
    have usn : ∀ z ∈ us, isName z = true := fun z hz => hnm z (usub z hz)
    refine ⟨fun σ' H' => ∃ m : Option Str, σ' = [some (.ref p), some (.ref l), some (.int wy), some (.ref ul), some (madeV (m, []))] ∧ PenAt H' p c (n + 22) ∧ Keep p c H2 H' ∧ (m = none → wy = 0) ∧ ∀ z, m = some z → isName z = true, ?_, ?_⟩
    · refine ⟨_, rfl, _, _, rfl, rfl, _, rfl, ?_⟩
      by_cases h0 : 0 < wy
      · refine iteYes (decide_eq_true h0) ?_
        refine ⟨_, rfl, _, rfl, p, c, n + 21, .ref l, rfl, hp2.mono (by omega), by omega, .inl ⟨l, _, rfl, nlp, nlc, k02 _ _ hl nlp nlc, by rw [List.length_map]; omega, by rw [List.length_map]; omega, fun x H3 hx hp3 kp3 => ?_⟩⟩
        obtain ⟨z, hz, rfl⟩ := List.mem_map.mp hx
        exact ⟨some z, rfl, hp3.mono (by omega), kp3, fun e => (by cases e), fun y e => by cases e; exact hnm z hz⟩
      · refine iteNo (decide_eq_false h0) ?_
        exact ⟨none, rfl, hp2.mono (by omega), fun b o q _ _ => q, fun _ => by omega, fun z e => by cases e⟩
    · rintro σ' H3 ⟨m, rfl, hp3, kp3, hm0, hmn⟩
      have k03 := k02.trans kp3
      have hul3 := kp3 _ _ hul u1 u2
      refine ⟨_, rfl, _, rfl, rfl, _, rfl, ?_⟩
      by_cases h1 : wy = 1
      · refine iteYes (decide_eq_true (by rw [h1])) ?_
        refine ⟨(by show 0 ≤ sizeLine; decide), fun e ne => ⟨(by show 2 ≤ sizeLine; decide), fun t nt => ?_⟩⟩
        have x4 := (Ext.upd (o := HO.lst []) ne).trans (Ext.upd (o := HO.tup [madeV (m, []), .ref e]) nt)
        have hp4 := hp3.ext x4
        obtain ⟨pe, ce⟩ := hp3.ne ne
        obtain ⟨pt, ct⟩ := (hp3.ext (Ext.upd (o := HO.lst []) ne)).ne nt
        refine k t (m, []) _ ⟨by simp, fun z hz => hmn z hz, List.nodup_nil, by simp, fun hh => ?_⟩ ⟨e, by rw [nw_at (kfree k03 hp3 (ext_free (Ext.upd ne) nt))]; exact upd_same, by rw [nw_at (kfree k03 hp3 ne)]; rw [upd_ne (ne_of_none upd_same nt)]; exact upd_same⟩ (hp4.mono (by omega)) (k03.trans (Keep.ext x4))
        have := hm0 hh
        omega
      · refine iteNo (decide_eq_false fun q => h1 (V.int.inj q)) ?_
        refine ⟨_, rfl, (by show 2 ≤ sizeLine; decide), fun t nt => ?_⟩
        have x4 := Ext.upd (o := HO.tup [madeV (m, []), .ref ul]) nt
        obtain ⟨pt, ct⟩ := hp3.ne nt
        refine k t (m, us) _ ⟨usn, fun z hz => hmn z hz, und, us3, fun _ e => ?_⟩ ⟨ul, by rw [nw_at (kfree k03 hp3 nt)]; exact upd_same, by rw [nw_at (kfree kp1 hp1 nul)]; exact x4 _ _ hul3⟩ ((hp3.ext x4).mono (by omega)) (k03.trans (Keep.ext x4))
        have e : us = [] := e
        rw [e] at us1
        simp at us1
/-! ### _law_text -/
def spLText : Sp := fun vs H Q _ => ∃ (d : Dd) (l : Addr), vs = [madeV d, .ref l] ∧ H l = some (.lst (d.2.map V.str)) ∧ Good d ∧ ∀ H', Ext H H' → Q (.str (textD d)) H'
abbrev s__law_text : Stmt := top 49
abbrev N__law_text : List Str := ["_law_made", "_law_used"]
theorem sc__law_text : FnScope N__law_text ["_law_made", "_law_used"] (defScope s__law_text) := ⟨rfl, rfl, rfl, by decide +kernel, rfl, by decide +kernel, by decide +kernel⟩
theorem ok_ltext {f : Addr} {fd : FuncData} (F : Fun K "_law_text" "_law_text" s__law_text f fd) (T : Tx K mg EC CE CD CU CM CO tL tN tU) : FnOk P w K mg base CX0 1 f fd ["_law_made", "_law_used"] spLText := by
  refine F.ok sc__law_text (fun vs H Q E h => ?_) (fun cdv A outer s H vs Q E hr h => ?_)
  · obtain ⟨d, l, rfl, _⟩ := h
    rfl
  · obtain ⟨d, l, rfl, hl, hg, k⟩ := h
    have h4 : sizeLine = 16777216 := sizeLine_eq
    have hsum := sum_le (words_name hg)
    have hwl := words_len hg
    have c1 : (" " : Str).length = 1 := by decide +kernel
    refine ⟨_, (pss_cons (ps_if (pt_cmpR op_isN (pv 0) pe_non (nomark _)) (pss_one (ps_ret (pe_join pe_str (pe_op op_cat (pe_lst (pa_cons pe_str pa_nil)) (pv 1))))) pss_nil)
      (pss_one (ps_ret (pe_ifExp (pt_cmpR (op_eqNil hr) (pv 1) (pe_lst pa_nil) (nomark _)) (pe_op op_add_str pe_str (pv 0)) (pe_join pe_str (pe_op op_cat (pe_lst (pa_cons pe_str (pa_cons (pv 0) pa_nil))) (pv 1))))))), ?_⟩
    refine ⟨_, rfl, rfl, _, rfl, ?_⟩
    obtain ⟨m, us⟩ := d
    have h3 : us.length ≤ 3 := hg.le
    have lu : (us.map V.str).length = us.length := List.length_map _
    cases m with
    | none =>
      refine iteYes (decide_eq_true rfl) ?_
      refine ⟨⟨_, rfl⟩, (by show 1 ≤ sizeLine; decide), fun a na => ⟨_, rfl, a, l, _, _, rfl, rfl, upd_same, Ext.upd na _ _ hl, by rw [lu]; show 1 + us.length ≤ sizeLine; omega, fun q nq => ?_⟩⟩
      exact ⟨_, q, wordsD (none, us), rfl, rfl, .inl (SqL.of upd_same), by rw [c1]; omega, k _ ((Ext.upd na).trans (Ext.upd nq))⟩
    | some z =>
      refine iteNo (decide_eq_false (by intro q; cases q)) ?_
      refine ⟨_, rfl, (by show 0 ≤ sizeLine; decide), fun e ne => ?_⟩
      have e5 : Ext H (upd H e (.lst [])) := Ext.upd ne
      refine ⟨l, e, _, rfl, rfl, e5 _ _ hl, upd_same, _, rfl, ?_⟩
      generalize (upd H e (.lst [])) = H5 at e5
      have hl5 := e5 _ _ hl
      have hz := (name_len (hg.mn z rfl)).2
      cases us with
      | nil =>
        refine iteYes rfl ?_
        have lm : ("make " : Str).length = 5 := by decide +kernel
        refine ⟨_, rfl, _, _, rfl, rfl, by omega, ?_⟩
        have e : ("make " : Str) ++ z = textD (some z, []) := by
          show _ = Txt.join " " ["make", z]
          rw [join_cons, join_one]
          refine ext_tl ?_
          rw [tl_append, tl_append, tl_append, show tl ("make " : Str) = tl ("make" : Str) ++ tl (" " : Str) from by decide +kernel]
        rw [e]
        exact k _ e5
      | cons u r =>
        refine iteNo rfl ?_
        refine ⟨⟨_, rfl⟩, _, rfl, (by show 2 ≤ sizeLine; decide), fun a na => ⟨_, rfl, a, l, _, _, rfl, rfl, upd_same, Ext.upd na _ _ hl5, by rw [lu]; show 2 + (u :: r).length ≤ sizeLine; omega, fun q nq => ?_⟩⟩
        exact ⟨_, q, wordsD (some z, u :: r), rfl, rfl, .inl (SqL.of upd_same), by rw [c1]; omega, k _ (e5.trans ((Ext.upd na).trans (Ext.upd nq)))⟩
end
end K01
end
section
set_option Elab.async false
set_option autoImplicit false
set_option linter.all false
set_option maxRecDepth 100000
set_option maxHeartbeats 4000000
namespace K01
open PySem PySem.Spec PyProof.Rows L2 Ls
open C8 (pss_cut tCut)
open TL
/-- which of the classes of deeds a deed is of -/
structure KinT (K : PySem.W.Frag) (CU CM CO C : Addr) (d : Dd) : Prop where
  u : PySem.W.kitOne K (.ref C) (.ref CU) = some (!d.2.isEmpty)
  m : PySem.W.kitOne K (.ref C) (.ref CM) = some d.1.isSome
  o : PySem.W.kitOne K (.ref C) (.ref CO) = some (!d.2.isEmpty && d.1.isSome)
  ne : PySem.W.findIn K (.ref C) "__ne__" = some (some (.builtin "object.__ne__"))
  nf : PySem.W.notFirst K C (.ref C) = true
  ns : PySem.W.notFirst K C (.type "str") = true
  nt : PySem.W.notFirst K C (.type "tuple") = true
def InC (CU CM CO C : Addr) : Prop := C = CU ∨ C = CM ∨ C = CO
theorem clsD_in (CU CM CO : Addr) (d : Dd) : InC CU CM CO (clsD CU CM CO d) := by
  obtain ⟨m, us⟩ := d
  cases m with
  | none => exact .inl rfl
  | some z => cases us with
    | nil => exact .inr (.inl rfl)
    | cons u r => exact .inr (.inr rfl)
def madeD (d : Dd) : PyData := match d.1 with
  | none => .none
  | some z => .str z
theorem madeV_tv {H : Hp} (d : Dd) : TV H (madeV d) (madeD d) := by
  obtain ⟨m, us⟩ := d
  cases m with
  | none => exact .non
  | some z => exact .str z
def toldD (d : Dd) (ys : List Str) : PyData := .list [.tuple (d.2.map .str), madeD d, .tuple (ys.map .str), .int ys.length, .str (textD d)]
theorem ok_name_s {z : Str} (h : isName z = true) : OkS 6 z := ⟨(name_len h).2, fun c hc => by
  have h1 := name_sub h c hc
  have h2 : (tl lettersS).all (fun c => decide (c < 256)) = true := by decide +kernel
  exact of_decide_eq_true (List.all_eq_true.mp h2 c h1)⟩
theorem name_shw {z : Str} (h : isName z = true) : Shw 62 (.str z) := Shw.str (ok_name_s h)
theorem names_shw {zs : List Str} (h : ∀ z ∈ zs, isName z = true) (hl : zs.length ≤ 4) : Shw 300 (.tuple (zs.map .str)) := by
  have q := Shw.tupN (n := 62) (k := 0) (ds := zs.map .str) (fun d hd => by
    obtain ⟨z, hz, rfl⟩ := List.mem_map.mp hd
    exact name_shw (h z hz)) (fun d hd => by
    obtain ⟨z, hz, rfl⟩ := List.mem_map.mp hd
    exact Nat.le_refl _) (by decide)
  rw [List.length_map] at q
  exact q.mono (by omega)
theorem tup_dep (zs : List Str) : (PyData.tuple (zs.map .str)).depth ≤ 1 := depth_tup fun d hd => by
  obtain ⟨z, hz, rfl⟩ := List.mem_map.mp hd
  exact Nat.le_refl _
theorem sum_leB {B : Nat} : ∀ {l : List Str}, (∀ z ∈ l, OkS B z) → (l.map (·.length)).sum ≤ l.length * B
  | [], _ => by simp
  | z :: r, h => by
    have := sum_leB (l := r) fun x hx => h x (List.mem_cons_of_mem _ hx)
    have h1 := (h z (by simp)).1
    simp only [List.map_cons, List.sum_cons, List.length_cons, Nat.succ_mul]
    omega
theorem join_ok {B n : Nat} {l : List Str} (h : ∀ z ∈ l, OkS B z) (hn : l.length * (B + 1) ≤ n) : (l.map (·.length)).sum + l.length * (" " : Str).length ≤ n ∧ OkS n (Txt.join " " l) := by
  have e1 : (" " : Str).length = 1 := by decide +kernel
  have h1 := sum_leB h
  have h2 : l.length * (B + 1) = l.length * B + l.length := Nat.mul_succ _ _
  have h3 : (l.map (·.length)).sum + l.length * (" " : Str).length ≤ n := by rw [e1]; omega
  refine ⟨h3, ?_, ?_⟩
  · rw [join_eq]
    exact Nat.le_trans (StrLaws.join_length_le " " l) h3
  · rw [join_eq, tl_join, sp_tl]
    have : ∀ ps : List (List Nat), (∀ p ∈ ps, ∀ c ∈ p, c < 256) → ∀ c ∈ joinL [32] ps, c < 256 := by
      intro ps
      induction ps with
      | nil => intro _ c hc; simp [joinL] at hc
      | cons a r ih =>
        intro hp c hc
        cases r with
        | nil => exact hp a (by simp) c (by simpa [joinL] using hc)
        | cons b r =>
          rw [joinL_cons _ _ (by simp)] at hc
          rcases List.mem_append.mp hc with hc | hc
          · exact hp a (by simp) c hc
          · rcases List.mem_append.mp hc with hc | hc
            · rw [List.mem_singleton.mp hc]; decide
            · exact ih (fun p hp' => hp p (List.mem_cons_of_mem _ hp')) c hc
    refine this _ fun p hp => ?_
    obtain ⟨q, hq, rfl⟩ := List.mem_map.mp hp
    exact (h q hq).2
theorem text_ok {d : Dd} (h : Good d) : OkS 40 (textD d) := (join_ok (B := 6) (n := 40) (fun z hz => ok_name_s (words_name h z hz)) (by have := words_len h; omega)).2
theorem nodup_len : ∀ {ys zs : List Str}, ys.Nodup → (∀ y ∈ ys, y ∈ zs) → ys.length ≤ zs.length
  | [], _, _, _ => Nat.zero_le _
  | y :: r, zs, nd, h => by
    have hy := h y (by simp)
    obtain ⟨n1, n2⟩ := List.nodup_cons.mp nd
    have ih := nodup_len (ys := r) (zs := zs.erase y) n2 fun x hx => (List.mem_erase_of_ne (fun e => n1 (by rw [← e]; exact hx))).mpr (h x (by simp [hx]))
    rw [List.length_erase_of_mem hy] at ih
    have := List.length_pos_of_mem hy
    simp only [List.length_cons]
    omega
theorem asc_len {d : Dd} {ys : List Str} (h : Good d) (a : Asc (d.2 ++ d.1.toList) ys) : ys.length ≤ 4 ∧ ∀ z ∈ ys, isName z = true := by
  have h1 := nodup_len a.1 fun y hy => (a.2.2 y).mp hy
  have h2 := cat_ok (H := fun _ => none) h.le
  rw [List.length_map] at h2
  refine ⟨by omega, fun z hz => ?_⟩
  rcases List.mem_append.mp ((a.2.2 z).mp hz) with q | q
  · exact h.nm z q
  · exact h.mn z (by simpa using q)
theorem int_shw {n : Nat} (h : n ≤ 4) : Shw 62 (.int n) := by
  have hc : n = 0 ∨ n = 1 ∨ n = 2 ∨ n = 3 ∨ n = 4 := by omega
  rcases hc with rfl | rfl | rfl | rfl | rfl <;> exact ⟨by decide +kernel, by decide, by decide +kernel⟩
theorem made_shw {d : Dd} (h : Good d) : Shw 62 (madeD d) ∧ (madeD d).depth = 0 := by
  obtain ⟨m, us⟩ := d
  cases m with
  | none => exact ⟨(⟨rfl, by decide, by decide +kernel⟩ : Shw 62 .none), rfl⟩
  | some z => exact ⟨name_shw (h.mn z rfl), rfl⟩
theorem told_shw {d : Dd} {ys : List Str} (h : Good d) (a : Asc (d.2 ++ d.1.toList) ys) : Shw 3000 (toldD d ys) := by
  obtain ⟨l4, yn⟩ := asc_len h a
  obtain ⟨m1, m2⟩ := made_shw h
  have q := Shw.listN (n := 450) (k := 1) (ds := [.tuple (d.2.map .str), madeD d, .tuple (ys.map .str), .int ys.length, .str (textD d)]) (fun x hx => by
    simp only [List.mem_cons, List.not_mem_nil, or_false] at hx
    rcases hx with rfl | rfl | rfl | rfl | rfl
    · exact (names_shw h.nm (by have := h.le; omega)).mono (by decide)
    · exact m1.mono (by decide)
    · exact (names_shw yn l4).mono (by decide)
    · exact (int_shw l4).mono (by decide)
    · exact (Shw.str (text_ok h)).mono (by decide)) (fun x hx => by
    simp only [List.mem_cons, List.not_mem_nil, or_false] at hx
    rcases hx with rfl | rfl | rfl | rfl | rfl
    · exact tup_dep _
    · omega
    · exact tup_dep _
    · exact Nat.zero_le _
    · exact Nat.zero_le _) (by decide)
  exact q.mono (by show 5 * 450 + 2 * 5 + 3 ≤ 3000; decide)
end K01
end
section
set_option Elab.async false
set_option autoImplicit false
set_option linter.all false
set_option maxRecDepth 100000
set_option maxHeartbeats 4000000
namespace K01
open PySem PySem.Spec PyProof.Rows L2 Ls
open C8 (pss_cut tCut)
open TL
theorem name_sok {z : Str} (h : isName z = true) : PyData.strOk z = true := by
  show z.cps.all (· < 0x110000) = true
  rw [Array.all_eq_true']
  intro c hc
  have h1 := (ok_name_s h).2 c (by simpa [tl] using hc)
  exact decide_eq_true (Nat.lt_trans h1 (by decide))
section
variable {P : Program} {w : World} {K : PySem.W.Frag} {mg : Str → Option Value} {base : Heap} {EC : Str → Addr} {CE CD CU CM CO : Addr} {tL tN tU : Tok}
/-! ### _law_right -/
def spRight : Sp := fun vs H Q _ => ∃ (d : Dd) (l : Addr), vs = [madeV d, .ref l] ∧ H l = some (.lst (d.2.map V.str)) ∧ Good d ∧ ∀ H', Ext H H' → Q (.bl true) H'
abbrev s__law_right : Stmt := top 50
abbrev N__law_right : List Str := ["_law_made", "_law_used", "_law_thing", "_law_line", "_law_known", "_law_word", "_law_told", "_law_kinds_here", "_law_twin", "_law_marks"]
theorem sc__law_right : FnScope N__law_right ["_law_made", "_law_used"] (defScope s__law_right) := ⟨rfl, rfl, rfl, by decide +kernel, rfl, by decide +kernel, by decide +kernel⟩
theorem ok_right {f fs fe : Addr} {fd : FuncData} (F : Fun K "_law_right" "_law_right" s__law_right f fd) (T : Tx K mg EC CE CD CU CM CO tL tN tU) (TC : ∀ d, ClT K CD fs fe (clsD CU CM CO d)) (TK : ∀ d, Good d → KinT K CU CM CO (clsD CU CM CO d) d)
    (kS : PySem.W.kitOne K (.type "str") (.ref CD) = some false) (kT : PySem.W.kitOne K (.type "tuple") (.ref CD) = some false) (hsys : (base.get? sysModules).isSome = true)
    (hfs : PySem.W.isFn K (.ref fs) = true) (rS : FnR P w K mg base CX0 1 fs (spStr (clsD CU CM CO))) (hfe : PySem.W.isFn K (.ref fe) = true) (rE : FnR P w K mg base CX0 4 fe (spEq (clsD CU CM CO) K CD))
    (c_uses : Prp P w K mg base CX0 1 (InC CU CM CO) "uses" (spUses (clsD CU CM CO))) (c_makes : Prp P w K mg base CX0 1 (InC CU CM CO) "makes" (spMakes (clsD CU CM CO))) (c_names : Prp P w K mg base CX0 2 (InC CU CM CO) "names" (spNames (clsD CU CM CO))) (c_room : Prp P w K mg base CX0 2 (InC CU CM CO) "room" (spRoom (clsD CU CM CO)))
    (c_Deed_read : Clm P w K mg base CX0 7 CD "read" (spRead (clsD CU CM CO))) (c_Deed_read_kw : ClmK P w K mg base CX0 7 CD "read" "text" (spRead (clsD CU CM CO)))
    (c__law_real_deed : Cal P w K mg base CX0 7 "_law_real_deed" (spReal (clsD CU CM CO))) (c__law_text : Cal P w K mg base CX0 1 "_law_text" spLText) :
    FnG P w K mg base CX0 10 f fd ["_law_made", "_law_used"] spRight := by
  refine okG F sc__law_right (fun vs H Q E h => ?_) (fun cdv A outer s H vs Q E hcd hgd hr h => ?_)
  · obtain ⟨d, l, rfl, _⟩ := h
    rfl
  · obtain ⟨d, l, rfl, hl, hg, k⟩ := h
    have h4 : sizeLine = 16777216 := sizeLine_eq
    have h3 := hg.le
    refine ⟨_, (pss_cons (ps_par (i := 2) (j := 3) rfl sc__law_right.nd rfl rfl (by decide) rfl rfl (pa_cons (pe_cal c__law_real_deed (hr.mono (by decide)) (by rfl) pass0 (pa_cons (pv 0) (pa_cons (pv 1) pa_nil))) (pa_cons (pe_cal c__law_text (hr.mono (by decide)) (by rfl) pass0 (pa_cons (pv 0) (pa_cons (pv 1) pa_nil))) pa_nil)) (by rfl))
      (pss_cut (ps_set (i := 4) sc__law_right.nd rfl (by first | exact Or.inl rfl | exact Or.inr rfl) (pe_callB (cr_sortT rfl) (by rfl) (T.bn _ (by decide +kernel)) (by decide +kernel) (pa_cons (pe_callTy (cr_setT rfl) (by rfl) (T.bn _ (by decide +kernel)) (by decide +kernel) (pa_cons (pe_lc (own := [("_law_word", 5)]) rfl sc__law_right.nd (pi_list (pe_op op_cat (pv 1) (pe_lst (pa_cons (pe_orT (pv 0) (pe_one (pe_ix ix_list (pv 1) pe_int (fun _ _ => rfl)))) pa_nil)))) (blkOk_by (own := [("_law_word", 5)]) (N := N__law_right) (sc := defScope s__law_right) (by decide +kernel)) (fun _ _ _ _ _ => (pg_name (i := 5) sc__law_right.nd rfl (by first | exact Or.inl rfl | exact Or.inr rfl))) (fun _ _ _ _ _ => pts_nil) (fun _ _ _ _ _ => (pe_callTy SkE.call_str_str (by rfl) (T.bn _ (by decide +kernel)) (by decide +kernel) (pa_cons (pv 5) pa_nil)))) pa_nil)) pa_nil)))
      (pss_cons (ps_set (i := 6) sc__law_right.nd rfl (by first | exact Or.inl rfl | exact Or.inr rfl) (pe_lst (pa_cons ((pe_prp c_uses (hr.mono (by decide)) pass0) (pv 2)) (pa_cons ((pe_prp c_makes (hr.mono (by decide)) pass0) (pv 2)) (pa_cons ((pe_prp c_names (hr.mono (by decide)) pass0) (pv 2)) (pa_cons ((pe_prp c_room (hr.mono (by decide)) pass0) (pv 2)) (pa_cons (pe_callTy (call_strOwn hfs rS (hr.mono (by decide)) pass0) (by rfl) (T.bn _ (by decide +kernel)) (by decide +kernel) (pa_cons (pv 2) pa_nil)) pa_nil)))))))
      (pss_cons (ps_if (pt_cmpR op_ne (pe_callB (call_repr hgd hr hsys) (by rfl) (T.bn _ (by decide +kernel)) (by decide +kernel) (pa_cons (pv 6) pa_nil)) (pe_callB (call_repr hgd hr hsys) (by rfl) (T.bn _ (by decide +kernel)) (by decide +kernel) (pa_cons (pe_lst (pa_cons (pe_callTy call_tuple_of (by rfl) (T.bn _ (by decide +kernel)) (by decide +kernel) (pa_cons (pv 1) pa_nil)) (pa_cons (pv 0) (pa_cons (pe_callTy call_tuple_of (by rfl) (T.bn _ (by decide +kernel)) (by decide +kernel) (pa_cons (pv 4) pa_nil)) (pa_cons (pe_callB call_len_seq (by rfl) (T.bn _ (by decide +kernel)) (by decide +kernel) (pa_cons (pv 4) pa_nil)) (pa_cons (pv 3) pa_nil)))))) pa_nil)) (nomark _)) (pss_one (ps_ret pe_bl)) pss_nil)
      (pss_cons (ps_set (i := 7) sc__law_right.nd rfl (by first | exact Or.inl rfl | exact Or.inr rfl) (pe_lst (pa_cons (pe_callB call_isi (by rfl) (T.bn _ (by decide +kernel)) (by decide +kernel) (pa_cons (pv 2) (pa_cons (pe_gref (by rfl) T.m_Deed) pa_nil))) (pa_cons (pe_callB call_isi (by rfl) (T.bn _ (by decide +kernel)) (by decide +kernel) (pa_cons (pv 2) (pa_cons (pe_gref (by rfl) T.m_Use) pa_nil))) (pa_cons (pe_callB call_isi (by rfl) (T.bn _ (by decide +kernel)) (by decide +kernel) (pa_cons (pv 2) (pa_cons (pe_gref (by rfl) T.m_Make) pa_nil))) (pa_cons (pe_callB call_isi (by rfl) (T.bn _ (by decide +kernel)) (by decide +kernel) (pa_cons (pv 2) (pa_cons (pe_gref (by rfl) T.m_Do) pa_nil))) pa_nil))))))
      (pss_cut (ps_if (pt_cmpR (op_neG mon_flat eqG_flat (hr.mono (by decide))) (pv 7) (pe_lst (pa_cons pe_bl (pa_cons (pe_cmpR (op_neNil hr) (pv 1) (pe_lst pa_nil) (nomark _)) (pa_cons (pe_cmpR op_notN (pv 0) pe_non (nomark _)) (pa_cons (pe_and (pe_cmpR (op_neNil hr) (pv 1) (pe_lst pa_nil) (nomark _)) (pe_one (pe_cmpR op_notN (pv 0) pe_non (nomark _)))) pa_nil))))) (nomark _)) (pss_one (ps_ret pe_bl)) pss_nil)
      (pss_cons (ps_set (i := 8) sc__law_right.nd rfl (by first | exact Or.inl rfl | exact Or.inr rfl) (pe_clmk c_Deed_read_kw (hr.mono (by decide)) (pe_gref (by rfl) T.m_Deed) pass0 (pk_cons (pv 3) pk_nil)))
      (pss_cons (ps_if (pt_cmpR (op_neG mon_flat eqG_flat (hr.mono (by decide))) (pe_lst (pa_cons (pe_callB call_isi (by rfl) (T.bn _ (by decide +kernel)) (by decide +kernel) (pa_cons (pv 8) (pa_cons (pe_gref (by rfl) T.m_Use) pa_nil))) (pa_cons (pe_callB call_isi (by rfl) (T.bn _ (by decide +kernel)) (by decide +kernel) (pa_cons (pv 8) (pa_cons (pe_gref (by rfl) T.m_Make) pa_nil))) (pa_cons (pe_callB call_isi (by rfl) (T.bn _ (by decide +kernel)) (by decide +kernel) (pa_cons (pv 8) (pa_cons (pe_gref (by rfl) T.m_Do) pa_nil))) pa_nil)))) (pe_slice sl_list (pv 7) (po_some pe_int) po_none) (nomark _)) (pss_one (ps_ret pe_bl)) pss_nil)
      (pss_cons (ps_if ((pw_or (pt_cmpR (op_neD hr.units) ((pe_prp c_uses (hr.mono (by decide)) pass0) (pv 8)) ((pe_prp c_uses (hr.mono (by decide)) pass0) (pv 2)) (nomark _)) (pw_or (pt_cmpR op_ne ((pe_prp c_makes (hr.mono (by decide)) pass0) (pv 8)) (pv 0) (nomark _)) (pw_or (pt_cmpR (op_neO rE hfe (hr.mono (by decide)) pass0) (pv 8) (pv 2) (nomark _)) (pw_or1 (pt_not (pt_cmpR (op_eqO rE hfe (hr.mono (by decide)) pass0) (pe_clm c_Deed_read (hr.mono (by decide)) (pe_gref (by rfl) T.m_Deed) pass0 (pa_cons (pv 3) pa_nil)) (pv 2) (nomark _)))))))).pt (pss_one (ps_ret pe_bl)) pss_nil)
      (pss_cons (ps_set (i := 9) sc__law_right.nd rfl (by first | exact Or.inl rfl | exact Or.inr rfl) (pe_lst (pa_cons (pe_cmpR (op_eqO rE hfe (hr.mono (by decide)) pass0) (pv 2) (pv 3) (nomark _)) (pa_cons (pe_cmpR (op_neO rE hfe (hr.mono (by decide)) pass0) (pv 2) (pv 3) (nomark _)) (pa_cons (pe_cmpR (op_eqO rE hfe (hr.mono (by decide)) pass0) (pv 2) (pe_tup (pa_cons (pv 0) (pa_cons (pv 1) pa_nil))) (nomark _)) pa_nil)))))
      (pss_one (ps_ret (pe_cmpR op_eq (pe_callB (call_repr hgd hr hsys) (by rfl) (T.bn _ (by decide +kernel)) (by decide +kernel) (pa_cons (pv 9) pa_nil)) (pe_callB (call_repr hgd hr hsys) (by rfl) (T.bn _ (by decide +kernel)) (by decide +kernel) (pa_cons (pe_lst (pa_cons pe_bl (pa_cons pe_bl (pa_cons pe_bl pa_nil)))) pa_nil)) (nomark _)))))))))))))), ?_⟩
    refine ⟨_, rfl, _, rfl, d, l, rfl, hl, hg, fun a H1 e1 na h1 => ⟨_, rfl, _, rfl, d, l, rfl, e1 _ _ hl, hg, fun H2 e2 => ⟨_, _, rfl, ?_⟩⟩⟩
    have hd2 := h1.ext e2
    have E2 := e1.trans e2
    have l2 := E2 _ _ hl
    -- its names, ascending
    refine ⟨fun σ' H' => ∃ (q : Addr) (ys : List Str) (x : Option V), σ' = [some (madeV d), some (.ref l), some (.ref a), some (.str (textD d)), some (.ref q), x, none, none, none, none] ∧ Ext H2 H' ∧ H' q = some (.lst (ys.map V.str)) ∧ Asc (d.2 ++ d.1.toList) ys, ?_, ?_⟩
    · obtain ⟨m, us⟩ := d
      cases m with
      | none =>
        obtain ⟨u, r0, rfl⟩ : ∃ u r0, us = u :: r0 := by
          cases us with
          | nil => exact absurd rfl (hg.ne rfl)
          | cons u r => exact ⟨u, r, rfl⟩
        have h3 : r0.length + 1 ≤ 3 := h3
        refine ⟨_, rfl, _, rfl, false, rfl, ?_⟩
        refine iteF ?_
        refine ⟨_, rfl, l, _, 0, .str u, rfl, rfl, SqL.of l2, atI_nat (j := 0) rfl, (by show 1 ≤ sizeLine; decide), fun b nb => ⟨l, b, _, _, rfl, rfl, Ext.upd nb _ _ l2, upd_same, by rw [List.length_map]; simp only [List.length_cons, List.length_nil]; omega, fun r nr => ?_⟩⟩
        have e4 := (Ext.upd (o := HO.lst [.str u]) nb).trans (Ext.upd (o := HO.lst (((u :: r0).map V.str) ++ [.str u])) nr)
        have fr : (upd (upd H2 b (.lst [.str u])) r (.lst (((u :: r0).map V.str) ++ [.str u]))) r = some (.lst (((u :: r0) ++ [u]).map V.str)) := by rw [upd_same, List.map_append]; rfl
        generalize (upd (upd H2 b (.lst [.str u])) r (.lst (((u :: r0).map V.str) ++ [.str u]))) = H4 at e4 fr
        refine ⟨r, rfl, ⟨_, SqL.of fr⟩, fun D hD => ?_⟩
        have lz : (((u :: r0) ++ [u]).map V.str).length = ((u :: r0) ++ [u]).length := List.length_map _
        have lz4 : ((u :: r0) ++ [u]).length ≤ 4 := by simp only [List.length_append, List.length_cons, List.length_nil]; omega
        refine lc_map (walk_list (xs := ((u :: r0) ++ [u]).map V.str)) [D] (by simp) (fun H' => Ext H4 H') (fun j y _ => ∃ z, ((u :: r0) ++ [u])[j]? = some z ∧ y = .str z) (by omega) (fun _ _ _ _ _ h => h)
          (fun H' o hh b o' z => by rw [upd_ne (ne_of_none z hD)]; exact hh b o' z) (Ext.upd hD) (fun H' _ hh => SqL.of (hh _ _ fr)) ?_ ?_
        · rintro j x H8 _ acc C hj e hh8 hD8 ⟨rfl, hx⟩ hC
          rw [List.getElem?_map] at hx
          obtain ⟨y, hy, rfl⟩ := Option.map_eq_some_iff.mp hx
          exact ⟨rfl, _, rfl, _, rfl, hC _ _ hD8 Ext.rfl' hh8 ⟨y, hy, rfl⟩⟩
        · intro H8 ys e hh8 hD8 hlen8 hy8
          have hzs := list_of_get (by rw [lz] at hlen8; exact hlen8) hy8
          subst hzs
          refine ⟨D, (u :: r0) ++ [u], rfl, SqL.of hD8, by omega, fun S M1 nS nd lM mM => ?_⟩
          refine ⟨S, M1, rfl, upd_same, by omega, fun ys p pm so np => ?_⟩
          refine ⟨p, ys, _, rfl, e4.trans (hh8.trans ((Ext.upd nS).trans (Ext.upd np))), upd_same, pm.nodup_iff.mpr nd, so, fun y => ?_⟩
          rw [pm.mem_iff, mM]
          simp only [List.mem_append, List.mem_cons, List.not_mem_nil, or_false, Option.toList]
          exact ⟨fun h => (by rcases h with (h | h) | h <;> simp [h]), fun h => .inl h⟩
      | some z =>
        have h3 : us.length ≤ 3 := h3
        have zl := name_len (hg.mn z rfl)
        refine ⟨_, rfl, _, rfl, true, ⟨by omega, ?_⟩, ?_⟩
        · symm
          exact bne_iff_ne.mpr (by omega)
        refine iteT ?_
        refine ⟨(by show 1 ≤ sizeLine; decide), fun b nb => ⟨l, b, _, _, rfl, rfl, Ext.upd nb _ _ l2, upd_same, by rw [List.length_map]; simp; omega, fun r nr => ?_⟩⟩
        have e4 : Ext H2 (upd (upd H2 b (HO.lst [madeV (some z, us)])) r (HO.lst (List.map V.str (some z, us).snd ++ [madeV (some z, us)]))) := (Ext.upd nb).trans (Ext.upd nr)
        have fr : (upd (upd H2 b (HO.lst [madeV (some z, us)])) r (HO.lst (List.map V.str (some z, us).snd ++ [madeV (some z, us)]))) r = some (.lst ((us ++ [z]).map V.str)) := by rw [upd_same, List.map_append]; rfl
        generalize (upd (upd H2 b (HO.lst [madeV (some z, us)])) r (HO.lst (List.map V.str (some z, us).snd ++ [madeV (some z, us)]))) = H4 at e4 fr
        refine ⟨r, rfl, ⟨_, SqL.of fr⟩, fun D hD => ?_⟩
        have lz : ((us ++ [z]).map V.str).length = (us ++ [z]).length := List.length_map _
        have lz4 : (us ++ [z]).length ≤ 4 := by simp only [List.length_append, List.length_cons, List.length_nil]; omega
        refine lc_map (walk_list (xs := (us ++ [z]).map V.str)) [D] (by simp) (fun H' => Ext H4 H') (fun j y _ => ∃ z', (us ++ [z])[j]? = some z' ∧ y = .str z') (by omega) (fun _ _ _ _ _ h => h)
          (fun H' o hh b o' z => by rw [upd_ne (ne_of_none z hD)]; exact hh b o' z) (Ext.upd hD) (fun H' _ hh => SqL.of (hh _ _ fr)) ?_ ?_
        · rintro j x H8 _ acc C hj e hh8 hD8 ⟨rfl, hx⟩ hC
          rw [List.getElem?_map] at hx
          obtain ⟨y, hy, rfl⟩ := Option.map_eq_some_iff.mp hx
          exact ⟨rfl, _, rfl, _, rfl, hC _ _ hD8 Ext.rfl' hh8 ⟨y, hy, rfl⟩⟩
        · intro H8 ys e hh8 hD8 hlen8 hy8
          have hzs := list_of_get (by rw [lz] at hlen8; exact hlen8) hy8
          subst hzs
          refine ⟨D, us ++ [z], rfl, SqL.of hD8, by omega, fun S M1 nS nd lM mM => ?_⟩
          refine ⟨S, M1, rfl, upd_same, by omega, fun ys p pm so np => ?_⟩
          refine ⟨p, ys, _, rfl, e4.trans (hh8.trans ((Ext.upd nS).trans (Ext.upd np))), upd_same, pm.nodup_iff.mpr nd, so, fun y => ?_⟩
          rw [pm.mem_iff, mM]
          rfl
    · rintro σ' H3 ⟨q, ys, x, rfl, e3, hq3, as3⟩
      have hd3 := hd2.ext e3
      obtain ⟨dx, fs', t1, t2, ha3, _⟩ := id hd3
      have hin := clsD_in CU CM CO d
      refine ⟨_, rfl, a, _, dx, _, rfl, ha3, hin, a, d, rfl, hd3, fun tu htu => ?_⟩
      refine ⟨_, rfl, a, _, dx, _, rfl, ha3, hin, a, d, rfl, hd3, ?_⟩
      refine ⟨_, rfl, a, _, dx, _, rfl, ha3, hin, a, d, rfl, hd3, hg, fun tn yn H4 asn e4 hn => ?_⟩
      obtain rfl : ys = yn := as3.uniq asn (fun _ => Iff.rfl)
      refine ⟨_, rfl, a, _, dx, _, rfl, e4 _ _ ha3, hin, a, d, rfl, hd3.ext e4, hg, fun yr H5 asr e5 => ?_⟩
      obtain rfl : ys = yr := as3.uniq asr (fun _ => Iff.rfl)
      have e35 := e4.trans e5
      refine ⟨_, rfl, a, _, dx, _, rfl, e35 _ _ ha3, (TC d).st, a, d, rfl, hd3.ext e35, hg, _, rfl, (by show 5 ≤ sizeLine; decide), fun tld nt => ?_⟩
      have f6 : (upd H5 tld (.lst [.ref tu, madeV d, .ref tn, .int ys.length, .str (textD d)])) tld = some (.lst [.ref tu, madeV d, .ref tn, .int ys.length, .str (textD d)]) := upd_same
      have e6 : Ext H5 (upd H5 tld (.lst [.ref tu, madeV d, .ref tn, .int ys.length, .str (textD d)])) := Ext.upd nt
      generalize (upd H5 tld (.lst [.ref tu, madeV d, .ref tn, .int ys.length, .str (textD d)])) = H6 at f6 e6
      have e36 := e35.trans e6
      have hsh := told_shw hg as3
      have tm : ∀ {H' : Hp}, TV H' (madeV d) (madeD d) := fun {H'} => madeV_tv d
      refine ⟨_, rfl, _, toldD d ys, rfl, .lst f6 (.cons (.tup (e36 _ _ htu) (tvs_strs _)) (.cons tm (.cons (.tup (e6 _ _ (e5 _ _ (nw_some hn).2)) (tvs_strs _)) (.cons (.int _) (.cons (.str _) .nil))))), hsh.sh, Nat.le_trans hsh.dp (by decide), Nat.le_trans hsh.ln (by decide), ?_⟩
      have E26 := e3.trans e36
      have l6 := E26 _ _ l2
      have q6 := e36 _ _ hq3
      refine ⟨_, rfl, l, _, rfl, .inl ⟨SqL.of l6, fun s1 ns1 => ⟨_, rfl, _, rfl, q, _, rfl, .inl ⟨SqL.of (Ext.upd ns1 _ _ q6), fun s2 ns2 => ?_⟩⟩⟩⟩
      have g6 := (Ext.upd (o := HO.tup (d.2.map V.str)) ns1).trans (Ext.upd (o := HO.tup (ys.map V.str)) ns2)
      refine ⟨_, rfl, q, _, rfl, .inl (SqL.of (g6 _ _ q6)), ?_⟩
      rw [List.length_map]
      refine ⟨_, rfl, (by show 5 ≤ sizeLine; decide), fun s3 ns3 => ?_⟩
      have g7 := g6.trans (Ext.upd (o := HO.lst [.ref s1, madeV d, .ref s2, .int ys.length, .str (textD d)]) ns3)
      have r2 : (upd (upd H6 s1 (.tup (d.2.map V.str))) s2 (.tup (ys.map V.str))) s2 = some (.tup (ys.map V.str)) := upd_same
      have r1 : (upd (upd H6 s1 (.tup (d.2.map V.str))) s2 (.tup (ys.map V.str))) s1 = some (.tup (d.2.map V.str)) := by rw [upd_ne (ne_of_none upd_same ns2)]; exact upd_same
      refine ⟨_, toldD d ys, rfl, .lst upd_same (.cons (.tup (Ext.upd ns3 _ _ r1) (tvs_strs _)) (.cons tm (.cons (.tup (Ext.upd ns3 _ _ r2) (tvs_strs _)) (.cons (.int _) (.cons (.str _) .nil))))), hsh.sh, Nat.le_trans hsh.dp (by decide), Nat.le_trans hsh.ln (by decide), rfl, _, rfl, ?_⟩
      refine iteNo (by rw [decide_eq_true rfl]; rfl) ?_
      generalize (upd (upd (upd H6 s1 (.tup (d.2.map V.str))) s2 (.tup (ys.map V.str))) s3 (.lst [.ref s1, madeV d, .ref s2, .int ys.length, .str (textD d)])) = H7 at g7
      have E27 := E26.trans g7
      -- its kinds
      have hd7 := hd2.ext E27
      obtain ⟨dx7, fs7, v1, v2, ha7, _⟩ := id hd7
      have C := TC d
      have ty : ∀ {H' : Hp}, Ext H7 H' → TyX K H' (.ref a) (.ref (clsD CU CM CO d)) := fun e => .base (.ins (e _ _ ha7) C.cd.cl C.ha C.hn C.htk C.hm)
      refine ⟨_, rfl, _, _, _, _, true, rfl, .own CD, ty Ext.rfl', C.kit, _, rfl, _, _, _, _, _, rfl, .own CU, ty Ext.rfl', (TK d hg).u, _, rfl, _, _, _, _, _, rfl, .own CM, ty Ext.rfl', (TK d hg).m, _, rfl, _, _, _, _, _, rfl, .own CO, ty Ext.rfl', (TK d hg).o, (by show 4 ≤ sizeLine; decide), fun kd nkd => ?_⟩
      have f8 : (upd H7 kd (.lst [.bl true, .bl (!d.2.isEmpty), .bl d.1.isSome, .bl (!d.2.isEmpty && d.1.isSome)])) kd = some (.lst [.bl true, .bl (!d.2.isEmpty), .bl d.1.isSome, .bl (!d.2.isEmpty && d.1.isSome)]) := upd_same
      have e8 : Ext H7 (upd H7 kd (.lst [.bl true, .bl (!d.2.isEmpty), .bl d.1.isSome, .bl (!d.2.isEmpty && d.1.isSome)])) := Ext.upd nkd
      generalize (upd H7 kd (.lst [.bl true, .bl (!d.2.isEmpty), .bl d.1.isSome, .bl (!d.2.isEmpty && d.1.isSome)])) = H8 at f8 e8
      have l8 := e8 _ _ ((E2.trans E27) _ _ hl)
      refine ⟨fun σ' H' => σ' = [some (madeV d), some (.ref l), some (.ref a), some (.str (textD d)), some (.ref q), x, some (.ref tld), some (.ref kd), none, none] ∧ Ext H8 H', ?_, ?_⟩
      · obtain ⟨m, us⟩ := d
        refine ⟨_, rfl, _, rfl, (by show 0 ≤ sizeLine; decide), fun z1 n1 => ⟨l, z1, _, rfl, rfl, Ext.upd n1 _ _ l8, upd_same, ?_⟩⟩
        refine ⟨_, rfl, rfl, _, rfl, (by show 0 ≤ sizeLine; decide), fun z2 n2 => ?_⟩
        have e10 := (Ext.upd (o := HO.lst []) n1).trans (Ext.upd (o := HO.lst []) n2)
        refine ⟨l, z2, _, rfl, rfl, e10 _ _ l8, upd_same, _, rfl, ?_⟩
        generalize (upd (upd H8 z1 (.lst [])) z2 (.lst [])) = H10 at e10
        have f10 := e10 _ _ f8
        cases us with
        | nil =>
          refine iteNo rfl ?_
          refine ⟨(by show 4 ≤ sizeLine; decide), fun kl nkl => ⟨⟨kd, kl, _, _, rfl, rfl, Ext.upd nkl _ _ f10, upd_same, ?_⟩, fun H11 e11 => ⟨_, rfl, ?_⟩⟩⟩
          · cases m <;> exact .cons ⟨rfl, rfl, rfl⟩ (.cons ⟨rfl, rfl, rfl⟩ (.cons ⟨rfl, rfl, rfl⟩ (.cons ⟨rfl, rfl, rfl⟩ .nil)))
          · refine iteF ?_
            exact ⟨rfl, e10.trans ((Ext.upd nkl).trans e11)⟩
        | cons u r =>
          refine iteYes rfl ?_
          refine ⟨_, rfl, rfl, (by show 4 ≤ sizeLine; decide), fun kl nkl => ⟨⟨kd, kl, _, _, rfl, rfl, Ext.upd nkl _ _ f10, upd_same, ?_⟩, fun H11 e11 => ⟨_, rfl, ?_⟩⟩⟩
          · cases m <;> exact .cons ⟨rfl, rfl, rfl⟩ (.cons ⟨rfl, rfl, rfl⟩ (.cons ⟨rfl, rfl, rfl⟩ (.cons ⟨rfl, rfl, rfl⟩ .nil)))
          · refine iteF ?_
            exact ⟨rfl, e10.trans ((Ext.upd nkl).trans e11)⟩
      · rintro σ' H9 ⟨rfl, e9⟩
        refine ⟨rfl, _, rfl, _, rfl, _, d, rfl, hg, fun b H10 e10 nb hb => ?_⟩
        obtain ⟨dxb, fsb, w1, w2, hb10, _⟩ := id hb
        have tyb : ∀ {H' : Hp}, Ext H10 H' → TyX K H' (.ref b) (.ref (clsD CU CM CO d)) := fun e => .base (.ins (e _ _ hb10) C.cd.cl C.ha C.hn C.htk C.hm)
        refine ⟨_, rfl, _, _, _, _, _, rfl, .own CU, tyb Ext.rfl', (TK d hg).u, _, rfl, _, _, _, _, _, rfl, .own CM, tyb Ext.rfl', (TK d hg).m, _, rfl, _, _, _, _, _, rfl, .own CO, tyb Ext.rfl', (TK d hg).o, (by show 3 ≤ sizeLine; decide), fun k1 nk1 => ?_⟩
        have f10 := e10 _ _ (e9 _ _ f8)
        refine ⟨_, rfl, 1, rfl, kd, _, rfl, SqL.of (Ext.upd nk1 _ _ f10), fun k2 nk2 => ?_⟩
        refine ⟨⟨k1, k2, _, _, rfl, rfl, by rw [upd_ne (ne_of_none upd_same nk2)]; exact upd_same, upd_same, ?_⟩, fun H11 e11 => ⟨_, rfl, ?_⟩⟩
        · rw [cutV_from _ (show (0 : Int) ≤ 1 by decide)]
          exact .cons ⟨rfl, rfl, by cases (!d.2.isEmpty) <;> rfl⟩ (.cons ⟨rfl, rfl, by cases d.1.isSome <;> rfl⟩ (.cons ⟨rfl, rfl, by cases (!d.2.isEmpty && d.1.isSome) <;> rfl⟩ .nil))
        refine iteF ?_
        have e1011 : Ext H10 H11 := (Ext.upd nk1).trans ((Ext.upd nk2).trans e11)
        have hb11 := hb.ext e1011
        have ha11 : DeedAt (clsD CU CM CO) H11 a d := (hd7.ext (e8.trans (e9.trans (e10.trans e1011))))
        obtain ⟨dxa, fsa, y1, y2, iA, _⟩ := id ha11
        have iB := e1011 _ _ hb10
        have so : ∀ z ∈ d.2, PyData.strOk z = true := fun z hz => name_sok (hg.nm z hz)
        refine ⟨_, rfl, b, _, dxb, _, rfl, iB, hin, b, d, rfl, hb11, fun tb htb => ⟨_, rfl, a, _, dxa, _, rfl, iA, hin, a, d, rfl, ha11, fun ta hta => ?_⟩⟩
        refine ⟨_, _, .tup (SqT.of htb) (dp_strs _), .tup (SqT.of hta) (dp_strs _), shaped_strs _ so, shaped_strs _ so, _, rfl, ?_⟩
        refine iteNo (by rw [eqv_strs _ so]; rfl) ?_
        refine ⟨_, rfl, b, _, dxb, _, rfl, iB, hin, b, d, rfl, hb11, _, rfl, (by obtain ⟨m, us⟩ := d; cases m <;> rfl), _, rfl, ?_⟩
        refine iteNo (by rw [decide_eq_true rfl]; rfl) ?_
        have tya : TyX K H11 (.ref a) (.ref (clsD CU CM CO d)) := .base (.ins iA C.cd.cl C.ha C.hn C.htk C.hm)
        refine ⟨_, rfl, _, rfl, b, _, dxb, _, _, rfl, iB, C.eq, (TK d hg).ne, C.hm, tya, (TK d hg).nf, b, .ref a, d, rfl, hb11, hg, .inl ⟨a, d, rfl, ha11, hg, _, rfl, _, rfl, ?_⟩⟩
        refine iteNo (by rw [decide_eq_true rfl]; rfl) ?_
        refine ⟨rfl, _, rfl, _, d, rfl, hg, fun b2 H12 e12 nb2 hb2 => ?_⟩
        obtain ⟨dxc, fsc, c1, c2, iC, _⟩ := id hb2
        have ha12 := ha11.ext e12
        have iA12 := e12 _ _ iA
        have tya : ∀ {H' : Hp}, Ext H12 H' → TyX K H' (.ref a) (.ref (clsD CU CM CO d)) := fun e => .base (.ins (e _ _ iA12) C.cd.cl C.ha C.hn C.htk C.hm)
        refine ⟨_, rfl, b2, _, dxc, _, _, rfl, iC, C.eq, tya Ext.rfl', (TK d hg).nf, b2, .ref a, d, rfl, hb2, hg, .inl ⟨a, d, rfl, ha12, hg, _, rfl, _, rfl, ?_⟩⟩
        refine iteNo (by rw [decide_eq_true rfl]; rfl) ?_
        -- the marks
        have tyS : TyX K H12 (.str (textD d)) (.type "str") := .base (.str _)
        refine ⟨_, rfl, _, rfl, a, _, dxa, _, _, rfl, iA12, C.eq, tyS, (TK d hg).ns, a, .str (textD d), d, rfl, ha12, hg, .inr ⟨_, tyS, kS, _, rfl, ?_⟩⟩
        refine ⟨_, rfl, _, rfl, a, _, dxa, _, _, rfl, iA12, C.eq, (TK d hg).ne, C.hm, tyS, (TK d hg).ns, a, .str (textD d), d, rfl, ha12, hg, .inr ⟨_, tyS, kS, _, rfl, ?_⟩⟩
        refine ⟨_, rfl, _, rfl, _, rfl, (by show 2 ≤ sizeLine; decide), fun tp ntp => ?_⟩
        have x13 : Ext H12 (upd H12 tp (.tup [madeV d, .ref l])) := Ext.upd ntp
        have tyT : TyX K (upd H12 tp (.tup [madeV d, .ref l])) (.ref tp) (.type "tuple") := .base (.tup upd_same)
        generalize (upd H12 tp (.tup [madeV d, .ref l])) = H13 at x13 tyT
        refine ⟨a, _, dxa, _, _, rfl, x13 _ _ iA12, C.eq, tyT, (TK d hg).nt, a, .ref tp, d, rfl, ha12.ext x13, hg, .inr ⟨_, tyT, kT, _, rfl, ?_⟩⟩
        refine ⟨(by show 3 ≤ sizeLine; decide), fun m1 nm1 => ?_⟩
        have sh : Shw 100 (.list [.bool false, .bool true, .bool false]) := ⟨rfl, by decide, by decide +kernel⟩
        have x14 : Ext H13 (upd H13 m1 (.lst [.bl false, .bl (!false), .bl false])) := Ext.upd nm1
        refine ⟨_, rfl, _, _, rfl, .lst upd_same (.cons (.bl _) (.cons (.bl _) (.cons (.bl _) .nil))), sh.sh, Nat.le_trans sh.dp (by decide), Nat.le_trans sh.ln (by decide), (by show 3 ≤ sizeLine; decide), fun m2 nm2 => ?_⟩
        refine ⟨_, _, rfl, .lst upd_same (.cons (.bl _) (.cons (.bl _) (.cons (.bl _) .nil))), sh.sh, Nat.le_trans sh.dp (by decide), Nat.le_trans sh.ln (by decide), rfl, ?_⟩
        have eq1 : (decide (V.str (PyData.list [PyData.bool false, PyData.bool (!false), PyData.bool false]).shown = V.str (PyData.list [PyData.bool false, PyData.bool true, PyData.bool false]).shown)) = true := decide_eq_true rfl
        rw [eq1]
        exact k _ (E2.trans (E27.trans (e8.trans (e9.trans (e10.trans (e1011.trans (e12.trans (x13.trans (x14.trans (Ext.upd nm2))))))))))
end
end K01
end
section
set_option Elab.async false
set_option autoImplicit false
set_option linter.all false
set_option maxRecDepth 100000
set_option maxHeartbeats 4000000
namespace K01
open PySem PySem.Spec PyProof.Rows L2 Ls
open C8 (pss_cut tCut)
open TL
/-! ### the errors, as data -/
abbrev Ef := Str × List (Str × Nat)
def errL : List Ef := [("BadName", [("value", 0)]), ("BadDeed", [("value", 0)]), ("BadMove", [("value", 0)]), ("BadNumber", [("value", 0)]), ("BadPrice", [("value", 0)]), ("BadPlace", [("value", 0)]), ("BadPart", [("part", 0)]), ("BadSlots", [("value", 0)]), ("BadStanding", [("value", 0)]), ("BadRule", [("value", 0)]), ("Twice", [("name", 0)]), ("TooMany", [("most", 0)]), ("Unmade", [("place", 0), ("name", 1)]), ("NoRoom", [("place", 0)]), ("MadeAgain", [("place", 0), ("name", 1)]), ("Crowded", [("place", 0)]), ("Barred", [("word", 0), ("name", 1)]), ("BadLine", [("word", 0)]), ("BadPlan", [("at", 0), ("index", 1), ("word", 2), ("name", 3)]), ("NoLoop", []), ("HasLoop", []), ("OneLoop", []), ("TwoLoops", []), ("Finished", []), ("BadText", [("line", 0), ("word", 1)])]
def fldV (vs : List V) (fs : List (Str × Nat)) : List (Str × V) := fs.map fun p => (p.1, vs.getD p.2 .non)
/-- an error that is kept -/
def ErrAt (EC : Str → Addr) (H : Hp) (e : Addr) (c : Str) (fs : List (Str × V)) : Prop := (fs = [] ∧ H e = some (exk e (.ref (EC c)) none)) ∨ ∃ dd, fs ≠ [] ∧ H e = some (exk e (.ref (EC c)) (some dd)) ∧ H dd = some (.xd fs.reverse)
theorem ErrAt.ext {EC : Str → Addr} {H H' : Hp} {e : Addr} {c : Str} {fs : List (Str × V)} (h : ErrAt EC H e c fs) (x : Ext H H') : ErrAt EC H' e c fs := by
  rcases h with ⟨h1, h2⟩ | ⟨dd, h1, h2, h3⟩
  · exact .inl ⟨h1, x _ _ h2⟩
  · exact .inr ⟨dd, h1, x _ _ h2, x _ _ h3⟩
/-- an error, its title, what it must tell -/
def ItAt (EC : Str → Addr) (vs : List V) (H : Hp) (v : V) (x : Ef) : Prop := ∃ t e dk, v = .ref t ∧ H t = some (.tup [.ref e, .str x.1, .ref dk]) ∧ ErrAt EC H e x.1 (fldV vs x.2) ∧ H dk = some (.dK ((fldV vs x.2).map fun p => (Sum.inr p.1, p.2)))
theorem ItAt.ext {EC : Str → Addr} {vs : List V} {H H' : Hp} {v : V} {x : Ef} (h : ItAt EC vs H v x) (e : Ext H H') : ItAt EC vs H' v x := let ⟨t, a, dk, h1, h2, h3, h4⟩ := h; ⟨t, a, dk, h1, e _ _ h2, h3.ext e, e _ _ h4⟩
/-- what the top says of an error class -/
structure EcK (K : PySem.W.Frag) (CE C : Addr) (fs : List Str) : Prop where
  ec : ExcC K C
  xf : fs ≠ [] → XfC K C
  no : ∀ f ∈ fs, PySem.W.findIn K (.ref C) f = some none
  kv : PySem.W.kitOne K (.ref C) (.type "ValueError") = some true
  ks : PySem.W.kitOne K (.ref C) (.ref CE) = some true
  kn : PySem.W.kitAny K (.ref C) [.type "LookupError", .type "ArithmeticError", .type "TypeError", .type "RuntimeError", .type "AttributeError"] = some false
theorem paired_app {α β : Type} {F : α → β → Prop} : ∀ {l₁ m₁ : List α} {l₂ m₂ : List β}, Paired F l₁ l₂ → Paired F m₁ m₂ → Paired F (l₁ ++ m₁) (l₂ ++ m₂)
  | _, _, _, _, .nil, h => h
  | _, _, _, _, .cons r t, h => .cons r (paired_app t h)
section
variable {P : Program} {w : World} {K : PySem.W.Frag} {mg : Str → Option Value} {base : Heap} {EC : Str → Addr} {CE CD CU CM CO : Addr} {tL tN tU : Tok}
/-! ### _law_field -/
def sortsF : List Str := ["value", "part", "name", "most", "place", "word", "at", "index", "line"]
def spField (K : PySem.W.Frag) : Sp := fun vs H Q _ => ∃ (e C dd : Addr) (xs : List (Str × V)) (f : Str) (v : V), vs = [.ref e, .str f] ∧ H e = some (exk e (.ref C) (some dd)) ∧ XfC K C ∧ PySem.W.findIn K (.ref C) f = some none ∧ H dd = some (.xd xs) ∧ xs.lookup f = some v ∧ f ∈ sortsF ∧ ∀ H', Ext H H' → Q v H'
abbrev s__law_field : Stmt := top 53
abbrev N__law_field : List Str := ["_law_error", "_law_sort"]
theorem sc__law_field : FnScope N__law_field ["_law_error", "_law_sort"] (defScope s__law_field) := ⟨rfl, rfl, rfl, by decide +kernel, rfl, by decide +kernel, by decide +kernel⟩
theorem ok_field {f : Addr} {fd : FuncData} (F : Fun K "_law_field" "_law_field" s__law_field f fd) (T : Tx K mg EC CE CD CU CM CO tL tN tU) : FnOk P w K mg base CX0 1 f fd ["_law_error", "_law_sort"] (spField K) := by
  refine F.ok sc__law_field (fun vs H Q E h => ?_) (fun cdv A outer s H vs Q E hr h => ?_)
  · obtain ⟨e, C, dd, xs, f, v, rfl, _⟩ := h
    rfl
  · obtain ⟨e, C, dd, xs, f, v, rfl, he, hx, hno, hd, hl, hf, k⟩ := h
    refine ⟨_, (pss_cons (ps_if (pt_cmpR op_in_seq (pv 1) (pe_tup (pa_cons pe_str (pa_cons pe_str pa_nil))) rfl) (pss_one (ps_ret (pe_ifExp (pt_cmpR op_eq (pv 1) pe_str (nomark _)) (pe_xk (pv 0)) (pe_xk (pv 0))))) pss_nil)
      (pss_cons (ps_if (pt_cmpR op_in_seq (pv 1) (pe_tup (pa_cons pe_str (pa_cons pe_str pa_nil))) rfl) (pss_one (ps_ret (pe_ifExp (pt_cmpR op_eq (pv 1) pe_str (nomark _)) (pe_xk (pv 0)) (pe_xk (pv 0))))) pss_nil)
      (pss_cons (ps_if (pt_cmpR op_in_seq (pv 1) (pe_tup (pa_cons pe_str (pa_cons pe_str pa_nil))) rfl) (pss_one (ps_ret (pe_ifExp (pt_cmpR op_eq (pv 1) pe_str (nomark _)) (pe_xk (pv 0)) (pe_xk (pv 0))))) pss_nil)
      (pss_cons (ps_if (pt_cmpR op_in_seq (pv 1) (pe_tup (pa_cons pe_str (pa_cons pe_str pa_nil))) rfl) (pss_one (ps_ret (pe_ifExp (pt_cmpR op_eq (pv 1) pe_str (nomark _)) (pe_xk (pv 0)) (pe_xk (pv 0))))) pss_nil)
      (pss_one (ps_ret (pe_xk (pv 0)))))))), ?_⟩
    simp only [sortsF, List.mem_cons, List.not_mem_nil, or_false] at hf
    rcases hf with rfl | rfl | rfl | rfl | rfl | rfl | rfl | rfl | rfl
    · have x0 : Ext H H := Ext.rfl'
      refine ⟨_, rfl, (by show 2 ≤ sizeLine; decide), fun t0 n0 => ⟨_, _, rfl, .inr (SqT.of upd_same), rfl, rfl, _, rfl, ?_⟩⟩
      have x1 := x0.trans (Ext.upd (o := HO.tup [.str "value", .str "part"]) n0)
      refine iteYes (by decide +kernel) ?_
      refine ⟨_, rfl, rfl, _, rfl, ?_⟩
      refine iteYes (by decide +kernel) ?_
      have x := x1
      exact ⟨_, rfl, e, _, dd, _, _, rfl, x _ _ he, hx, hno, x _ _ hd, hl, k _ x⟩
    · have x0 : Ext H H := Ext.rfl'
      refine ⟨_, rfl, (by show 2 ≤ sizeLine; decide), fun t0 n0 => ⟨_, _, rfl, .inr (SqT.of upd_same), rfl, rfl, _, rfl, ?_⟩⟩
      have x1 := x0.trans (Ext.upd (o := HO.tup [.str "value", .str "part"]) n0)
      refine iteYes (by decide +kernel) ?_
      refine ⟨_, rfl, rfl, _, rfl, ?_⟩
      refine iteNo (by decide +kernel) ?_
      have x := x1
      exact ⟨_, rfl, e, _, dd, _, _, rfl, x _ _ he, hx, hno, x _ _ hd, hl, k _ x⟩
    · have x0 : Ext H H := Ext.rfl'
      refine ⟨_, rfl, (by show 2 ≤ sizeLine; decide), fun t0 n0 => ⟨_, _, rfl, .inr (SqT.of upd_same), rfl, rfl, _, rfl, ?_⟩⟩
      have x1 := x0.trans (Ext.upd (o := HO.tup [.str "value", .str "part"]) n0)
      refine iteNo (by decide +kernel) ?_
      refine ⟨_, rfl, (by show 2 ≤ sizeLine; decide), fun t1 n1 => ⟨_, _, rfl, .inr (SqT.of upd_same), rfl, rfl, _, rfl, ?_⟩⟩
      have x2 := x1.trans (Ext.upd (o := HO.tup [.str "name", .str "most"]) n1)
      refine iteYes (by decide +kernel) ?_
      refine ⟨_, rfl, rfl, _, rfl, ?_⟩
      refine iteYes (by decide +kernel) ?_
      have x := x2
      exact ⟨_, rfl, e, _, dd, _, _, rfl, x _ _ he, hx, hno, x _ _ hd, hl, k _ x⟩
    · have x0 : Ext H H := Ext.rfl'
      refine ⟨_, rfl, (by show 2 ≤ sizeLine; decide), fun t0 n0 => ⟨_, _, rfl, .inr (SqT.of upd_same), rfl, rfl, _, rfl, ?_⟩⟩
      have x1 := x0.trans (Ext.upd (o := HO.tup [.str "value", .str "part"]) n0)
      refine iteNo (by decide +kernel) ?_
      refine ⟨_, rfl, (by show 2 ≤ sizeLine; decide), fun t1 n1 => ⟨_, _, rfl, .inr (SqT.of upd_same), rfl, rfl, _, rfl, ?_⟩⟩
      have x2 := x1.trans (Ext.upd (o := HO.tup [.str "name", .str "most"]) n1)
      refine iteYes (by decide +kernel) ?_
      refine ⟨_, rfl, rfl, _, rfl, ?_⟩
      refine iteNo (by decide +kernel) ?_
      have x := x2
      exact ⟨_, rfl, e, _, dd, _, _, rfl, x _ _ he, hx, hno, x _ _ hd, hl, k _ x⟩
    · have x0 : Ext H H := Ext.rfl'
      refine ⟨_, rfl, (by show 2 ≤ sizeLine; decide), fun t0 n0 => ⟨_, _, rfl, .inr (SqT.of upd_same), rfl, rfl, _, rfl, ?_⟩⟩
      have x1 := x0.trans (Ext.upd (o := HO.tup [.str "value", .str "part"]) n0)
      refine iteNo (by decide +kernel) ?_
      refine ⟨_, rfl, (by show 2 ≤ sizeLine; decide), fun t1 n1 => ⟨_, _, rfl, .inr (SqT.of upd_same), rfl, rfl, _, rfl, ?_⟩⟩
      have x2 := x1.trans (Ext.upd (o := HO.tup [.str "name", .str "most"]) n1)
      refine iteNo (by decide +kernel) ?_
      refine ⟨_, rfl, (by show 2 ≤ sizeLine; decide), fun t2 n2 => ⟨_, _, rfl, .inr (SqT.of upd_same), rfl, rfl, _, rfl, ?_⟩⟩
      have x3 := x2.trans (Ext.upd (o := HO.tup [.str "place", .str "word"]) n2)
      refine iteYes (by decide +kernel) ?_
      refine ⟨_, rfl, rfl, _, rfl, ?_⟩
      refine iteYes (by decide +kernel) ?_
      have x := x3
      exact ⟨_, rfl, e, _, dd, _, _, rfl, x _ _ he, hx, hno, x _ _ hd, hl, k _ x⟩
    · have x0 : Ext H H := Ext.rfl'
      refine ⟨_, rfl, (by show 2 ≤ sizeLine; decide), fun t0 n0 => ⟨_, _, rfl, .inr (SqT.of upd_same), rfl, rfl, _, rfl, ?_⟩⟩
      have x1 := x0.trans (Ext.upd (o := HO.tup [.str "value", .str "part"]) n0)
      refine iteNo (by decide +kernel) ?_
      refine ⟨_, rfl, (by show 2 ≤ sizeLine; decide), fun t1 n1 => ⟨_, _, rfl, .inr (SqT.of upd_same), rfl, rfl, _, rfl, ?_⟩⟩
      have x2 := x1.trans (Ext.upd (o := HO.tup [.str "name", .str "most"]) n1)
      refine iteNo (by decide +kernel) ?_
      refine ⟨_, rfl, (by show 2 ≤ sizeLine; decide), fun t2 n2 => ⟨_, _, rfl, .inr (SqT.of upd_same), rfl, rfl, _, rfl, ?_⟩⟩
      have x3 := x2.trans (Ext.upd (o := HO.tup [.str "place", .str "word"]) n2)
      refine iteYes (by decide +kernel) ?_
      refine ⟨_, rfl, rfl, _, rfl, ?_⟩
      refine iteNo (by decide +kernel) ?_
      have x := x3
      exact ⟨_, rfl, e, _, dd, _, _, rfl, x _ _ he, hx, hno, x _ _ hd, hl, k _ x⟩
    · have x0 : Ext H H := Ext.rfl'
      refine ⟨_, rfl, (by show 2 ≤ sizeLine; decide), fun t0 n0 => ⟨_, _, rfl, .inr (SqT.of upd_same), rfl, rfl, _, rfl, ?_⟩⟩
      have x1 := x0.trans (Ext.upd (o := HO.tup [.str "value", .str "part"]) n0)
      refine iteNo (by decide +kernel) ?_
      refine ⟨_, rfl, (by show 2 ≤ sizeLine; decide), fun t1 n1 => ⟨_, _, rfl, .inr (SqT.of upd_same), rfl, rfl, _, rfl, ?_⟩⟩
      have x2 := x1.trans (Ext.upd (o := HO.tup [.str "name", .str "most"]) n1)
      refine iteNo (by decide +kernel) ?_
      refine ⟨_, rfl, (by show 2 ≤ sizeLine; decide), fun t2 n2 => ⟨_, _, rfl, .inr (SqT.of upd_same), rfl, rfl, _, rfl, ?_⟩⟩
      have x3 := x2.trans (Ext.upd (o := HO.tup [.str "place", .str "word"]) n2)
      refine iteNo (by decide +kernel) ?_
      refine ⟨_, rfl, (by show 2 ≤ sizeLine; decide), fun t3 n3 => ⟨_, _, rfl, .inr (SqT.of upd_same), rfl, rfl, _, rfl, ?_⟩⟩
      have x4 := x3.trans (Ext.upd (o := HO.tup [.str "at", .str "index"]) n3)
      refine iteYes (by decide +kernel) ?_
      refine ⟨_, rfl, rfl, _, rfl, ?_⟩
      refine iteYes (by decide +kernel) ?_
      have x := x4
      exact ⟨_, rfl, e, _, dd, _, _, rfl, x _ _ he, hx, hno, x _ _ hd, hl, k _ x⟩
    · have x0 : Ext H H := Ext.rfl'
      refine ⟨_, rfl, (by show 2 ≤ sizeLine; decide), fun t0 n0 => ⟨_, _, rfl, .inr (SqT.of upd_same), rfl, rfl, _, rfl, ?_⟩⟩
      have x1 := x0.trans (Ext.upd (o := HO.tup [.str "value", .str "part"]) n0)
      refine iteNo (by decide +kernel) ?_
      refine ⟨_, rfl, (by show 2 ≤ sizeLine; decide), fun t1 n1 => ⟨_, _, rfl, .inr (SqT.of upd_same), rfl, rfl, _, rfl, ?_⟩⟩
      have x2 := x1.trans (Ext.upd (o := HO.tup [.str "name", .str "most"]) n1)
      refine iteNo (by decide +kernel) ?_
      refine ⟨_, rfl, (by show 2 ≤ sizeLine; decide), fun t2 n2 => ⟨_, _, rfl, .inr (SqT.of upd_same), rfl, rfl, _, rfl, ?_⟩⟩
      have x3 := x2.trans (Ext.upd (o := HO.tup [.str "place", .str "word"]) n2)
      refine iteNo (by decide +kernel) ?_
      refine ⟨_, rfl, (by show 2 ≤ sizeLine; decide), fun t3 n3 => ⟨_, _, rfl, .inr (SqT.of upd_same), rfl, rfl, _, rfl, ?_⟩⟩
      have x4 := x3.trans (Ext.upd (o := HO.tup [.str "at", .str "index"]) n3)
      refine iteYes (by decide +kernel) ?_
      refine ⟨_, rfl, rfl, _, rfl, ?_⟩
      refine iteNo (by decide +kernel) ?_
      have x := x4
      exact ⟨_, rfl, e, _, dd, _, _, rfl, x _ _ he, hx, hno, x _ _ hd, hl, k _ x⟩
    · have x0 : Ext H H := Ext.rfl'
      refine ⟨_, rfl, (by show 2 ≤ sizeLine; decide), fun t0 n0 => ⟨_, _, rfl, .inr (SqT.of upd_same), rfl, rfl, _, rfl, ?_⟩⟩
      have x1 := x0.trans (Ext.upd (o := HO.tup [.str "value", .str "part"]) n0)
      refine iteNo (by decide +kernel) ?_
      refine ⟨_, rfl, (by show 2 ≤ sizeLine; decide), fun t1 n1 => ⟨_, _, rfl, .inr (SqT.of upd_same), rfl, rfl, _, rfl, ?_⟩⟩
      have x2 := x1.trans (Ext.upd (o := HO.tup [.str "name", .str "most"]) n1)
      refine iteNo (by decide +kernel) ?_
      refine ⟨_, rfl, (by show 2 ≤ sizeLine; decide), fun t2 n2 => ⟨_, _, rfl, .inr (SqT.of upd_same), rfl, rfl, _, rfl, ?_⟩⟩
      have x3 := x2.trans (Ext.upd (o := HO.tup [.str "place", .str "word"]) n2)
      refine iteNo (by decide +kernel) ?_
      refine ⟨_, rfl, (by show 2 ≤ sizeLine; decide), fun t3 n3 => ⟨_, _, rfl, .inr (SqT.of upd_same), rfl, rfl, _, rfl, ?_⟩⟩
      have x4 := x3.trans (Ext.upd (o := HO.tup [.str "at", .str "index"]) n3)
      refine iteNo (by decide +kernel) ?_
      have x := x4
      exact ⟨_, rfl, e, _, dd, _, _, rfl, x _ _ he, hx, hno, x _ _ hd, hl, k _ x⟩
end
end K01
end
section
set_option Elab.async false
set_option autoImplicit false
set_option linter.all false
set_option maxRecDepth 100000
set_option maxHeartbeats 4000000
namespace K01
open PySem PySem.Spec PyProof.Rows L2 Ls
open C8 (pss_cut tCut)
open TL
def errN : List Str := errL.map (·.1)
theorem mem_errN {c : Str} (i : Nat) (h : errN[i]? = some c) : c ∈ errN := List.mem_of_getElem? h
def kinN : List Str := ["BadName", "BadDeed", "BadMove", "BadNumber", "BadPrice", "BadPlace", "BadPart", "BadSlots", "BadStanding", "BadRule", "Twice", "TooMany", "Unmade", "MadeAgain", "NoRoom", "Crowded", "Barred", "BadPlan", "NoLoop", "HasLoop", "OneLoop", "TwoLoops", "Finished", "BadText", "BadLine"]
def kdD (c : Str) (ns : List Str) : List PyData := ns.map fun n => .tuple [.str n, .bool (decide (c = n))]
theorem tvs_app {H : Hp} : ∀ {xs ys : List V} {ds es : List PyData}, TVs H xs ds → TVs H ys es → TVs H (xs ++ ys) (ds ++ es)
  | _, _, _, _, .nil, h => h
  | _, _, _, _, .cons r t, h => .cons r (tvs_app t h)
theorem ErrAt.get {EC : Str → Addr} {H : Hp} {e : Addr} {c : Str} {fs : List (Str × V)} (h : ErrAt EC H e c fs) : ∃ d, ∀ H', Ext H H' → H' e = some (exk e (.ref (EC c)) d) ∧ ∀ dd, d = some dd → ∃ fs, H' dd = some (.xd fs) := by
  rcases h with ⟨_, h⟩ | ⟨dd, _, h, h2⟩
  · exact ⟨none, fun H' x => ⟨x _ _ h, fun _ z => nomatch z⟩⟩
  · exact ⟨some dd, fun H' x => ⟨x _ _ h, fun _ z => by cases z; exact ⟨_, x _ _ h2⟩⟩⟩
theorem kd_upd {H : Hp} {L : Addr} {zs : List V} {o : HO} {c : Str} (hL : H L = some (.lst zs)) : ∀ {ns : List Str} {xs : List V}, TVs H xs (kdD c ns) → TVs (upd H L o) xs (kdD c ns)
  | [], _, h => by cases h; exact .nil
  | n :: ns, _, h => by
    cases h with
    | cons h t =>
      refine .cons ?_ (kd_upd hL t)
      cases h with
      | tup e h =>
        refine .tup (by rw [upd_ne (ne_of e hL (by intro z; cases z))]; exact e) ?_
        cases h with
        | cons h1 h =>
          cases h1
          cases h with
          | cons h2 h =>
            cases h2
            cases h
            exact .cons (.str _) (.cons (.bl _) .nil)
theorem only_one {c : Str} : ∀ {ns : List Str}, ns.Nodup → c ∈ ns → ns.filter (fun n => decide (c = n)) = [c]
  | [], _, h => absurd h List.not_mem_nil
  | n :: r, nd, h => by
    obtain ⟨h1, h2⟩ := List.nodup_cons.mp nd
    by_cases e : c = n
    · subst e
      rw [List.filter_cons_of_pos (by simp)]
      have : r.filter (fun n => decide (c = n)) = [] := List.filter_eq_nil_iff.mpr fun x hx q => h1 (by rw [of_decide_eq_true q]; exact hx)
      rw [this]
    · rw [List.filter_cons_of_neg (by simpa using e)]
      rcases List.mem_cons.mp h with h | h
      · exact absurd h e
      · exact only_one h2 h
theorem kin_nd : kinN.Nodup := by decide +kernel
theorem kin_in {c : Str} (h : c ∈ errN) : c ∈ kinN := by
  have : errN.all (fun c => decide (c ∈ kinN)) = true := by decide +kernel
  exact of_decide_eq_true (List.all_eq_true.mp this c h)
section
variable {P : Program} {w : World} {K : PySem.W.Frag} {mg : Str → Option Value} {base : Heap} {EC : Str → Addr} {CE CD CU CM CO : Addr} {tL tN tU : Tok}
/-! ### _law_kinds -/
def spKinds (K : PySem.W.Frag) (EC : Str → Addr) : Sp := fun vs H Q _ => ∃ (e : Addr) (c : Str) (fs : List (Str × V)), vs = [.ref e] ∧ ErrAt EC H e c fs ∧ c ∈ errN ∧ ∀ l H', Ext H H' → H' l = some (.lst [.str c]) → Q (.ref l) H'
abbrev s__law_kinds : Stmt := top 54
abbrev N__law_kinds : List Str := ["_law_error", "_law_some_here", "_law_title", "_law_is_one"]
theorem sc__law_kinds : FnScope N__law_kinds ["_law_error"] (defScope s__law_kinds) := ⟨rfl, rfl, rfl, by decide +kernel, rfl, by decide +kernel, by decide +kernel⟩
theorem ok_kinds {f : Addr} {fd : FuncData} (F : Fun K "_law_kinds" "_law_kinds" s__law_kinds f fd) (T : Tx K mg EC CE CD CU CM CO tL tN tU) (hE : ∀ c ∈ errN, ExcC K (EC c)) (kE : ∀ c ∈ errN, ∀ n ∈ errN, PySem.W.kitOne K (.ref (EC c)) (.ref (EC n)) = some (decide (c = n))) :
    FnOk P w K mg base CX0 1 f fd ["_law_error"] (spKinds K EC) := by
  refine F.ok sc__law_kinds (fun vs H Q E h => ?_) (fun cdv A outer s H vs Q E hr h => ?_)
  · obtain ⟨e, c, fs, rfl, _⟩ := h
    rfl
  · obtain ⟨e, c, fs, rfl, he, hc, k⟩ := h
    obtain ⟨d, hx⟩ := he.get
    have hec := hE c hc
    refine ⟨_, (pss_cons (ps_set (i := 1) sc__law_kinds.nd rfl (by first | exact Or.inl rfl | exact Or.inr rfl) (pe_lst (pa_cons (pe_tup (pa_cons pe_str (pa_cons (pe_callB call_isX (by rfl) (T.bn _ (by decide +kernel)) (by decide +kernel) (pa_cons (pv 0) (pa_cons (pe_gref (by rfl) T.m_BadName) pa_nil))) pa_nil))) (pa_cons (pe_tup (pa_cons pe_str (pa_cons (pe_callB call_isX (by rfl) (T.bn _ (by decide +kernel)) (by decide +kernel) (pa_cons (pv 0) (pa_cons (pe_gref (by rfl) T.m_BadDeed) pa_nil))) pa_nil))) pa_nil))))
      (pss_cons (ps_set (i := 1) sc__law_kinds.nd rfl (by first | exact Or.inl rfl | exact Or.inr rfl) (pe_op op_cat (pv 1) (pe_lst (pa_cons (pe_tup (pa_cons pe_str (pa_cons (pe_callB call_isX (by rfl) (T.bn _ (by decide +kernel)) (by decide +kernel) (pa_cons (pv 0) (pa_cons (pe_gref (by rfl) T.m_BadMove) pa_nil))) pa_nil))) (pa_cons (pe_tup (pa_cons pe_str (pa_cons (pe_callB call_isX (by rfl) (T.bn _ (by decide +kernel)) (by decide +kernel) (pa_cons (pv 0) (pa_cons (pe_gref (by rfl) T.m_BadNumber) pa_nil))) pa_nil))) pa_nil)))))
      (pss_cons (ps_set (i := 1) sc__law_kinds.nd rfl (by first | exact Or.inl rfl | exact Or.inr rfl) (pe_op op_cat (pv 1) (pe_lst (pa_cons (pe_tup (pa_cons pe_str (pa_cons (pe_callB call_isX (by rfl) (T.bn _ (by decide +kernel)) (by decide +kernel) (pa_cons (pv 0) (pa_cons (pe_gref (by rfl) T.m_BadPrice) pa_nil))) pa_nil))) (pa_cons (pe_tup (pa_cons pe_str (pa_cons (pe_callB call_isX (by rfl) (T.bn _ (by decide +kernel)) (by decide +kernel) (pa_cons (pv 0) (pa_cons (pe_gref (by rfl) T.m_BadPlace) pa_nil))) pa_nil))) pa_nil)))))
      (pss_cons (ps_set (i := 1) sc__law_kinds.nd rfl (by first | exact Or.inl rfl | exact Or.inr rfl) (pe_op op_cat (pv 1) (pe_lst (pa_cons (pe_tup (pa_cons pe_str (pa_cons (pe_callB call_isX (by rfl) (T.bn _ (by decide +kernel)) (by decide +kernel) (pa_cons (pv 0) (pa_cons (pe_gref (by rfl) T.m_BadPart) pa_nil))) pa_nil))) (pa_cons (pe_tup (pa_cons pe_str (pa_cons (pe_callB call_isX (by rfl) (T.bn _ (by decide +kernel)) (by decide +kernel) (pa_cons (pv 0) (pa_cons (pe_gref (by rfl) T.m_BadSlots) pa_nil))) pa_nil))) pa_nil)))))
      (pss_cons (ps_set (i := 1) sc__law_kinds.nd rfl (by first | exact Or.inl rfl | exact Or.inr rfl) (pe_op op_cat (pv 1) (pe_lst (pa_cons (pe_tup (pa_cons pe_str (pa_cons (pe_callB call_isX (by rfl) (T.bn _ (by decide +kernel)) (by decide +kernel) (pa_cons (pv 0) (pa_cons (pe_gref (by rfl) T.m_BadStanding) pa_nil))) pa_nil))) (pa_cons (pe_tup (pa_cons pe_str (pa_cons (pe_callB call_isX (by rfl) (T.bn _ (by decide +kernel)) (by decide +kernel) (pa_cons (pv 0) (pa_cons (pe_gref (by rfl) T.m_BadRule) pa_nil))) pa_nil))) pa_nil)))))
      (pss_cons (ps_set (i := 1) sc__law_kinds.nd rfl (by first | exact Or.inl rfl | exact Or.inr rfl) (pe_op op_cat (pv 1) (pe_lst (pa_cons (pe_tup (pa_cons pe_str (pa_cons (pe_callB call_isX (by rfl) (T.bn _ (by decide +kernel)) (by decide +kernel) (pa_cons (pv 0) (pa_cons (pe_gref (by rfl) T.m_Twice) pa_nil))) pa_nil))) (pa_cons (pe_tup (pa_cons pe_str (pa_cons (pe_callB call_isX (by rfl) (T.bn _ (by decide +kernel)) (by decide +kernel) (pa_cons (pv 0) (pa_cons (pe_gref (by rfl) T.m_TooMany) pa_nil))) pa_nil))) pa_nil)))))
      (pss_cons (ps_set (i := 1) sc__law_kinds.nd rfl (by first | exact Or.inl rfl | exact Or.inr rfl) (pe_op op_cat (pv 1) (pe_lst (pa_cons (pe_tup (pa_cons pe_str (pa_cons (pe_callB call_isX (by rfl) (T.bn _ (by decide +kernel)) (by decide +kernel) (pa_cons (pv 0) (pa_cons (pe_gref (by rfl) T.m_Unmade) pa_nil))) pa_nil))) (pa_cons (pe_tup (pa_cons pe_str (pa_cons (pe_callB call_isX (by rfl) (T.bn _ (by decide +kernel)) (by decide +kernel) (pa_cons (pv 0) (pa_cons (pe_gref (by rfl) T.m_MadeAgain) pa_nil))) pa_nil))) pa_nil)))))
      (pss_cons (ps_set (i := 1) sc__law_kinds.nd rfl (by first | exact Or.inl rfl | exact Or.inr rfl) (pe_op op_cat (pv 1) (pe_lst (pa_cons (pe_tup (pa_cons pe_str (pa_cons (pe_callB call_isX (by rfl) (T.bn _ (by decide +kernel)) (by decide +kernel) (pa_cons (pv 0) (pa_cons (pe_gref (by rfl) T.m_NoRoom) pa_nil))) pa_nil))) (pa_cons (pe_tup (pa_cons pe_str (pa_cons (pe_callB call_isX (by rfl) (T.bn _ (by decide +kernel)) (by decide +kernel) (pa_cons (pv 0) (pa_cons (pe_gref (by rfl) T.m_Crowded) pa_nil))) pa_nil))) pa_nil)))))
      (pss_cons (ps_set (i := 1) sc__law_kinds.nd rfl (by first | exact Or.inl rfl | exact Or.inr rfl) (pe_op op_cat (pv 1) (pe_lst (pa_cons (pe_tup (pa_cons pe_str (pa_cons (pe_callB call_isX (by rfl) (T.bn _ (by decide +kernel)) (by decide +kernel) (pa_cons (pv 0) (pa_cons (pe_gref (by rfl) T.m_Barred) pa_nil))) pa_nil))) (pa_cons (pe_tup (pa_cons pe_str (pa_cons (pe_callB call_isX (by rfl) (T.bn _ (by decide +kernel)) (by decide +kernel) (pa_cons (pv 0) (pa_cons (pe_gref (by rfl) T.m_BadPlan) pa_nil))) pa_nil))) pa_nil)))))
      (pss_cons (ps_set (i := 1) sc__law_kinds.nd rfl (by first | exact Or.inl rfl | exact Or.inr rfl) (pe_op op_cat (pv 1) (pe_lst (pa_cons (pe_tup (pa_cons pe_str (pa_cons (pe_callB call_isX (by rfl) (T.bn _ (by decide +kernel)) (by decide +kernel) (pa_cons (pv 0) (pa_cons (pe_gref (by rfl) T.m_NoLoop) pa_nil))) pa_nil))) (pa_cons (pe_tup (pa_cons pe_str (pa_cons (pe_callB call_isX (by rfl) (T.bn _ (by decide +kernel)) (by decide +kernel) (pa_cons (pv 0) (pa_cons (pe_gref (by rfl) T.m_HasLoop) pa_nil))) pa_nil))) pa_nil)))))
      (pss_cons (ps_set (i := 1) sc__law_kinds.nd rfl (by first | exact Or.inl rfl | exact Or.inr rfl) (pe_op op_cat (pv 1) (pe_lst (pa_cons (pe_tup (pa_cons pe_str (pa_cons (pe_callB call_isX (by rfl) (T.bn _ (by decide +kernel)) (by decide +kernel) (pa_cons (pv 0) (pa_cons (pe_gref (by rfl) T.m_OneLoop) pa_nil))) pa_nil))) (pa_cons (pe_tup (pa_cons pe_str (pa_cons (pe_callB call_isX (by rfl) (T.bn _ (by decide +kernel)) (by decide +kernel) (pa_cons (pv 0) (pa_cons (pe_gref (by rfl) T.m_TwoLoops) pa_nil))) pa_nil))) pa_nil)))))
      (pss_cons (ps_set (i := 1) sc__law_kinds.nd rfl (by first | exact Or.inl rfl | exact Or.inr rfl) (pe_op op_cat (pv 1) (pe_lst (pa_cons (pe_tup (pa_cons pe_str (pa_cons (pe_callB call_isX (by rfl) (T.bn _ (by decide +kernel)) (by decide +kernel) (pa_cons (pv 0) (pa_cons (pe_gref (by rfl) T.m_Finished) pa_nil))) pa_nil))) (pa_cons (pe_tup (pa_cons pe_str (pa_cons (pe_callB call_isX (by rfl) (T.bn _ (by decide +kernel)) (by decide +kernel) (pa_cons (pv 0) (pa_cons (pe_gref (by rfl) T.m_BadText) pa_nil))) pa_nil))) pa_nil)))))
      (pss_cut (ps_expr (pe_bm PySem.F.plainAttrs_list PySem.F.slot_list_append PySem.F.type_list_append mt_append (pv 1) (pa_cons (pe_tup (pa_cons pe_str (pa_cons (pe_callB call_isX (by rfl) (T.bn _ (by decide +kernel)) (by decide +kernel) (pa_cons (pv 0) (pa_cons (pe_gref (by rfl) T.m_BadLine) pa_nil))) pa_nil))) pa_nil)))
      (pss_one (ps_ret (pe_lc (own := [("_law_title", 2), ("_law_is_one", 3)]) (g := gTup K 2 (gCons (gName 2) (gCons (gName 3) gNil))) rfl sc__law_kinds.nd (pi_list (pv 1)) (blkOk_by (own := [("_law_title", 2), ("_law_is_one", 3)]) (N := N__law_kinds) (sc := defScope s__law_kinds) (by decide +kernel)) (fun _ _ _ _ _ => (pg_tup rfl (pgs_cons (pg_name (i := 2) sc__law_kinds.nd rfl (by first | exact Or.inl rfl | exact Or.inr rfl)) (pgs_cons (pg_name (i := 3) sc__law_kinds.nd rfl (by first | exact Or.inl rfl | exact Or.inr rfl)) pgs_nil)))) (fun _ _ _ _ _ => pts_one (pt_val (pv 3))) (fun _ _ _ _ _ => (pv 2)))))))))))))))))), ?_⟩
    have X : Ext H H := Ext.rfl'

    -- BadName
    refine ⟨_, rfl, e, _, d, _, _, _, rfl, (hx _ X).1, hec, (hx _ X).2, fun u r => r, kE c hc "BadName" (mem_errN 0 rfl), (by show 2 ≤ sizeLine; decide), fun t0 n0 => ?_⟩
    have y0 : Ext H (upd H t0 (.tup [.str "BadName", .bl (decide (c = "BadName"))])) := Ext.upd n0
    have f0 : (upd H t0 (.tup [.str "BadName", .bl (decide (c = "BadName"))])) t0 = some (.tup [.str "BadName", .bl (decide (c = "BadName"))]) := upd_same
    have X := X.trans y0
    generalize (upd H t0 (.tup [.str "BadName", .bl (decide (c = "BadName"))])) = HH at y0 f0 X ⊢
    -- BadDeed
    refine ⟨_, rfl, e, _, d, _, _, _, rfl, (hx _ X).1, hec, (hx _ X).2, fun u r => r, kE c hc "BadDeed" (mem_errN 1 rfl), (by show 2 ≤ sizeLine; decide), fun t1 n1 => ?_⟩
    have y1 : Ext HH (upd HH t1 (.tup [.str "BadDeed", .bl (decide (c = "BadDeed"))])) := Ext.upd n1
    have f1 : (upd HH t1 (.tup [.str "BadDeed", .bl (decide (c = "BadDeed"))])) t1 = some (.tup [.str "BadDeed", .bl (decide (c = "BadDeed"))]) := upd_same
    have X := X.trans y1
    generalize (upd HH t1 (.tup [.str "BadDeed", .bl (decide (c = "BadDeed"))])) = HH at y1 f1 X ⊢
    have f0 := y1 _ _ f0
    have hT : TVs HH [V.ref t0, V.ref t1] (kdD c ["BadName", "BadDeed"]) := (.cons (.tup f0 (.cons (.str _) (.cons (.bl _) .nil))) (.cons (.tup f1 (.cons (.str _) (.cons (.bl _) .nil))) .nil))
    refine ⟨(by show 2 ≤ sizeLine; decide), fun L nL => ?_⟩
    have yL : Ext HH (upd HH L (.lst [V.ref t0, V.ref t1])) := Ext.upd nL
    have hL : (upd HH L (.lst [V.ref t0, V.ref t1])) L = some (.lst [V.ref t0, V.ref t1]) := upd_same
    have hT := hT.ext yL
    have X := X.trans yL
    skip
    generalize (upd HH L (.lst [V.ref t0, V.ref t1])) = HH at yL hL hT X ⊢
    generalize hxs : ([V.ref t0, V.ref t1] : List V) = xs at hL hT
    have lx : xs.length = 2 := by rw [← hxs]; rfl
    clear hxs
    refine ⟨_, rfl, ?_⟩
    -- BadMove
    refine ⟨_, rfl, e, _, d, _, _, _, rfl, (hx _ X).1, hec, (hx _ X).2, fun u r => r, kE c hc "BadMove" (mem_errN 2 rfl), (by show 2 ≤ sizeLine; decide), fun t2 n2 => ?_⟩
    have y2 : Ext HH (upd HH t2 (.tup [.str "BadMove", .bl (decide (c = "BadMove"))])) := Ext.upd n2
    have f2 : (upd HH t2 (.tup [.str "BadMove", .bl (decide (c = "BadMove"))])) t2 = some (.tup [.str "BadMove", .bl (decide (c = "BadMove"))]) := upd_same
    have X := X.trans y2
    generalize (upd HH t2 (.tup [.str "BadMove", .bl (decide (c = "BadMove"))])) = HH at y2 f2 X ⊢
    have hL := y2 _ _ hL
    have hT := hT.ext y2
    -- BadNumber
    refine ⟨_, rfl, e, _, d, _, _, _, rfl, (hx _ X).1, hec, (hx _ X).2, fun u r => r, kE c hc "BadNumber" (mem_errN 3 rfl), (by show 2 ≤ sizeLine; decide), fun t3 n3 => ?_⟩
    have y3 : Ext HH (upd HH t3 (.tup [.str "BadNumber", .bl (decide (c = "BadNumber"))])) := Ext.upd n3
    have f3 : (upd HH t3 (.tup [.str "BadNumber", .bl (decide (c = "BadNumber"))])) t3 = some (.tup [.str "BadNumber", .bl (decide (c = "BadNumber"))]) := upd_same
    have X := X.trans y3
    generalize (upd HH t3 (.tup [.str "BadNumber", .bl (decide (c = "BadNumber"))])) = HH at y3 f3 X ⊢
    have hL := y3 _ _ hL
    have hT := hT.ext y3
    have f2 := y3 _ _ f2
    refine ⟨(by show 2 ≤ sizeLine; decide), fun l nl => ⟨L, l, xs, _, rfl, rfl, Ext.upd nl _ _ hL, upd_same, by rw [lx]; show 2 + 2 ≤ sizeLine; decide, fun L2 nL2 => ?_⟩⟩
    have hLH : H L2 = none := ext_free (X.trans (Ext.upd nl)) nL2
    have yL := (Ext.upd (o := HO.lst [V.ref t2, V.ref t3]) nl).trans (Ext.upd (o := HO.lst (xs ++ [V.ref t2, V.ref t3])) nL2)
    have hL : (upd (upd HH l (.lst [V.ref t2, V.ref t3])) L2 (.lst (xs ++ [V.ref t2, V.ref t3]))) L2 = some (.lst (xs ++ [V.ref t2, V.ref t3])) := upd_same
    have hT : TVs (upd (upd HH l (.lst [V.ref t2, V.ref t3])) L2 (.lst (xs ++ [V.ref t2, V.ref t3]))) (xs ++ [V.ref t2, V.ref t3]) (kdD c ["BadName", "BadDeed", "BadMove", "BadNumber"]) := by
      refine TVs.ext yL ?_
      rw [show kdD c ["BadName", "BadDeed", "BadMove", "BadNumber"] = kdD c ["BadName", "BadDeed"] ++ kdD c ["BadMove", "BadNumber"] from rfl]
      exact tvs_app hT (.cons (.tup f2 (.cons (.str _) (.cons (.bl _) .nil))) (.cons (.tup f3 (.cons (.str _) (.cons (.bl _) .nil))) .nil))
    have X := X.trans yL
    generalize (upd (upd HH l (.lst [V.ref t2, V.ref t3])) L2 (.lst (xs ++ [V.ref t2, V.ref t3]))) = HH at yL hL hT X ⊢
    have lx : (xs ++ [V.ref t2, V.ref t3]).length = 4 := by rw [List.length_append, lx]; rfl
    generalize (xs ++ [V.ref t2, V.ref t3]) = xs at hL hT lx ⊢
    generalize L2 = L at hL hLH nL2 ⊢
    clear nL2
    refine ⟨_, rfl, ?_⟩
    -- BadPrice
    refine ⟨_, rfl, e, _, d, _, _, _, rfl, (hx _ X).1, hec, (hx _ X).2, fun u r => r, kE c hc "BadPrice" (mem_errN 4 rfl), (by show 2 ≤ sizeLine; decide), fun t4 n4 => ?_⟩
    have y4 : Ext HH (upd HH t4 (.tup [.str "BadPrice", .bl (decide (c = "BadPrice"))])) := Ext.upd n4
    have f4 : (upd HH t4 (.tup [.str "BadPrice", .bl (decide (c = "BadPrice"))])) t4 = some (.tup [.str "BadPrice", .bl (decide (c = "BadPrice"))]) := upd_same
    have X := X.trans y4
    generalize (upd HH t4 (.tup [.str "BadPrice", .bl (decide (c = "BadPrice"))])) = HH at y4 f4 X ⊢
    have hL := y4 _ _ hL
    have hT := hT.ext y4
    -- BadPlace
    refine ⟨_, rfl, e, _, d, _, _, _, rfl, (hx _ X).1, hec, (hx _ X).2, fun u r => r, kE c hc "BadPlace" (mem_errN 5 rfl), (by show 2 ≤ sizeLine; decide), fun t5 n5 => ?_⟩
    have y5 : Ext HH (upd HH t5 (.tup [.str "BadPlace", .bl (decide (c = "BadPlace"))])) := Ext.upd n5
    have f5 : (upd HH t5 (.tup [.str "BadPlace", .bl (decide (c = "BadPlace"))])) t5 = some (.tup [.str "BadPlace", .bl (decide (c = "BadPlace"))]) := upd_same
    have X := X.trans y5
    generalize (upd HH t5 (.tup [.str "BadPlace", .bl (decide (c = "BadPlace"))])) = HH at y5 f5 X ⊢
    have hL := y5 _ _ hL
    have hT := hT.ext y5
    have f4 := y5 _ _ f4
    refine ⟨(by show 2 ≤ sizeLine; decide), fun l nl => ⟨L, l, xs, _, rfl, rfl, Ext.upd nl _ _ hL, upd_same, by rw [lx]; show 4 + 2 ≤ sizeLine; decide, fun L2 nL2 => ?_⟩⟩
    have hLH : H L2 = none := ext_free (X.trans (Ext.upd nl)) nL2
    have yL := (Ext.upd (o := HO.lst [V.ref t4, V.ref t5]) nl).trans (Ext.upd (o := HO.lst (xs ++ [V.ref t4, V.ref t5])) nL2)
    have hL : (upd (upd HH l (.lst [V.ref t4, V.ref t5])) L2 (.lst (xs ++ [V.ref t4, V.ref t5]))) L2 = some (.lst (xs ++ [V.ref t4, V.ref t5])) := upd_same
    have hT : TVs (upd (upd HH l (.lst [V.ref t4, V.ref t5])) L2 (.lst (xs ++ [V.ref t4, V.ref t5]))) (xs ++ [V.ref t4, V.ref t5]) (kdD c ["BadName", "BadDeed", "BadMove", "BadNumber", "BadPrice", "BadPlace"]) := by
      refine TVs.ext yL ?_
      rw [show kdD c ["BadName", "BadDeed", "BadMove", "BadNumber", "BadPrice", "BadPlace"] = kdD c ["BadName", "BadDeed", "BadMove", "BadNumber"] ++ kdD c ["BadPrice", "BadPlace"] from rfl]
      exact tvs_app hT (.cons (.tup f4 (.cons (.str _) (.cons (.bl _) .nil))) (.cons (.tup f5 (.cons (.str _) (.cons (.bl _) .nil))) .nil))
    have X := X.trans yL
    generalize (upd (upd HH l (.lst [V.ref t4, V.ref t5])) L2 (.lst (xs ++ [V.ref t4, V.ref t5]))) = HH at yL hL hT X ⊢
    have lx : (xs ++ [V.ref t4, V.ref t5]).length = 6 := by rw [List.length_append, lx]; rfl
    generalize (xs ++ [V.ref t4, V.ref t5]) = xs at hL hT lx ⊢
    generalize L2 = L at hL hLH nL2 ⊢
    clear nL2
    refine ⟨_, rfl, ?_⟩
    -- BadPart
    refine ⟨_, rfl, e, _, d, _, _, _, rfl, (hx _ X).1, hec, (hx _ X).2, fun u r => r, kE c hc "BadPart" (mem_errN 6 rfl), (by show 2 ≤ sizeLine; decide), fun t6 n6 => ?_⟩
    have y6 : Ext HH (upd HH t6 (.tup [.str "BadPart", .bl (decide (c = "BadPart"))])) := Ext.upd n6
    have f6 : (upd HH t6 (.tup [.str "BadPart", .bl (decide (c = "BadPart"))])) t6 = some (.tup [.str "BadPart", .bl (decide (c = "BadPart"))]) := upd_same
    have X := X.trans y6
    generalize (upd HH t6 (.tup [.str "BadPart", .bl (decide (c = "BadPart"))])) = HH at y6 f6 X ⊢
    have hL := y6 _ _ hL
    have hT := hT.ext y6
    -- BadSlots
    refine ⟨_, rfl, e, _, d, _, _, _, rfl, (hx _ X).1, hec, (hx _ X).2, fun u r => r, kE c hc "BadSlots" (mem_errN 7 rfl), (by show 2 ≤ sizeLine; decide), fun t7 n7 => ?_⟩
    have y7 : Ext HH (upd HH t7 (.tup [.str "BadSlots", .bl (decide (c = "BadSlots"))])) := Ext.upd n7
    have f7 : (upd HH t7 (.tup [.str "BadSlots", .bl (decide (c = "BadSlots"))])) t7 = some (.tup [.str "BadSlots", .bl (decide (c = "BadSlots"))]) := upd_same
    have X := X.trans y7
    generalize (upd HH t7 (.tup [.str "BadSlots", .bl (decide (c = "BadSlots"))])) = HH at y7 f7 X ⊢
    have hL := y7 _ _ hL
    have hT := hT.ext y7
    have f6 := y7 _ _ f6
    refine ⟨(by show 2 ≤ sizeLine; decide), fun l nl => ⟨L, l, xs, _, rfl, rfl, Ext.upd nl _ _ hL, upd_same, by rw [lx]; show 6 + 2 ≤ sizeLine; decide, fun L2 nL2 => ?_⟩⟩
    have hLH : H L2 = none := ext_free (X.trans (Ext.upd nl)) nL2
    have yL := (Ext.upd (o := HO.lst [V.ref t6, V.ref t7]) nl).trans (Ext.upd (o := HO.lst (xs ++ [V.ref t6, V.ref t7])) nL2)
    have hL : (upd (upd HH l (.lst [V.ref t6, V.ref t7])) L2 (.lst (xs ++ [V.ref t6, V.ref t7]))) L2 = some (.lst (xs ++ [V.ref t6, V.ref t7])) := upd_same
    have hT : TVs (upd (upd HH l (.lst [V.ref t6, V.ref t7])) L2 (.lst (xs ++ [V.ref t6, V.ref t7]))) (xs ++ [V.ref t6, V.ref t7]) (kdD c ["BadName", "BadDeed", "BadMove", "BadNumber", "BadPrice", "BadPlace", "BadPart", "BadSlots"]) := by
      refine TVs.ext yL ?_
      rw [show kdD c ["BadName", "BadDeed", "BadMove", "BadNumber", "BadPrice", "BadPlace", "BadPart", "BadSlots"] = kdD c ["BadName", "BadDeed", "BadMove", "BadNumber", "BadPrice", "BadPlace"] ++ kdD c ["BadPart", "BadSlots"] from rfl]
      exact tvs_app hT (.cons (.tup f6 (.cons (.str _) (.cons (.bl _) .nil))) (.cons (.tup f7 (.cons (.str _) (.cons (.bl _) .nil))) .nil))
    have X := X.trans yL
    generalize (upd (upd HH l (.lst [V.ref t6, V.ref t7])) L2 (.lst (xs ++ [V.ref t6, V.ref t7]))) = HH at yL hL hT X ⊢
    have lx : (xs ++ [V.ref t6, V.ref t7]).length = 8 := by rw [List.length_append, lx]; rfl
    generalize (xs ++ [V.ref t6, V.ref t7]) = xs at hL hT lx ⊢
    generalize L2 = L at hL hLH nL2 ⊢
    clear nL2
    refine ⟨_, rfl, ?_⟩
    -- BadStanding
    refine ⟨_, rfl, e, _, d, _, _, _, rfl, (hx _ X).1, hec, (hx _ X).2, fun u r => r, kE c hc "BadStanding" (mem_errN 8 rfl), (by show 2 ≤ sizeLine; decide), fun t8 n8 => ?_⟩
    have y8 : Ext HH (upd HH t8 (.tup [.str "BadStanding", .bl (decide (c = "BadStanding"))])) := Ext.upd n8
    have f8 : (upd HH t8 (.tup [.str "BadStanding", .bl (decide (c = "BadStanding"))])) t8 = some (.tup [.str "BadStanding", .bl (decide (c = "BadStanding"))]) := upd_same
    have X := X.trans y8
    generalize (upd HH t8 (.tup [.str "BadStanding", .bl (decide (c = "BadStanding"))])) = HH at y8 f8 X ⊢
    have hL := y8 _ _ hL
    have hT := hT.ext y8
    -- BadRule
    refine ⟨_, rfl, e, _, d, _, _, _, rfl, (hx _ X).1, hec, (hx _ X).2, fun u r => r, kE c hc "BadRule" (mem_errN 9 rfl), (by show 2 ≤ sizeLine; decide), fun t9 n9 => ?_⟩
    have y9 : Ext HH (upd HH t9 (.tup [.str "BadRule", .bl (decide (c = "BadRule"))])) := Ext.upd n9
    have f9 : (upd HH t9 (.tup [.str "BadRule", .bl (decide (c = "BadRule"))])) t9 = some (.tup [.str "BadRule", .bl (decide (c = "BadRule"))]) := upd_same
    have X := X.trans y9
    generalize (upd HH t9 (.tup [.str "BadRule", .bl (decide (c = "BadRule"))])) = HH at y9 f9 X ⊢
    have hL := y9 _ _ hL
    have hT := hT.ext y9
    have f8 := y9 _ _ f8
    refine ⟨(by show 2 ≤ sizeLine; decide), fun l nl => ⟨L, l, xs, _, rfl, rfl, Ext.upd nl _ _ hL, upd_same, by rw [lx]; show 8 + 2 ≤ sizeLine; decide, fun L2 nL2 => ?_⟩⟩
    have hLH : H L2 = none := ext_free (X.trans (Ext.upd nl)) nL2
    have yL := (Ext.upd (o := HO.lst [V.ref t8, V.ref t9]) nl).trans (Ext.upd (o := HO.lst (xs ++ [V.ref t8, V.ref t9])) nL2)
    have hL : (upd (upd HH l (.lst [V.ref t8, V.ref t9])) L2 (.lst (xs ++ [V.ref t8, V.ref t9]))) L2 = some (.lst (xs ++ [V.ref t8, V.ref t9])) := upd_same
    have hT : TVs (upd (upd HH l (.lst [V.ref t8, V.ref t9])) L2 (.lst (xs ++ [V.ref t8, V.ref t9]))) (xs ++ [V.ref t8, V.ref t9]) (kdD c ["BadName", "BadDeed", "BadMove", "BadNumber", "BadPrice", "BadPlace", "BadPart", "BadSlots", "BadStanding", "BadRule"]) := by
      refine TVs.ext yL ?_
      rw [show kdD c ["BadName", "BadDeed", "BadMove", "BadNumber", "BadPrice", "BadPlace", "BadPart", "BadSlots", "BadStanding", "BadRule"] = kdD c ["BadName", "BadDeed", "BadMove", "BadNumber", "BadPrice", "BadPlace", "BadPart", "BadSlots"] ++ kdD c ["BadStanding", "BadRule"] from rfl]
      exact tvs_app hT (.cons (.tup f8 (.cons (.str _) (.cons (.bl _) .nil))) (.cons (.tup f9 (.cons (.str _) (.cons (.bl _) .nil))) .nil))
    have X := X.trans yL
    generalize (upd (upd HH l (.lst [V.ref t8, V.ref t9])) L2 (.lst (xs ++ [V.ref t8, V.ref t9]))) = HH at yL hL hT X ⊢
    have lx : (xs ++ [V.ref t8, V.ref t9]).length = 10 := by rw [List.length_append, lx]; rfl
    generalize (xs ++ [V.ref t8, V.ref t9]) = xs at hL hT lx ⊢
    generalize L2 = L at hL hLH nL2 ⊢
    clear nL2
    refine ⟨_, rfl, ?_⟩
    -- Twice
    refine ⟨_, rfl, e, _, d, _, _, _, rfl, (hx _ X).1, hec, (hx _ X).2, fun u r => r, kE c hc "Twice" (mem_errN 10 rfl), (by show 2 ≤ sizeLine; decide), fun t10 n10 => ?_⟩
    have y10 : Ext HH (upd HH t10 (.tup [.str "Twice", .bl (decide (c = "Twice"))])) := Ext.upd n10
    have f10 : (upd HH t10 (.tup [.str "Twice", .bl (decide (c = "Twice"))])) t10 = some (.tup [.str "Twice", .bl (decide (c = "Twice"))]) := upd_same
    have X := X.trans y10
    generalize (upd HH t10 (.tup [.str "Twice", .bl (decide (c = "Twice"))])) = HH at y10 f10 X ⊢
    have hL := y10 _ _ hL
    have hT := hT.ext y10
    -- TooMany
    refine ⟨_, rfl, e, _, d, _, _, _, rfl, (hx _ X).1, hec, (hx _ X).2, fun u r => r, kE c hc "TooMany" (mem_errN 11 rfl), (by show 2 ≤ sizeLine; decide), fun t11 n11 => ?_⟩
    have y11 : Ext HH (upd HH t11 (.tup [.str "TooMany", .bl (decide (c = "TooMany"))])) := Ext.upd n11
    have f11 : (upd HH t11 (.tup [.str "TooMany", .bl (decide (c = "TooMany"))])) t11 = some (.tup [.str "TooMany", .bl (decide (c = "TooMany"))]) := upd_same
    have X := X.trans y11
    generalize (upd HH t11 (.tup [.str "TooMany", .bl (decide (c = "TooMany"))])) = HH at y11 f11 X ⊢
    have hL := y11 _ _ hL
    have hT := hT.ext y11
    have f10 := y11 _ _ f10
    refine ⟨(by show 2 ≤ sizeLine; decide), fun l nl => ⟨L, l, xs, _, rfl, rfl, Ext.upd nl _ _ hL, upd_same, by rw [lx]; show 10 + 2 ≤ sizeLine; decide, fun L2 nL2 => ?_⟩⟩
    have hLH : H L2 = none := ext_free (X.trans (Ext.upd nl)) nL2
    have yL := (Ext.upd (o := HO.lst [V.ref t10, V.ref t11]) nl).trans (Ext.upd (o := HO.lst (xs ++ [V.ref t10, V.ref t11])) nL2)
    have hL : (upd (upd HH l (.lst [V.ref t10, V.ref t11])) L2 (.lst (xs ++ [V.ref t10, V.ref t11]))) L2 = some (.lst (xs ++ [V.ref t10, V.ref t11])) := upd_same
    have hT : TVs (upd (upd HH l (.lst [V.ref t10, V.ref t11])) L2 (.lst (xs ++ [V.ref t10, V.ref t11]))) (xs ++ [V.ref t10, V.ref t11]) (kdD c ["BadName", "BadDeed", "BadMove", "BadNumber", "BadPrice", "BadPlace", "BadPart", "BadSlots", "BadStanding", "BadRule", "Twice", "TooMany"]) := by
      refine TVs.ext yL ?_
      rw [show kdD c ["BadName", "BadDeed", "BadMove", "BadNumber", "BadPrice", "BadPlace", "BadPart", "BadSlots", "BadStanding", "BadRule", "Twice", "TooMany"] = kdD c ["BadName", "BadDeed", "BadMove", "BadNumber", "BadPrice", "BadPlace", "BadPart", "BadSlots", "BadStanding", "BadRule"] ++ kdD c ["Twice", "TooMany"] from rfl]
      exact tvs_app hT (.cons (.tup f10 (.cons (.str _) (.cons (.bl _) .nil))) (.cons (.tup f11 (.cons (.str _) (.cons (.bl _) .nil))) .nil))
    have X := X.trans yL
    generalize (upd (upd HH l (.lst [V.ref t10, V.ref t11])) L2 (.lst (xs ++ [V.ref t10, V.ref t11]))) = HH at yL hL hT X ⊢
    have lx : (xs ++ [V.ref t10, V.ref t11]).length = 12 := by rw [List.length_append, lx]; rfl
    generalize (xs ++ [V.ref t10, V.ref t11]) = xs at hL hT lx ⊢
    generalize L2 = L at hL hLH nL2 ⊢
    clear nL2
    refine ⟨_, rfl, ?_⟩
    -- Unmade
    refine ⟨_, rfl, e, _, d, _, _, _, rfl, (hx _ X).1, hec, (hx _ X).2, fun u r => r, kE c hc "Unmade" (mem_errN 12 rfl), (by show 2 ≤ sizeLine; decide), fun t12 n12 => ?_⟩
    have y12 : Ext HH (upd HH t12 (.tup [.str "Unmade", .bl (decide (c = "Unmade"))])) := Ext.upd n12
    have f12 : (upd HH t12 (.tup [.str "Unmade", .bl (decide (c = "Unmade"))])) t12 = some (.tup [.str "Unmade", .bl (decide (c = "Unmade"))]) := upd_same
    have X := X.trans y12
    generalize (upd HH t12 (.tup [.str "Unmade", .bl (decide (c = "Unmade"))])) = HH at y12 f12 X ⊢
    have hL := y12 _ _ hL
    have hT := hT.ext y12
    -- MadeAgain
    refine ⟨_, rfl, e, _, d, _, _, _, rfl, (hx _ X).1, hec, (hx _ X).2, fun u r => r, kE c hc "MadeAgain" (mem_errN 14 rfl), (by show 2 ≤ sizeLine; decide), fun t13 n13 => ?_⟩
    have y13 : Ext HH (upd HH t13 (.tup [.str "MadeAgain", .bl (decide (c = "MadeAgain"))])) := Ext.upd n13
    have f13 : (upd HH t13 (.tup [.str "MadeAgain", .bl (decide (c = "MadeAgain"))])) t13 = some (.tup [.str "MadeAgain", .bl (decide (c = "MadeAgain"))]) := upd_same
    have X := X.trans y13
    generalize (upd HH t13 (.tup [.str "MadeAgain", .bl (decide (c = "MadeAgain"))])) = HH at y13 f13 X ⊢
    have hL := y13 _ _ hL
    have hT := hT.ext y13
    have f12 := y13 _ _ f12
    refine ⟨(by show 2 ≤ sizeLine; decide), fun l nl => ⟨L, l, xs, _, rfl, rfl, Ext.upd nl _ _ hL, upd_same, by rw [lx]; show 12 + 2 ≤ sizeLine; decide, fun L2 nL2 => ?_⟩⟩
    have hLH : H L2 = none := ext_free (X.trans (Ext.upd nl)) nL2
    have yL := (Ext.upd (o := HO.lst [V.ref t12, V.ref t13]) nl).trans (Ext.upd (o := HO.lst (xs ++ [V.ref t12, V.ref t13])) nL2)
    have hL : (upd (upd HH l (.lst [V.ref t12, V.ref t13])) L2 (.lst (xs ++ [V.ref t12, V.ref t13]))) L2 = some (.lst (xs ++ [V.ref t12, V.ref t13])) := upd_same
    have hT : TVs (upd (upd HH l (.lst [V.ref t12, V.ref t13])) L2 (.lst (xs ++ [V.ref t12, V.ref t13]))) (xs ++ [V.ref t12, V.ref t13]) (kdD c ["BadName", "BadDeed", "BadMove", "BadNumber", "BadPrice", "BadPlace", "BadPart", "BadSlots", "BadStanding", "BadRule", "Twice", "TooMany", "Unmade", "MadeAgain"]) := by
      refine TVs.ext yL ?_
      rw [show kdD c ["BadName", "BadDeed", "BadMove", "BadNumber", "BadPrice", "BadPlace", "BadPart", "BadSlots", "BadStanding", "BadRule", "Twice", "TooMany", "Unmade", "MadeAgain"] = kdD c ["BadName", "BadDeed", "BadMove", "BadNumber", "BadPrice", "BadPlace", "BadPart", "BadSlots", "BadStanding", "BadRule", "Twice", "TooMany"] ++ kdD c ["Unmade", "MadeAgain"] from rfl]
      exact tvs_app hT (.cons (.tup f12 (.cons (.str _) (.cons (.bl _) .nil))) (.cons (.tup f13 (.cons (.str _) (.cons (.bl _) .nil))) .nil))
    have X := X.trans yL
    generalize (upd (upd HH l (.lst [V.ref t12, V.ref t13])) L2 (.lst (xs ++ [V.ref t12, V.ref t13]))) = HH at yL hL hT X ⊢
    have lx : (xs ++ [V.ref t12, V.ref t13]).length = 14 := by rw [List.length_append, lx]; rfl
    generalize (xs ++ [V.ref t12, V.ref t13]) = xs at hL hT lx ⊢
    generalize L2 = L at hL hLH nL2 ⊢
    clear nL2
    refine ⟨_, rfl, ?_⟩
    -- NoRoom
    refine ⟨_, rfl, e, _, d, _, _, _, rfl, (hx _ X).1, hec, (hx _ X).2, fun u r => r, kE c hc "NoRoom" (mem_errN 13 rfl), (by show 2 ≤ sizeLine; decide), fun t14 n14 => ?_⟩
    have y14 : Ext HH (upd HH t14 (.tup [.str "NoRoom", .bl (decide (c = "NoRoom"))])) := Ext.upd n14
    have f14 : (upd HH t14 (.tup [.str "NoRoom", .bl (decide (c = "NoRoom"))])) t14 = some (.tup [.str "NoRoom", .bl (decide (c = "NoRoom"))]) := upd_same
    have X := X.trans y14
    generalize (upd HH t14 (.tup [.str "NoRoom", .bl (decide (c = "NoRoom"))])) = HH at y14 f14 X ⊢
    have hL := y14 _ _ hL
    have hT := hT.ext y14
    -- Crowded
    refine ⟨_, rfl, e, _, d, _, _, _, rfl, (hx _ X).1, hec, (hx _ X).2, fun u r => r, kE c hc "Crowded" (mem_errN 15 rfl), (by show 2 ≤ sizeLine; decide), fun t15 n15 => ?_⟩
    have y15 : Ext HH (upd HH t15 (.tup [.str "Crowded", .bl (decide (c = "Crowded"))])) := Ext.upd n15
    have f15 : (upd HH t15 (.tup [.str "Crowded", .bl (decide (c = "Crowded"))])) t15 = some (.tup [.str "Crowded", .bl (decide (c = "Crowded"))]) := upd_same
    have X := X.trans y15
    generalize (upd HH t15 (.tup [.str "Crowded", .bl (decide (c = "Crowded"))])) = HH at y15 f15 X ⊢
    have hL := y15 _ _ hL
    have hT := hT.ext y15
    have f14 := y15 _ _ f14
    refine ⟨(by show 2 ≤ sizeLine; decide), fun l nl => ⟨L, l, xs, _, rfl, rfl, Ext.upd nl _ _ hL, upd_same, by rw [lx]; show 14 + 2 ≤ sizeLine; decide, fun L2 nL2 => ?_⟩⟩
    have hLH : H L2 = none := ext_free (X.trans (Ext.upd nl)) nL2
    have yL := (Ext.upd (o := HO.lst [V.ref t14, V.ref t15]) nl).trans (Ext.upd (o := HO.lst (xs ++ [V.ref t14, V.ref t15])) nL2)
    have hL : (upd (upd HH l (.lst [V.ref t14, V.ref t15])) L2 (.lst (xs ++ [V.ref t14, V.ref t15]))) L2 = some (.lst (xs ++ [V.ref t14, V.ref t15])) := upd_same
    have hT : TVs (upd (upd HH l (.lst [V.ref t14, V.ref t15])) L2 (.lst (xs ++ [V.ref t14, V.ref t15]))) (xs ++ [V.ref t14, V.ref t15]) (kdD c ["BadName", "BadDeed", "BadMove", "BadNumber", "BadPrice", "BadPlace", "BadPart", "BadSlots", "BadStanding", "BadRule", "Twice", "TooMany", "Unmade", "MadeAgain", "NoRoom", "Crowded"]) := by
      refine TVs.ext yL ?_
      rw [show kdD c ["BadName", "BadDeed", "BadMove", "BadNumber", "BadPrice", "BadPlace", "BadPart", "BadSlots", "BadStanding", "BadRule", "Twice", "TooMany", "Unmade", "MadeAgain", "NoRoom", "Crowded"] = kdD c ["BadName", "BadDeed", "BadMove", "BadNumber", "BadPrice", "BadPlace", "BadPart", "BadSlots", "BadStanding", "BadRule", "Twice", "TooMany", "Unmade", "MadeAgain"] ++ kdD c ["NoRoom", "Crowded"] from rfl]
      exact tvs_app hT (.cons (.tup f14 (.cons (.str _) (.cons (.bl _) .nil))) (.cons (.tup f15 (.cons (.str _) (.cons (.bl _) .nil))) .nil))
    have X := X.trans yL
    generalize (upd (upd HH l (.lst [V.ref t14, V.ref t15])) L2 (.lst (xs ++ [V.ref t14, V.ref t15]))) = HH at yL hL hT X ⊢
    have lx : (xs ++ [V.ref t14, V.ref t15]).length = 16 := by rw [List.length_append, lx]; rfl
    generalize (xs ++ [V.ref t14, V.ref t15]) = xs at hL hT lx ⊢
    generalize L2 = L at hL hLH nL2 ⊢
    clear nL2
    refine ⟨_, rfl, ?_⟩
    -- Barred
    refine ⟨_, rfl, e, _, d, _, _, _, rfl, (hx _ X).1, hec, (hx _ X).2, fun u r => r, kE c hc "Barred" (mem_errN 16 rfl), (by show 2 ≤ sizeLine; decide), fun t16 n16 => ?_⟩
    have y16 : Ext HH (upd HH t16 (.tup [.str "Barred", .bl (decide (c = "Barred"))])) := Ext.upd n16
    have f16 : (upd HH t16 (.tup [.str "Barred", .bl (decide (c = "Barred"))])) t16 = some (.tup [.str "Barred", .bl (decide (c = "Barred"))]) := upd_same
    have X := X.trans y16
    generalize (upd HH t16 (.tup [.str "Barred", .bl (decide (c = "Barred"))])) = HH at y16 f16 X ⊢
    have hL := y16 _ _ hL
    have hT := hT.ext y16
    -- BadPlan
    refine ⟨_, rfl, e, _, d, _, _, _, rfl, (hx _ X).1, hec, (hx _ X).2, fun u r => r, kE c hc "BadPlan" (mem_errN 18 rfl), (by show 2 ≤ sizeLine; decide), fun t17 n17 => ?_⟩
    have y17 : Ext HH (upd HH t17 (.tup [.str "BadPlan", .bl (decide (c = "BadPlan"))])) := Ext.upd n17
    have f17 : (upd HH t17 (.tup [.str "BadPlan", .bl (decide (c = "BadPlan"))])) t17 = some (.tup [.str "BadPlan", .bl (decide (c = "BadPlan"))]) := upd_same
    have X := X.trans y17
    generalize (upd HH t17 (.tup [.str "BadPlan", .bl (decide (c = "BadPlan"))])) = HH at y17 f17 X ⊢
    have hL := y17 _ _ hL
    have hT := hT.ext y17
    have f16 := y17 _ _ f16
    refine ⟨(by show 2 ≤ sizeLine; decide), fun l nl => ⟨L, l, xs, _, rfl, rfl, Ext.upd nl _ _ hL, upd_same, by rw [lx]; show 16 + 2 ≤ sizeLine; decide, fun L2 nL2 => ?_⟩⟩
    have hLH : H L2 = none := ext_free (X.trans (Ext.upd nl)) nL2
    have yL := (Ext.upd (o := HO.lst [V.ref t16, V.ref t17]) nl).trans (Ext.upd (o := HO.lst (xs ++ [V.ref t16, V.ref t17])) nL2)
    have hL : (upd (upd HH l (.lst [V.ref t16, V.ref t17])) L2 (.lst (xs ++ [V.ref t16, V.ref t17]))) L2 = some (.lst (xs ++ [V.ref t16, V.ref t17])) := upd_same
    have hT : TVs (upd (upd HH l (.lst [V.ref t16, V.ref t17])) L2 (.lst (xs ++ [V.ref t16, V.ref t17]))) (xs ++ [V.ref t16, V.ref t17]) (kdD c ["BadName", "BadDeed", "BadMove", "BadNumber", "BadPrice", "BadPlace", "BadPart", "BadSlots", "BadStanding", "BadRule", "Twice", "TooMany", "Unmade", "MadeAgain", "NoRoom", "Crowded", "Barred", "BadPlan"]) := by
      refine TVs.ext yL ?_
      rw [show kdD c ["BadName", "BadDeed", "BadMove", "BadNumber", "BadPrice", "BadPlace", "BadPart", "BadSlots", "BadStanding", "BadRule", "Twice", "TooMany", "Unmade", "MadeAgain", "NoRoom", "Crowded", "Barred", "BadPlan"] = kdD c ["BadName", "BadDeed", "BadMove", "BadNumber", "BadPrice", "BadPlace", "BadPart", "BadSlots", "BadStanding", "BadRule", "Twice", "TooMany", "Unmade", "MadeAgain", "NoRoom", "Crowded"] ++ kdD c ["Barred", "BadPlan"] from rfl]
      exact tvs_app hT (.cons (.tup f16 (.cons (.str _) (.cons (.bl _) .nil))) (.cons (.tup f17 (.cons (.str _) (.cons (.bl _) .nil))) .nil))
    have X := X.trans yL
    generalize (upd (upd HH l (.lst [V.ref t16, V.ref t17])) L2 (.lst (xs ++ [V.ref t16, V.ref t17]))) = HH at yL hL hT X ⊢
    have lx : (xs ++ [V.ref t16, V.ref t17]).length = 18 := by rw [List.length_append, lx]; rfl
    generalize (xs ++ [V.ref t16, V.ref t17]) = xs at hL hT lx ⊢
    generalize L2 = L at hL hLH nL2 ⊢
    clear nL2
    refine ⟨_, rfl, ?_⟩
    -- NoLoop
    refine ⟨_, rfl, e, _, d, _, _, _, rfl, (hx _ X).1, hec, (hx _ X).2, fun u r => r, kE c hc "NoLoop" (mem_errN 19 rfl), (by show 2 ≤ sizeLine; decide), fun t18 n18 => ?_⟩
    have y18 : Ext HH (upd HH t18 (.tup [.str "NoLoop", .bl (decide (c = "NoLoop"))])) := Ext.upd n18
    have f18 : (upd HH t18 (.tup [.str "NoLoop", .bl (decide (c = "NoLoop"))])) t18 = some (.tup [.str "NoLoop", .bl (decide (c = "NoLoop"))]) := upd_same
    have X := X.trans y18
    generalize (upd HH t18 (.tup [.str "NoLoop", .bl (decide (c = "NoLoop"))])) = HH at y18 f18 X ⊢
    have hL := y18 _ _ hL
    have hT := hT.ext y18
    -- HasLoop
    refine ⟨_, rfl, e, _, d, _, _, _, rfl, (hx _ X).1, hec, (hx _ X).2, fun u r => r, kE c hc "HasLoop" (mem_errN 20 rfl), (by show 2 ≤ sizeLine; decide), fun t19 n19 => ?_⟩
    have y19 : Ext HH (upd HH t19 (.tup [.str "HasLoop", .bl (decide (c = "HasLoop"))])) := Ext.upd n19
    have f19 : (upd HH t19 (.tup [.str "HasLoop", .bl (decide (c = "HasLoop"))])) t19 = some (.tup [.str "HasLoop", .bl (decide (c = "HasLoop"))]) := upd_same
    have X := X.trans y19
    generalize (upd HH t19 (.tup [.str "HasLoop", .bl (decide (c = "HasLoop"))])) = HH at y19 f19 X ⊢
    have hL := y19 _ _ hL
    have hT := hT.ext y19
    have f18 := y19 _ _ f18
    refine ⟨(by show 2 ≤ sizeLine; decide), fun l nl => ⟨L, l, xs, _, rfl, rfl, Ext.upd nl _ _ hL, upd_same, by rw [lx]; show 18 + 2 ≤ sizeLine; decide, fun L2 nL2 => ?_⟩⟩
    have hLH : H L2 = none := ext_free (X.trans (Ext.upd nl)) nL2
    have yL := (Ext.upd (o := HO.lst [V.ref t18, V.ref t19]) nl).trans (Ext.upd (o := HO.lst (xs ++ [V.ref t18, V.ref t19])) nL2)
    have hL : (upd (upd HH l (.lst [V.ref t18, V.ref t19])) L2 (.lst (xs ++ [V.ref t18, V.ref t19]))) L2 = some (.lst (xs ++ [V.ref t18, V.ref t19])) := upd_same
    have hT : TVs (upd (upd HH l (.lst [V.ref t18, V.ref t19])) L2 (.lst (xs ++ [V.ref t18, V.ref t19]))) (xs ++ [V.ref t18, V.ref t19]) (kdD c ["BadName", "BadDeed", "BadMove", "BadNumber", "BadPrice", "BadPlace", "BadPart", "BadSlots", "BadStanding", "BadRule", "Twice", "TooMany", "Unmade", "MadeAgain", "NoRoom", "Crowded", "Barred", "BadPlan", "NoLoop", "HasLoop"]) := by
      refine TVs.ext yL ?_
      rw [show kdD c ["BadName", "BadDeed", "BadMove", "BadNumber", "BadPrice", "BadPlace", "BadPart", "BadSlots", "BadStanding", "BadRule", "Twice", "TooMany", "Unmade", "MadeAgain", "NoRoom", "Crowded", "Barred", "BadPlan", "NoLoop", "HasLoop"] = kdD c ["BadName", "BadDeed", "BadMove", "BadNumber", "BadPrice", "BadPlace", "BadPart", "BadSlots", "BadStanding", "BadRule", "Twice", "TooMany", "Unmade", "MadeAgain", "NoRoom", "Crowded", "Barred", "BadPlan"] ++ kdD c ["NoLoop", "HasLoop"] from rfl]
      exact tvs_app hT (.cons (.tup f18 (.cons (.str _) (.cons (.bl _) .nil))) (.cons (.tup f19 (.cons (.str _) (.cons (.bl _) .nil))) .nil))
    have X := X.trans yL
    generalize (upd (upd HH l (.lst [V.ref t18, V.ref t19])) L2 (.lst (xs ++ [V.ref t18, V.ref t19]))) = HH at yL hL hT X ⊢
    have lx : (xs ++ [V.ref t18, V.ref t19]).length = 20 := by rw [List.length_append, lx]; rfl
    generalize (xs ++ [V.ref t18, V.ref t19]) = xs at hL hT lx ⊢
    generalize L2 = L at hL hLH nL2 ⊢
    clear nL2
    refine ⟨_, rfl, ?_⟩
    -- OneLoop
    refine ⟨_, rfl, e, _, d, _, _, _, rfl, (hx _ X).1, hec, (hx _ X).2, fun u r => r, kE c hc "OneLoop" (mem_errN 21 rfl), (by show 2 ≤ sizeLine; decide), fun t20 n20 => ?_⟩
    have y20 : Ext HH (upd HH t20 (.tup [.str "OneLoop", .bl (decide (c = "OneLoop"))])) := Ext.upd n20
    have f20 : (upd HH t20 (.tup [.str "OneLoop", .bl (decide (c = "OneLoop"))])) t20 = some (.tup [.str "OneLoop", .bl (decide (c = "OneLoop"))]) := upd_same
    have X := X.trans y20
    generalize (upd HH t20 (.tup [.str "OneLoop", .bl (decide (c = "OneLoop"))])) = HH at y20 f20 X ⊢
    have hL := y20 _ _ hL
    have hT := hT.ext y20
    -- TwoLoops
    refine ⟨_, rfl, e, _, d, _, _, _, rfl, (hx _ X).1, hec, (hx _ X).2, fun u r => r, kE c hc "TwoLoops" (mem_errN 22 rfl), (by show 2 ≤ sizeLine; decide), fun t21 n21 => ?_⟩
    have y21 : Ext HH (upd HH t21 (.tup [.str "TwoLoops", .bl (decide (c = "TwoLoops"))])) := Ext.upd n21
    have f21 : (upd HH t21 (.tup [.str "TwoLoops", .bl (decide (c = "TwoLoops"))])) t21 = some (.tup [.str "TwoLoops", .bl (decide (c = "TwoLoops"))]) := upd_same
    have X := X.trans y21
    generalize (upd HH t21 (.tup [.str "TwoLoops", .bl (decide (c = "TwoLoops"))])) = HH at y21 f21 X ⊢
    have hL := y21 _ _ hL
    have hT := hT.ext y21
    have f20 := y21 _ _ f20
    refine ⟨(by show 2 ≤ sizeLine; decide), fun l nl => ⟨L, l, xs, _, rfl, rfl, Ext.upd nl _ _ hL, upd_same, by rw [lx]; show 20 + 2 ≤ sizeLine; decide, fun L2 nL2 => ?_⟩⟩
    have hLH : H L2 = none := ext_free (X.trans (Ext.upd nl)) nL2
    have yL := (Ext.upd (o := HO.lst [V.ref t20, V.ref t21]) nl).trans (Ext.upd (o := HO.lst (xs ++ [V.ref t20, V.ref t21])) nL2)
    have hL : (upd (upd HH l (.lst [V.ref t20, V.ref t21])) L2 (.lst (xs ++ [V.ref t20, V.ref t21]))) L2 = some (.lst (xs ++ [V.ref t20, V.ref t21])) := upd_same
    have hT : TVs (upd (upd HH l (.lst [V.ref t20, V.ref t21])) L2 (.lst (xs ++ [V.ref t20, V.ref t21]))) (xs ++ [V.ref t20, V.ref t21]) (kdD c ["BadName", "BadDeed", "BadMove", "BadNumber", "BadPrice", "BadPlace", "BadPart", "BadSlots", "BadStanding", "BadRule", "Twice", "TooMany", "Unmade", "MadeAgain", "NoRoom", "Crowded", "Barred", "BadPlan", "NoLoop", "HasLoop", "OneLoop", "TwoLoops"]) := by
      refine TVs.ext yL ?_
      rw [show kdD c ["BadName", "BadDeed", "BadMove", "BadNumber", "BadPrice", "BadPlace", "BadPart", "BadSlots", "BadStanding", "BadRule", "Twice", "TooMany", "Unmade", "MadeAgain", "NoRoom", "Crowded", "Barred", "BadPlan", "NoLoop", "HasLoop", "OneLoop", "TwoLoops"] = kdD c ["BadName", "BadDeed", "BadMove", "BadNumber", "BadPrice", "BadPlace", "BadPart", "BadSlots", "BadStanding", "BadRule", "Twice", "TooMany", "Unmade", "MadeAgain", "NoRoom", "Crowded", "Barred", "BadPlan", "NoLoop", "HasLoop"] ++ kdD c ["OneLoop", "TwoLoops"] from rfl]
      exact tvs_app hT (.cons (.tup f20 (.cons (.str _) (.cons (.bl _) .nil))) (.cons (.tup f21 (.cons (.str _) (.cons (.bl _) .nil))) .nil))
    have X := X.trans yL
    generalize (upd (upd HH l (.lst [V.ref t20, V.ref t21])) L2 (.lst (xs ++ [V.ref t20, V.ref t21]))) = HH at yL hL hT X ⊢
    have lx : (xs ++ [V.ref t20, V.ref t21]).length = 22 := by rw [List.length_append, lx]; rfl
    generalize (xs ++ [V.ref t20, V.ref t21]) = xs at hL hT lx ⊢
    generalize L2 = L at hL hLH nL2 ⊢
    clear nL2
    refine ⟨_, rfl, ?_⟩
    -- Finished
    refine ⟨_, rfl, e, _, d, _, _, _, rfl, (hx _ X).1, hec, (hx _ X).2, fun u r => r, kE c hc "Finished" (mem_errN 23 rfl), (by show 2 ≤ sizeLine; decide), fun t22 n22 => ?_⟩
    have y22 : Ext HH (upd HH t22 (.tup [.str "Finished", .bl (decide (c = "Finished"))])) := Ext.upd n22
    have f22 : (upd HH t22 (.tup [.str "Finished", .bl (decide (c = "Finished"))])) t22 = some (.tup [.str "Finished", .bl (decide (c = "Finished"))]) := upd_same
    have X := X.trans y22
    generalize (upd HH t22 (.tup [.str "Finished", .bl (decide (c = "Finished"))])) = HH at y22 f22 X ⊢
    have hL := y22 _ _ hL
    have hT := hT.ext y22
    -- BadText
    refine ⟨_, rfl, e, _, d, _, _, _, rfl, (hx _ X).1, hec, (hx _ X).2, fun u r => r, kE c hc "BadText" (mem_errN 24 rfl), (by show 2 ≤ sizeLine; decide), fun t23 n23 => ?_⟩
    have y23 : Ext HH (upd HH t23 (.tup [.str "BadText", .bl (decide (c = "BadText"))])) := Ext.upd n23
    have f23 : (upd HH t23 (.tup [.str "BadText", .bl (decide (c = "BadText"))])) t23 = some (.tup [.str "BadText", .bl (decide (c = "BadText"))]) := upd_same
    have X := X.trans y23
    generalize (upd HH t23 (.tup [.str "BadText", .bl (decide (c = "BadText"))])) = HH at y23 f23 X ⊢
    have hL := y23 _ _ hL
    have hT := hT.ext y23
    have f22 := y23 _ _ f22
    refine ⟨(by show 2 ≤ sizeLine; decide), fun l nl => ⟨L, l, xs, _, rfl, rfl, Ext.upd nl _ _ hL, upd_same, by rw [lx]; show 22 + 2 ≤ sizeLine; decide, fun L2 nL2 => ?_⟩⟩
    have hLH : H L2 = none := ext_free (X.trans (Ext.upd nl)) nL2
    have yL := (Ext.upd (o := HO.lst [V.ref t22, V.ref t23]) nl).trans (Ext.upd (o := HO.lst (xs ++ [V.ref t22, V.ref t23])) nL2)
    have hL : (upd (upd HH l (.lst [V.ref t22, V.ref t23])) L2 (.lst (xs ++ [V.ref t22, V.ref t23]))) L2 = some (.lst (xs ++ [V.ref t22, V.ref t23])) := upd_same
    have hT : TVs (upd (upd HH l (.lst [V.ref t22, V.ref t23])) L2 (.lst (xs ++ [V.ref t22, V.ref t23]))) (xs ++ [V.ref t22, V.ref t23]) (kdD c ["BadName", "BadDeed", "BadMove", "BadNumber", "BadPrice", "BadPlace", "BadPart", "BadSlots", "BadStanding", "BadRule", "Twice", "TooMany", "Unmade", "MadeAgain", "NoRoom", "Crowded", "Barred", "BadPlan", "NoLoop", "HasLoop", "OneLoop", "TwoLoops", "Finished", "BadText"]) := by
      refine TVs.ext yL ?_
      rw [show kdD c ["BadName", "BadDeed", "BadMove", "BadNumber", "BadPrice", "BadPlace", "BadPart", "BadSlots", "BadStanding", "BadRule", "Twice", "TooMany", "Unmade", "MadeAgain", "NoRoom", "Crowded", "Barred", "BadPlan", "NoLoop", "HasLoop", "OneLoop", "TwoLoops", "Finished", "BadText"] = kdD c ["BadName", "BadDeed", "BadMove", "BadNumber", "BadPrice", "BadPlace", "BadPart", "BadSlots", "BadStanding", "BadRule", "Twice", "TooMany", "Unmade", "MadeAgain", "NoRoom", "Crowded", "Barred", "BadPlan", "NoLoop", "HasLoop", "OneLoop", "TwoLoops"] ++ kdD c ["Finished", "BadText"] from rfl]
      exact tvs_app hT (.cons (.tup f22 (.cons (.str _) (.cons (.bl _) .nil))) (.cons (.tup f23 (.cons (.str _) (.cons (.bl _) .nil))) .nil))
    have X := X.trans yL
    generalize (upd (upd HH l (.lst [V.ref t22, V.ref t23])) L2 (.lst (xs ++ [V.ref t22, V.ref t23]))) = HH at yL hL hT X ⊢
    have lx : (xs ++ [V.ref t22, V.ref t23]).length = 24 := by rw [List.length_append, lx]; rfl
    generalize (xs ++ [V.ref t22, V.ref t23]) = xs at hL hT lx ⊢
    generalize L2 = L at hL hLH nL2 ⊢
    clear nL2
    refine ⟨fun σ' H' => ∃ (L : Addr) (xs : List V), σ' = [some (.ref e), some (.ref L), none, none] ∧ Ext H H' ∧ H' L = some (.lst xs) ∧ TVs H' xs (kdD c kinN), ?_, ?_⟩
    rotate_left
    rotate_left
    refine ⟨_, rfl, .inl ⟨rfl, _, SqL.of hL⟩, ?_⟩
    -- BadLine
    refine ⟨_, rfl, e, _, d, _, _, _, rfl, (hx _ X).1, hec, (hx _ X).2, fun u r => r, kE c hc "BadLine" (mem_errN 17 rfl), (by show 2 ≤ sizeLine; decide), fun t24 n24 => ?_⟩
    have y24 : Ext HH (upd HH t24 (.tup [.str "BadLine", .bl (decide (c = "BadLine"))])) := Ext.upd n24
    have f24 : (upd HH t24 (.tup [.str "BadLine", .bl (decide (c = "BadLine"))])) t24 = some (.tup [.str "BadLine", .bl (decide (c = "BadLine"))]) := upd_same
    have X := X.trans y24
    generalize (upd HH t24 (.tup [.str "BadLine", .bl (decide (c = "BadLine"))])) = HH at y24 f24 X ⊢
    have hL := y24 _ _ hL
    have hT := hT.ext y24
    refine ⟨L, xs, _, rfl, rfl, hL, by rw [lx]; show 24 < sizeLine; decide, ?_⟩
    have fL : (upd HH L (.lst (xs ++ [V.ref t24]))) L = some (.lst (xs ++ [V.ref t24])) := upd_same
    have kL : Ext H (upd HH L (.lst (xs ++ [V.ref t24]))) := fun b o z => by rw [upd_ne (ne_of_none z hLH)]; exact X b o z
    have hT2 : TVs (upd HH L (.lst (xs ++ [V.ref t24]))) (xs ++ [V.ref t24]) (kdD c kinN) := by
      rw [show kdD c kinN = kdD c ["BadName", "BadDeed", "BadMove", "BadNumber", "BadPrice", "BadPlace", "BadPart", "BadSlots", "BadStanding", "BadRule", "Twice", "TooMany", "Unmade", "MadeAgain", "NoRoom", "Crowded", "Barred", "BadPlan", "NoLoop", "HasLoop", "OneLoop", "TwoLoops", "Finished", "BadText"] ++ kdD c ["BadLine"] from rfl]
      exact tvs_app (kd_upd hL hT) (kd_upd (ns := ["BadLine"]) hL (.cons (.tup f24 (.cons (.str _) (.cons (.bl _) .nil))) .nil))
    generalize (upd HH L (.lst (xs ++ [V.ref t24]))) = HH at fL kL hT2 ⊢
    generalize (xs ++ [V.ref t24]) = xs at fL hT2 ⊢
    exact ⟨_, _, rfl, kL, fL, hT2⟩
    rintro σ' HH ⟨L, xs, rfl, kL, fL, hT2⟩
    have lxs := hT2.len
    refine ⟨_, rfl, L, rfl, ⟨_, SqL.of fL⟩, fun D hD => ?_⟩
    refine lc_it (walk_list (xs := xs)) (fun i H' => H' D = some (.lst (((kinN.take i).filter fun n => decide (c = n)).map V.str)) ∧ Ext HH H') ⟨upd_same, Ext.upd hD⟩ (fun _ H' _ hh => SqL.of (hh.2 _ _ fL)) ?_ ?_
    · rintro i x H3 _ hi ⟨g1, g2⟩ ⟨rfl, hx⟩
      obtain ⟨dd, hd1, hv⟩ := hT2.at_ hx
      unfold kdD at hd1
      rw [List.getElem?_map] at hd1
      obtain ⟨n, hn, rfl⟩ := Option.map_eq_some_iff.mp hd1
      have tk : kinN.take (i + 1) = kinN.take i ++ [n] := by rw [List.take_add_one, hn]; rfl
      cases hv with
      | tup e h =>
        cases h with
        | cons h1 h =>
          cases h1
          cases h with
          | cons h2 h =>
            cases h2
            cases h
            refine ⟨_, _, rfl, SqT.of (g2 _ _ e), rfl, _, _, rfl, _, _, rfl, rfl, rfl, _, rfl, _, rfl, ?_⟩
            by_cases ec : c = n
            · refine iteYes (decide_eq_true ec) ?_
              refine ⟨_, rfl, _, g1, ?_, ?_, ?_⟩
              · rw [List.length_map]
                have := List.length_filter_le (fun n => decide (c = n)) (kinN.take i)
                have := (List.take_sublist i kinN).length_le
                have : kinN.length = 25 := rfl
                have : sizeLine = 16777216 := sizeLine_eq
                omega
              · rw [upd_same, tk, List.filter_append, List.map_append]
                rw [show ([n].filter fun n => decide (c = n)) = [n] from by simp [ec]]
                rfl
              · exact fun b o q => by rw [upd_ne (ne_of_none q hD)]; exact g2 b o q
            · refine iteNo (decide_eq_false ec) ?_
              refine ⟨?_, g2⟩
              rw [tk, List.filter_append, show ([n].filter fun n => decide (c = n)) = [] from by simp [ec], List.append_nil]
              exact g1
    · rintro H3 ⟨g1, g2⟩
      have e25 : xs.length = kinN.length := by rw [lxs]; exact List.length_map _
      rw [e25, List.take_length, only_one kin_nd (kin_in hc)] at g1
      exact k D H3 (kL.trans g2) g1
end
end K01
end
section
set_option Elab.async false
set_option autoImplicit false
set_option linter.all false
set_option maxRecDepth 100000
set_option maxHeartbeats 4000000
namespace K01
open PySem PySem.Spec PyProof.Rows L2 Ls
open C8 (pss_cut tCut)
open TL
/-- an own error class without fields -/
structure Xe0 (K : PySem.W.Frag) (mg : Str → Option Value) (C : Addr) (x : Str) : Prop where
  m : mg x = some (.ref C)
  x : PySem.W.excIn K C [.type "ValueError", .type "Exception", .type "BaseException", .type "object"] "ValueError.__new__" = true
  k : PySem.W.keepIn K (.ref C) = true
  b : PySem.W.subIn K (.ref C) (.type "BaseException") = some true
  t : PySem.W.typeIn K (.ref C) = some (.type "type")
theorem its_ext {EC : Str → Addr} {vs xs : List V} {H H' : Hp} {es : List Ef} (h : Paired (ItAt EC vs H) xs es) (e : Ext H H') : Paired (ItAt EC vs H') xs es := Paired.mono (fun _ _ q => q.ext e) h
theorem its_upd {EC : Str → Addr} {vs xs zs : List V} {H : Hp} {L : Addr} {o : HO} {es : List Ef} (hL : H L = some (.lst zs)) (h : Paired (ItAt EC vs H) xs es) : Paired (ItAt EC vs (upd H L o)) xs es := Paired.mono (fun v x ⟨t, e, dk, h1, h2, h3, h4⟩ => by
  have ne : ∀ {b : Addr} {u : HO}, H b = some u → (∀ zs, u ≠ .lst zs) → (upd H L o) b = some u := fun {b u} q z => by
    rw [upd_ne (ne_of q hL (z _))]
    exact q
  refine ⟨t, e, dk, h1, ne h2 (fun _ z => by cases z), ?_, ne h4 (fun _ z => by cases z)⟩
  rcases h3 with ⟨q1, q2⟩ | ⟨dd, q1, q2, q3⟩
  · exact .inl ⟨q1, ne q2 (fun _ z => by unfold exk at z; cases z)⟩
  · exact .inr ⟨dd, q1, ne q2 (fun _ z => by unfold exk at z; cases z), ne q3 (fun _ z => by cases z)⟩) h
theorem it_new {EC : Str → Addr} {vs : List V} {H : Hp} {c : Str} {fs : List (Str × Nat)} {d a p t : Addr} {xs : List (Str × V)} {kvs : List (Key × V)} (hf : fldV vs fs ≠ []) (hxs : xs = (fldV vs fs).reverse) (hk : kvs = (fldV vs fs).map fun p => (Sum.inr p.1, p.2))
    (nd : H d = none) (na : (upd H d (.xd xs)) a = none) (np : (upd (upd H d (.xd xs)) a (exk a (.ref (EC c)) (some d))) p = none) (nt : (upd (upd (upd H d (.xd xs)) a (exk a (.ref (EC c)) (some d))) p (.dK kvs)) t = none) :
    Ext H (upd (upd (upd (upd H d (.xd xs)) a (exk a (.ref (EC c)) (some d))) p (.dK kvs)) t (.tup [.ref a, .str c, .ref p])) ∧ ItAt EC vs (upd (upd (upd (upd H d (.xd xs)) a (exk a (.ref (EC c)) (some d))) p (.dK kvs)) t (.tup [.ref a, .str c, .ref p])) (.ref t) (c, fs) := by
  subst hxs hk
  have e1 := Ext.upd (o := HO.xd (fldV vs fs).reverse) nd
  have e2 := Ext.upd (o := exk a (.ref (EC c)) (some d)) na
  have e3 := Ext.upd (o := HO.dK ((fldV vs fs).map fun p => (Sum.inr p.1, p.2))) np
  have e4 := Ext.upd (o := HO.tup [.ref a, .str c, .ref p]) nt
  exact ⟨e1.trans (e2.trans (e3.trans e4)), t, a, p, rfl, upd_same, .inr ⟨d, hf, e4 _ _ (e3 _ _ upd_same), e4 _ _ (e3 _ _ (e2 _ _ upd_same))⟩, e4 _ _ upd_same⟩
theorem it_new0 {EC : Str → Addr} {vs : List V} {H : Hp} {c : Str} {a p t : Addr} (na : H a = none) (np : (upd H a (exk a (.ref (EC c)) none)) p = none) (nt : (upd (upd H a (exk a (.ref (EC c)) none)) p (.dK [])) t = none) :
    Ext H (upd (upd (upd H a (exk a (.ref (EC c)) none)) p (.dK [])) t (.tup [.ref a, .str c, .ref p])) ∧ ItAt EC vs (upd (upd (upd H a (exk a (.ref (EC c)) none)) p (.dK [])) t (.tup [.ref a, .str c, .ref p])) (.ref t) (c, []) := by
  have e2 := Ext.upd (o := exk a (.ref (EC c)) none) na
  have e3 := Ext.upd (o := HO.dK []) np
  have e4 := Ext.upd (o := HO.tup [.ref a, .str c, .ref p]) nt
  exact ⟨e2.trans (e3.trans e4), t, a, p, rfl, upd_same, .inl ⟨rfl, e4 _ _ (e3 _ _ upd_same)⟩, e4 _ _ upd_same⟩
section
variable {P : Program} {w : World} {K : PySem.W.Frag} {mg : Str → Option Value} {base : Heap} {EC : Str → Addr} {CE CD CU CM CO : Addr} {tL tN tU : Tok}
/-! ### _law_errors -/
def spErrs (EC : Str → Addr) : Sp := fun vs H Q _ => ∃ (va vb vc vd : V), vs = [va, vb, vc, vd] ∧ ∀ l xs H', Ext H H' → H' l = some (.lst xs) → Paired (ItAt EC [va, vb, vc, vd] H') xs errL → Q (.ref l) H'
abbrev s__law_errors : Stmt := top 52
abbrev N__law_errors : List Str := ["_law_a", "_law_b", "_law_c", "_law_d", "_law_found"]
theorem sc__law_errors : FnScope N__law_errors ["_law_a", "_law_b", "_law_c", "_law_d"] (defScope s__law_errors) := ⟨rfl, rfl, rfl, by decide +kernel, rfl, by decide +kernel, by decide +kernel⟩
theorem ok_errs {f : Addr} {fd : FuncData} (F : Fun K "_law_errors" "_law_errors" s__law_errors f fd) (T : Tx K mg EC CE CD CU CM CO tL tN tU)
    (x_BadName : Xer P w K mg base (EC "BadName") "BadName" ["value"]) (x_BadDeed : Xer P w K mg base (EC "BadDeed") "BadDeed" ["value"]) (x_BadMove : Xer P w K mg base (EC "BadMove") "BadMove" ["value"]) (x_BadNumber : Xer P w K mg base (EC "BadNumber") "BadNumber" ["value"]) (x_BadPrice : Xer P w K mg base (EC "BadPrice") "BadPrice" ["value"]) (x_BadPlace : Xer P w K mg base (EC "BadPlace") "BadPlace" ["value"]) (x_BadPart : Xer P w K mg base (EC "BadPart") "BadPart" ["part"]) (x_BadSlots : Xer P w K mg base (EC "BadSlots") "BadSlots" ["value"]) (x_BadStanding : Xer P w K mg base (EC "BadStanding") "BadStanding" ["value"]) (x_BadRule : Xer P w K mg base (EC "BadRule") "BadRule" ["value"]) (x_Twice : Xer P w K mg base (EC "Twice") "Twice" ["name"]) (x_TooMany : Xer P w K mg base (EC "TooMany") "TooMany" ["most"]) (x_Unmade : Xer P w K mg base (EC "Unmade") "Unmade" ["place", "name"]) (x_MadeAgain : Xer P w K mg base (EC "MadeAgain") "MadeAgain" ["place", "name"]) (x_NoRoom : Xer P w K mg base (EC "NoRoom") "NoRoom" ["place"]) (x_Crowded : Xer P w K mg base (EC "Crowded") "Crowded" ["place"]) (x_Barred : Xer P w K mg base (EC "Barred") "Barred" ["word", "name"]) (x_BadPlan : Xer P w K mg base (EC "BadPlan") "BadPlan" ["at", "index", "word", "name"]) (x_BadText : Xer P w K mg base (EC "BadText") "BadText" ["line", "word"]) (x_BadLine : Xer P w K mg base (EC "BadLine") "BadLine" ["word"]) (o_NoLoop : Xe0 K mg (EC "NoLoop") "NoLoop") (o_HasLoop : Xe0 K mg (EC "HasLoop") "HasLoop") (o_OneLoop : Xe0 K mg (EC "OneLoop") "OneLoop") (o_TwoLoops : Xe0 K mg (EC "TwoLoops") "TwoLoops") (o_Finished : Xe0 K mg (EC "Finished") "Finished") :
    FnOk P w K mg base CX0 3 f fd ["_law_a", "_law_b", "_law_c", "_law_d"] (spErrs EC) := by
  refine F.ok sc__law_errors (fun vs H Q E h => ?_) (fun cdv A outer s H vs Q E hr h => ?_)
  · obtain ⟨va, vb, vc, vd, rfl, _⟩ := h
    rfl
  · obtain ⟨va, vb, vc, vd, rfl, k⟩ := h
    refine ⟨_, (pss_cons (ps_set (i := 4) sc__law_errors.nd rfl (by first | exact Or.inl rfl | exact Or.inr rfl) (pe_lst (pa_cons (pe_tup (pa_cons (pe_mkx (pmk_err x_BadName (hr.mono (by decide)) (by rfl) (pa_cons (pv 0) pa_nil))) (pa_cons pe_str (pa_cons (pe_disp (pps_cons pe_str (pv 0) pps_nil) (by rfl) (by rfl) (fun z => by cases z) (by decide)) pa_nil)))) (pa_cons (pe_tup (pa_cons (pe_mkx (pmk_err x_BadDeed (hr.mono (by decide)) (by rfl) (pa_cons (pv 0) pa_nil))) (pa_cons pe_str (pa_cons (pe_disp (pps_cons pe_str (pv 0) pps_nil) (by rfl) (by rfl) (fun z => by cases z) (by decide)) pa_nil)))) pa_nil))))
      (pss_cons (ps_set (i := 4) sc__law_errors.nd rfl (by first | exact Or.inl rfl | exact Or.inr rfl) (pe_op op_cat (pv 4) (pe_lst (pa_cons (pe_tup (pa_cons (pe_mkx (pmk_err x_BadMove (hr.mono (by decide)) (by rfl) (pa_cons (pv 0) pa_nil))) (pa_cons pe_str (pa_cons (pe_disp (pps_cons pe_str (pv 0) pps_nil) (by rfl) (by rfl) (fun z => by cases z) (by decide)) pa_nil)))) (pa_cons (pe_tup (pa_cons (pe_mkx (pmk_err x_BadNumber (hr.mono (by decide)) (by rfl) (pa_cons (pv 0) pa_nil))) (pa_cons pe_str (pa_cons (pe_disp (pps_cons pe_str (pv 0) pps_nil) (by rfl) (by rfl) (fun z => by cases z) (by decide)) pa_nil)))) pa_nil)))))
      (pss_cons (ps_set (i := 4) sc__law_errors.nd rfl (by first | exact Or.inl rfl | exact Or.inr rfl) (pe_op op_cat (pv 4) (pe_lst (pa_cons (pe_tup (pa_cons (pe_mkx (pmk_err x_BadPrice (hr.mono (by decide)) (by rfl) (pa_cons (pv 0) pa_nil))) (pa_cons pe_str (pa_cons (pe_disp (pps_cons pe_str (pv 0) pps_nil) (by rfl) (by rfl) (fun z => by cases z) (by decide)) pa_nil)))) (pa_cons (pe_tup (pa_cons (pe_mkx (pmk_err x_BadPlace (hr.mono (by decide)) (by rfl) (pa_cons (pv 0) pa_nil))) (pa_cons pe_str (pa_cons (pe_disp (pps_cons pe_str (pv 0) pps_nil) (by rfl) (by rfl) (fun z => by cases z) (by decide)) pa_nil)))) pa_nil)))))
      (pss_cons (ps_set (i := 4) sc__law_errors.nd rfl (by first | exact Or.inl rfl | exact Or.inr rfl) (pe_op op_cat (pv 4) (pe_lst (pa_cons (pe_tup (pa_cons (pe_mkx (pmk_err x_BadPart (hr.mono (by decide)) (by rfl) (pa_cons (pv 0) pa_nil))) (pa_cons pe_str (pa_cons (pe_disp (pps_cons pe_str (pv 0) pps_nil) (by rfl) (by rfl) (fun z => by cases z) (by decide)) pa_nil)))) (pa_cons (pe_tup (pa_cons (pe_mkx (pmk_err x_BadSlots (hr.mono (by decide)) (by rfl) (pa_cons (pv 0) pa_nil))) (pa_cons pe_str (pa_cons (pe_disp (pps_cons pe_str (pv 0) pps_nil) (by rfl) (by rfl) (fun z => by cases z) (by decide)) pa_nil)))) pa_nil)))))
      (pss_cons (ps_set (i := 4) sc__law_errors.nd rfl (by first | exact Or.inl rfl | exact Or.inr rfl) (pe_op op_cat (pv 4) (pe_lst (pa_cons (pe_tup (pa_cons (pe_mkx (pmk_err x_BadStanding (hr.mono (by decide)) (by rfl) (pa_cons (pv 0) pa_nil))) (pa_cons pe_str (pa_cons (pe_disp (pps_cons pe_str (pv 0) pps_nil) (by rfl) (by rfl) (fun z => by cases z) (by decide)) pa_nil)))) (pa_cons (pe_tup (pa_cons (pe_mkx (pmk_err x_BadRule (hr.mono (by decide)) (by rfl) (pa_cons (pv 0) pa_nil))) (pa_cons pe_str (pa_cons (pe_disp (pps_cons pe_str (pv 0) pps_nil) (by rfl) (by rfl) (fun z => by cases z) (by decide)) pa_nil)))) pa_nil)))))
      (pss_cons (ps_set (i := 4) sc__law_errors.nd rfl (by first | exact Or.inl rfl | exact Or.inr rfl) (pe_op op_cat (pv 4) (pe_lst (pa_cons (pe_tup (pa_cons (pe_mkx (pmk_err x_Twice (hr.mono (by decide)) (by rfl) (pa_cons (pv 0) pa_nil))) (pa_cons pe_str (pa_cons (pe_disp (pps_cons pe_str (pv 0) pps_nil) (by rfl) (by rfl) (fun z => by cases z) (by decide)) pa_nil)))) (pa_cons (pe_tup (pa_cons (pe_mkx (pmk_err x_TooMany (hr.mono (by decide)) (by rfl) (pa_cons (pv 0) pa_nil))) (pa_cons pe_str (pa_cons (pe_disp (pps_cons pe_str (pv 0) pps_nil) (by rfl) (by rfl) (fun z => by cases z) (by decide)) pa_nil)))) pa_nil)))))
      (pss_cons (ps_set (i := 4) sc__law_errors.nd rfl (by first | exact Or.inl rfl | exact Or.inr rfl) (pe_op op_cat (pv 4) (pe_lst (pa_cons (pe_tup (pa_cons (pe_mkx (pmk_err x_Unmade (hr.mono (by decide)) (by rfl) (pa_cons (pv 0) (pa_cons (pv 1) pa_nil)))) (pa_cons pe_str (pa_cons (pe_disp (pps_cons pe_str (pv 0) (pps_cons pe_str (pv 1) pps_nil)) (by rfl) (by rfl) (fun z => by cases z) (by decide)) pa_nil)))) (pa_cons (pe_tup (pa_cons (pe_mkx (pmk_err x_NoRoom (hr.mono (by decide)) (by rfl) (pa_cons (pv 0) pa_nil))) (pa_cons pe_str (pa_cons (pe_disp (pps_cons pe_str (pv 0) pps_nil) (by rfl) (by rfl) (fun z => by cases z) (by decide)) pa_nil)))) pa_nil)))))
      (pss_cons (ps_set (i := 4) sc__law_errors.nd rfl (by first | exact Or.inl rfl | exact Or.inr rfl) (pe_op op_cat (pv 4) (pe_lst (pa_cons (pe_tup (pa_cons (pe_mkx (pmk_err x_MadeAgain (hr.mono (by decide)) (by rfl) (pa_cons (pv 0) (pa_cons (pv 1) pa_nil)))) (pa_cons pe_str (pa_cons (pe_disp (pps_cons pe_str (pv 0) (pps_cons pe_str (pv 1) pps_nil)) (by rfl) (by rfl) (fun z => by cases z) (by decide)) pa_nil)))) (pa_cons (pe_tup (pa_cons (pe_mkx (pmk_err x_Crowded (hr.mono (by decide)) (by rfl) (pa_cons (pv 0) pa_nil))) (pa_cons pe_str (pa_cons (pe_disp (pps_cons pe_str (pv 0) pps_nil) (by rfl) (by rfl) (fun z => by cases z) (by decide)) pa_nil)))) pa_nil)))))
      (pss_cons (ps_set (i := 4) sc__law_errors.nd rfl (by first | exact Or.inl rfl | exact Or.inr rfl) (pe_op op_cat (pv 4) (pe_lst (pa_cons (pe_tup (pa_cons (pe_mkx (pmk_err x_Barred (hr.mono (by decide)) (by rfl) (pa_cons (pv 0) (pa_cons (pv 1) pa_nil)))) (pa_cons pe_str (pa_cons (pe_disp (pps_cons pe_str (pv 0) (pps_cons pe_str (pv 1) pps_nil)) (by rfl) (by rfl) (fun z => by cases z) (by decide)) pa_nil)))) (pa_cons (pe_tup (pa_cons (pe_mkx (pmk_err x_BadLine (hr.mono (by decide)) (by rfl) (pa_cons (pv 0) pa_nil))) (pa_cons pe_str (pa_cons (pe_disp (pps_cons pe_str (pv 0) pps_nil) (by rfl) (by rfl) (fun z => by cases z) (by decide)) pa_nil)))) pa_nil)))))
      (pss_cons (ps_expr (pe_bm PySem.F.plainAttrs_list PySem.F.slot_list_append PySem.F.type_list_append mt_append (pv 4) (pa_cons (pe_tup (pa_cons (pe_mkx (pmk_err x_BadPlan (hr.mono (by decide)) (by rfl) (pa_cons (pv 0) (pa_cons (pv 1) (pa_cons (pv 2) (pa_cons (pv 3) pa_nil)))))) (pa_cons pe_str (pa_cons (pe_disp (pps_cons pe_str (pv 0) (pps_cons pe_str (pv 1) (pps_cons pe_str (pv 2) (pps_cons pe_str (pv 3) pps_nil)))) (by rfl) (by rfl) (fun z => by cases z) (by decide)) pa_nil)))) pa_nil)))
      (pss_cons (ps_set (i := 4) sc__law_errors.nd rfl (by first | exact Or.inl rfl | exact Or.inr rfl) (pe_op op_cat (pv 4) (pe_lst (pa_cons (pe_tup (pa_cons (pe_mkx (pmk_own0 PySem.F.excBase_ValueError o_NoLoop.x o_NoLoop.m o_NoLoop.k (raises_own o_NoLoop.b o_NoLoop.t) (by rfl))) (pa_cons pe_str (pa_cons pe_dnewK pa_nil)))) (pa_cons (pe_tup (pa_cons (pe_mkx (pmk_own0 PySem.F.excBase_ValueError o_HasLoop.x o_HasLoop.m o_HasLoop.k (raises_own o_HasLoop.b o_HasLoop.t) (by rfl))) (pa_cons pe_str (pa_cons pe_dnewK pa_nil)))) (pa_cons (pe_tup (pa_cons (pe_mkx (pmk_own0 PySem.F.excBase_ValueError o_OneLoop.x o_OneLoop.m o_OneLoop.k (raises_own o_OneLoop.b o_OneLoop.t) (by rfl))) (pa_cons pe_str (pa_cons pe_dnewK pa_nil)))) pa_nil))))))
      (pss_cons (ps_set (i := 4) sc__law_errors.nd rfl (by first | exact Or.inl rfl | exact Or.inr rfl) (pe_op op_cat (pv 4) (pe_lst (pa_cons (pe_tup (pa_cons (pe_mkx (pmk_own0 PySem.F.excBase_ValueError o_TwoLoops.x o_TwoLoops.m o_TwoLoops.k (raises_own o_TwoLoops.b o_TwoLoops.t) (by rfl))) (pa_cons pe_str (pa_cons pe_dnewK pa_nil)))) (pa_cons (pe_tup (pa_cons (pe_mkx (pmk_own0 PySem.F.excBase_ValueError o_Finished.x o_Finished.m o_Finished.k (raises_own o_Finished.b o_Finished.t) (by rfl))) (pa_cons pe_str (pa_cons pe_dnewK pa_nil)))) pa_nil)))))
      (pss_one (ps_ret (pe_op op_cat (pv 4) (pe_lst (pa_cons (pe_tup (pa_cons (pe_mkx (pmk_err x_BadText (hr.mono (by decide)) (by rfl) (pa_cons (pv 0) (pa_cons (pv 1) pa_nil)))) (pa_cons pe_str (pa_cons (pe_disp (pps_cons pe_str (pv 0) (pps_cons pe_str (pv 1) pps_nil)) (by rfl) (by rfl) (fun z => by cases z) (by decide)) pa_nil)))) pa_nil))))))))))))))))), ?_⟩
    have X : Ext H H := Ext.rfl'
    -- BadName
    refine ⟨_, rfl, rfl, (by show 1 ≤ 1000; decide), fun d0 nd0 a0 na0 p0 np0 => ⟨_, rfl, upd_same, [(Sum.inr "value", va)], rfl, (by show 1 ≤ 15; decide), ?_⟩⟩
    rw [upd_upd, show mergeK [] [((Sum.inr "value" : Key), (va : V))] = [((Sum.inr "value" : Key), (va : V))] from by kernel_rfl]
    refine ⟨(by show 3 ≤ sizeLine; decide), fun t0 nt0 => ?_⟩
    obtain ⟨y0, i0⟩ := it_new (EC := EC) (vs := [va, vb, vc, vd]) (c := "BadName") (fs := [("value", 0)]) (xs := ((["value"] : List Str).zip [va]).reverse) (kvs := [((Sum.inr "value" : Key), (va : V))]) (List.cons_ne_nil _ _) rfl rfl nd0 na0 np0 nt0
    have X := X.trans y0
    generalize (upd (upd (upd (upd H d0 (.xd ((["value"] : List Str).zip [va]).reverse)) a0 (exk a0 (.ref (EC "BadName")) (some d0))) p0 (.dK [((Sum.inr "value" : Key), (va : V))])) t0 (.tup [.ref a0, .str "BadName", .ref p0])) = HH at y0 i0 X ⊢
    -- BadDeed
    refine ⟨_, rfl, rfl, (by show 1 ≤ 1000; decide), fun d1 nd1 a1 na1 p1 np1 => ⟨_, rfl, upd_same, [(Sum.inr "value", va)], rfl, (by show 1 ≤ 15; decide), ?_⟩⟩
    rw [upd_upd, show mergeK [] [((Sum.inr "value" : Key), (va : V))] = [((Sum.inr "value" : Key), (va : V))] from by kernel_rfl]
    refine ⟨(by show 3 ≤ sizeLine; decide), fun t1 nt1 => ?_⟩
    obtain ⟨y1, i1⟩ := it_new (EC := EC) (vs := [va, vb, vc, vd]) (c := "BadDeed") (fs := [("value", 0)]) (xs := ((["value"] : List Str).zip [va]).reverse) (kvs := [((Sum.inr "value" : Key), (va : V))]) (List.cons_ne_nil _ _) rfl rfl nd1 na1 np1 nt1
    have X := X.trans y1
    generalize (upd (upd (upd (upd HH d1 (.xd ((["value"] : List Str).zip [va]).reverse)) a1 (exk a1 (.ref (EC "BadDeed")) (some d1))) p1 (.dK [((Sum.inr "value" : Key), (va : V))])) t1 (.tup [.ref a1, .str "BadDeed", .ref p1])) = HH at y1 i1 X ⊢
    have i0 := i0.ext y1
    have hT : Paired (ItAt EC [va, vb, vc, vd] HH) [V.ref t0, V.ref t1] [("BadName", [("value", 0)]), ("BadDeed", [("value", 0)])] := (.cons i0 (.cons i1 .nil))
    refine ⟨(by show 2 ≤ sizeLine; decide), fun L nL => ?_⟩
    have yL : Ext HH (upd HH L (.lst [V.ref t0, V.ref t1])) := Ext.upd nL
    have hL : (upd HH L (.lst [V.ref t0, V.ref t1])) L = some (.lst [V.ref t0, V.ref t1]) := upd_same
    have hT := its_ext hT yL
    have X := X.trans yL
    generalize (upd HH L (.lst [V.ref t0, V.ref t1])) = HH at yL hL hT X ⊢
    generalize hxs : ([V.ref t0, V.ref t1] : List V) = xs at hL hT
    have lx : xs.length = 2 := by rw [← hxs]; rfl
    clear hxs
    refine ⟨_, rfl, ?_⟩
    -- BadMove
    refine ⟨_, rfl, rfl, (by show 1 ≤ 1000; decide), fun d2 nd2 a2 na2 p2 np2 => ⟨_, rfl, upd_same, [(Sum.inr "value", va)], rfl, (by show 1 ≤ 15; decide), ?_⟩⟩
    rw [upd_upd, show mergeK [] [((Sum.inr "value" : Key), (va : V))] = [((Sum.inr "value" : Key), (va : V))] from by kernel_rfl]
    refine ⟨(by show 3 ≤ sizeLine; decide), fun t2 nt2 => ?_⟩
    obtain ⟨y2, i2⟩ := it_new (EC := EC) (vs := [va, vb, vc, vd]) (c := "BadMove") (fs := [("value", 0)]) (xs := ((["value"] : List Str).zip [va]).reverse) (kvs := [((Sum.inr "value" : Key), (va : V))]) (List.cons_ne_nil _ _) rfl rfl nd2 na2 np2 nt2
    have X := X.trans y2
    generalize (upd (upd (upd (upd HH d2 (.xd ((["value"] : List Str).zip [va]).reverse)) a2 (exk a2 (.ref (EC "BadMove")) (some d2))) p2 (.dK [((Sum.inr "value" : Key), (va : V))])) t2 (.tup [.ref a2, .str "BadMove", .ref p2])) = HH at y2 i2 X ⊢
    have hL := y2 _ _ hL
    have hT := its_ext hT y2
    -- BadNumber
    refine ⟨_, rfl, rfl, (by show 1 ≤ 1000; decide), fun d3 nd3 a3 na3 p3 np3 => ⟨_, rfl, upd_same, [(Sum.inr "value", va)], rfl, (by show 1 ≤ 15; decide), ?_⟩⟩
    rw [upd_upd, show mergeK [] [((Sum.inr "value" : Key), (va : V))] = [((Sum.inr "value" : Key), (va : V))] from by kernel_rfl]
    refine ⟨(by show 3 ≤ sizeLine; decide), fun t3 nt3 => ?_⟩
    obtain ⟨y3, i3⟩ := it_new (EC := EC) (vs := [va, vb, vc, vd]) (c := "BadNumber") (fs := [("value", 0)]) (xs := ((["value"] : List Str).zip [va]).reverse) (kvs := [((Sum.inr "value" : Key), (va : V))]) (List.cons_ne_nil _ _) rfl rfl nd3 na3 np3 nt3
    have X := X.trans y3
    generalize (upd (upd (upd (upd HH d3 (.xd ((["value"] : List Str).zip [va]).reverse)) a3 (exk a3 (.ref (EC "BadNumber")) (some d3))) p3 (.dK [((Sum.inr "value" : Key), (va : V))])) t3 (.tup [.ref a3, .str "BadNumber", .ref p3])) = HH at y3 i3 X ⊢
    have hL := y3 _ _ hL
    have hT := its_ext hT y3
    have i2 := i2.ext y3
    refine ⟨(by show 2 ≤ sizeLine; decide), fun l nl => ⟨L, l, xs, _, rfl, rfl, Ext.upd nl _ _ hL, upd_same, by rw [lx]; show 2 + 2 ≤ sizeLine; decide, fun L2 nL2 => ?_⟩⟩
    have hLH : H L2 = none := ext_free (X.trans (Ext.upd nl)) nL2
    have yL := (Ext.upd (o := HO.lst [V.ref t2, V.ref t3]) nl).trans (Ext.upd (o := HO.lst (xs ++ [V.ref t2, V.ref t3])) nL2)
    have hL : (upd (upd HH l (.lst [V.ref t2, V.ref t3])) L2 (.lst (xs ++ [V.ref t2, V.ref t3]))) L2 = some (.lst (xs ++ [V.ref t2, V.ref t3])) := upd_same
    have hT : Paired (ItAt EC [va, vb, vc, vd] (upd (upd HH l (.lst [V.ref t2, V.ref t3])) L2 (.lst (xs ++ [V.ref t2, V.ref t3])))) (xs ++ [V.ref t2, V.ref t3]) [("BadName", [("value", 0)]), ("BadDeed", [("value", 0)]), ("BadMove", [("value", 0)]), ("BadNumber", [("value", 0)])] := its_ext (paired_app hT (.cons i2 (.cons i3 .nil))) yL
    have X := X.trans yL
    generalize (upd (upd HH l (.lst [V.ref t2, V.ref t3])) L2 (.lst (xs ++ [V.ref t2, V.ref t3]))) = HH at yL hL hT X ⊢
    have lx : (xs ++ [V.ref t2, V.ref t3]).length = 4 := by rw [List.length_append, lx]; rfl
    generalize (xs ++ [V.ref t2, V.ref t3]) = xs at hL hT lx ⊢
    generalize L2 = L at hL hLH nL2 ⊢
    clear nL2
    refine ⟨_, rfl, ?_⟩
    -- BadPrice
    refine ⟨_, rfl, rfl, (by show 1 ≤ 1000; decide), fun d4 nd4 a4 na4 p4 np4 => ⟨_, rfl, upd_same, [(Sum.inr "value", va)], rfl, (by show 1 ≤ 15; decide), ?_⟩⟩
    rw [upd_upd, show mergeK [] [((Sum.inr "value" : Key), (va : V))] = [((Sum.inr "value" : Key), (va : V))] from by kernel_rfl]
    refine ⟨(by show 3 ≤ sizeLine; decide), fun t4 nt4 => ?_⟩
    obtain ⟨y4, i4⟩ := it_new (EC := EC) (vs := [va, vb, vc, vd]) (c := "BadPrice") (fs := [("value", 0)]) (xs := ((["value"] : List Str).zip [va]).reverse) (kvs := [((Sum.inr "value" : Key), (va : V))]) (List.cons_ne_nil _ _) rfl rfl nd4 na4 np4 nt4
    have X := X.trans y4
    generalize (upd (upd (upd (upd HH d4 (.xd ((["value"] : List Str).zip [va]).reverse)) a4 (exk a4 (.ref (EC "BadPrice")) (some d4))) p4 (.dK [((Sum.inr "value" : Key), (va : V))])) t4 (.tup [.ref a4, .str "BadPrice", .ref p4])) = HH at y4 i4 X ⊢
    have hL := y4 _ _ hL
    have hT := its_ext hT y4
    -- BadPlace
    refine ⟨_, rfl, rfl, (by show 1 ≤ 1000; decide), fun d5 nd5 a5 na5 p5 np5 => ⟨_, rfl, upd_same, [(Sum.inr "value", va)], rfl, (by show 1 ≤ 15; decide), ?_⟩⟩
    rw [upd_upd, show mergeK [] [((Sum.inr "value" : Key), (va : V))] = [((Sum.inr "value" : Key), (va : V))] from by kernel_rfl]
    refine ⟨(by show 3 ≤ sizeLine; decide), fun t5 nt5 => ?_⟩
    obtain ⟨y5, i5⟩ := it_new (EC := EC) (vs := [va, vb, vc, vd]) (c := "BadPlace") (fs := [("value", 0)]) (xs := ((["value"] : List Str).zip [va]).reverse) (kvs := [((Sum.inr "value" : Key), (va : V))]) (List.cons_ne_nil _ _) rfl rfl nd5 na5 np5 nt5
    have X := X.trans y5
    generalize (upd (upd (upd (upd HH d5 (.xd ((["value"] : List Str).zip [va]).reverse)) a5 (exk a5 (.ref (EC "BadPlace")) (some d5))) p5 (.dK [((Sum.inr "value" : Key), (va : V))])) t5 (.tup [.ref a5, .str "BadPlace", .ref p5])) = HH at y5 i5 X ⊢
    have hL := y5 _ _ hL
    have hT := its_ext hT y5
    have i4 := i4.ext y5
    refine ⟨(by show 2 ≤ sizeLine; decide), fun l nl => ⟨L, l, xs, _, rfl, rfl, Ext.upd nl _ _ hL, upd_same, by rw [lx]; show 4 + 2 ≤ sizeLine; decide, fun L2 nL2 => ?_⟩⟩
    have hLH : H L2 = none := ext_free (X.trans (Ext.upd nl)) nL2
    have yL := (Ext.upd (o := HO.lst [V.ref t4, V.ref t5]) nl).trans (Ext.upd (o := HO.lst (xs ++ [V.ref t4, V.ref t5])) nL2)
    have hL : (upd (upd HH l (.lst [V.ref t4, V.ref t5])) L2 (.lst (xs ++ [V.ref t4, V.ref t5]))) L2 = some (.lst (xs ++ [V.ref t4, V.ref t5])) := upd_same
    have hT : Paired (ItAt EC [va, vb, vc, vd] (upd (upd HH l (.lst [V.ref t4, V.ref t5])) L2 (.lst (xs ++ [V.ref t4, V.ref t5])))) (xs ++ [V.ref t4, V.ref t5]) [("BadName", [("value", 0)]), ("BadDeed", [("value", 0)]), ("BadMove", [("value", 0)]), ("BadNumber", [("value", 0)]), ("BadPrice", [("value", 0)]), ("BadPlace", [("value", 0)])] := its_ext (paired_app hT (.cons i4 (.cons i5 .nil))) yL
    have X := X.trans yL
    generalize (upd (upd HH l (.lst [V.ref t4, V.ref t5])) L2 (.lst (xs ++ [V.ref t4, V.ref t5]))) = HH at yL hL hT X ⊢
    have lx : (xs ++ [V.ref t4, V.ref t5]).length = 6 := by rw [List.length_append, lx]; rfl
    generalize (xs ++ [V.ref t4, V.ref t5]) = xs at hL hT lx ⊢
    generalize L2 = L at hL hLH nL2 ⊢
    clear nL2
    refine ⟨_, rfl, ?_⟩
    -- BadPart
    refine ⟨_, rfl, rfl, (by show 1 ≤ 1000; decide), fun d6 nd6 a6 na6 p6 np6 => ⟨_, rfl, upd_same, [(Sum.inr "part", va)], rfl, (by show 1 ≤ 15; decide), ?_⟩⟩
    rw [upd_upd, show mergeK [] [((Sum.inr "part" : Key), (va : V))] = [((Sum.inr "part" : Key), (va : V))] from by kernel_rfl]
    refine ⟨(by show 3 ≤ sizeLine; decide), fun t6 nt6 => ?_⟩
    obtain ⟨y6, i6⟩ := it_new (EC := EC) (vs := [va, vb, vc, vd]) (c := "BadPart") (fs := [("part", 0)]) (xs := ((["part"] : List Str).zip [va]).reverse) (kvs := [((Sum.inr "part" : Key), (va : V))]) (List.cons_ne_nil _ _) rfl rfl nd6 na6 np6 nt6
    have X := X.trans y6
    generalize (upd (upd (upd (upd HH d6 (.xd ((["part"] : List Str).zip [va]).reverse)) a6 (exk a6 (.ref (EC "BadPart")) (some d6))) p6 (.dK [((Sum.inr "part" : Key), (va : V))])) t6 (.tup [.ref a6, .str "BadPart", .ref p6])) = HH at y6 i6 X ⊢
    have hL := y6 _ _ hL
    have hT := its_ext hT y6
    -- BadSlots
    refine ⟨_, rfl, rfl, (by show 1 ≤ 1000; decide), fun d7 nd7 a7 na7 p7 np7 => ⟨_, rfl, upd_same, [(Sum.inr "value", va)], rfl, (by show 1 ≤ 15; decide), ?_⟩⟩
    rw [upd_upd, show mergeK [] [((Sum.inr "value" : Key), (va : V))] = [((Sum.inr "value" : Key), (va : V))] from by kernel_rfl]
    refine ⟨(by show 3 ≤ sizeLine; decide), fun t7 nt7 => ?_⟩
    obtain ⟨y7, i7⟩ := it_new (EC := EC) (vs := [va, vb, vc, vd]) (c := "BadSlots") (fs := [("value", 0)]) (xs := ((["value"] : List Str).zip [va]).reverse) (kvs := [((Sum.inr "value" : Key), (va : V))]) (List.cons_ne_nil _ _) rfl rfl nd7 na7 np7 nt7
    have X := X.trans y7
    generalize (upd (upd (upd (upd HH d7 (.xd ((["value"] : List Str).zip [va]).reverse)) a7 (exk a7 (.ref (EC "BadSlots")) (some d7))) p7 (.dK [((Sum.inr "value" : Key), (va : V))])) t7 (.tup [.ref a7, .str "BadSlots", .ref p7])) = HH at y7 i7 X ⊢
    have hL := y7 _ _ hL
    have hT := its_ext hT y7
    have i6 := i6.ext y7
    refine ⟨(by show 2 ≤ sizeLine; decide), fun l nl => ⟨L, l, xs, _, rfl, rfl, Ext.upd nl _ _ hL, upd_same, by rw [lx]; show 6 + 2 ≤ sizeLine; decide, fun L2 nL2 => ?_⟩⟩
    have hLH : H L2 = none := ext_free (X.trans (Ext.upd nl)) nL2
    have yL := (Ext.upd (o := HO.lst [V.ref t6, V.ref t7]) nl).trans (Ext.upd (o := HO.lst (xs ++ [V.ref t6, V.ref t7])) nL2)
    have hL : (upd (upd HH l (.lst [V.ref t6, V.ref t7])) L2 (.lst (xs ++ [V.ref t6, V.ref t7]))) L2 = some (.lst (xs ++ [V.ref t6, V.ref t7])) := upd_same
    have hT : Paired (ItAt EC [va, vb, vc, vd] (upd (upd HH l (.lst [V.ref t6, V.ref t7])) L2 (.lst (xs ++ [V.ref t6, V.ref t7])))) (xs ++ [V.ref t6, V.ref t7]) [("BadName", [("value", 0)]), ("BadDeed", [("value", 0)]), ("BadMove", [("value", 0)]), ("BadNumber", [("value", 0)]), ("BadPrice", [("value", 0)]), ("BadPlace", [("value", 0)]), ("BadPart", [("part", 0)]), ("BadSlots", [("value", 0)])] := its_ext (paired_app hT (.cons i6 (.cons i7 .nil))) yL
    have X := X.trans yL
    generalize (upd (upd HH l (.lst [V.ref t6, V.ref t7])) L2 (.lst (xs ++ [V.ref t6, V.ref t7]))) = HH at yL hL hT X ⊢
    have lx : (xs ++ [V.ref t6, V.ref t7]).length = 8 := by rw [List.length_append, lx]; rfl
    generalize (xs ++ [V.ref t6, V.ref t7]) = xs at hL hT lx ⊢
    generalize L2 = L at hL hLH nL2 ⊢
    clear nL2
    refine ⟨_, rfl, ?_⟩
    -- BadStanding
    refine ⟨_, rfl, rfl, (by show 1 ≤ 1000; decide), fun d8 nd8 a8 na8 p8 np8 => ⟨_, rfl, upd_same, [(Sum.inr "value", va)], rfl, (by show 1 ≤ 15; decide), ?_⟩⟩
    rw [upd_upd, show mergeK [] [((Sum.inr "value" : Key), (va : V))] = [((Sum.inr "value" : Key), (va : V))] from by kernel_rfl]
    refine ⟨(by show 3 ≤ sizeLine; decide), fun t8 nt8 => ?_⟩
    obtain ⟨y8, i8⟩ := it_new (EC := EC) (vs := [va, vb, vc, vd]) (c := "BadStanding") (fs := [("value", 0)]) (xs := ((["value"] : List Str).zip [va]).reverse) (kvs := [((Sum.inr "value" : Key), (va : V))]) (List.cons_ne_nil _ _) rfl rfl nd8 na8 np8 nt8
    have X := X.trans y8
    generalize (upd (upd (upd (upd HH d8 (.xd ((["value"] : List Str).zip [va]).reverse)) a8 (exk a8 (.ref (EC "BadStanding")) (some d8))) p8 (.dK [((Sum.inr "value" : Key), (va : V))])) t8 (.tup [.ref a8, .str "BadStanding", .ref p8])) = HH at y8 i8 X ⊢
    have hL := y8 _ _ hL
    have hT := its_ext hT y8
    -- BadRule
    refine ⟨_, rfl, rfl, (by show 1 ≤ 1000; decide), fun d9 nd9 a9 na9 p9 np9 => ⟨_, rfl, upd_same, [(Sum.inr "value", va)], rfl, (by show 1 ≤ 15; decide), ?_⟩⟩
    rw [upd_upd, show mergeK [] [((Sum.inr "value" : Key), (va : V))] = [((Sum.inr "value" : Key), (va : V))] from by kernel_rfl]
    refine ⟨(by show 3 ≤ sizeLine; decide), fun t9 nt9 => ?_⟩
    obtain ⟨y9, i9⟩ := it_new (EC := EC) (vs := [va, vb, vc, vd]) (c := "BadRule") (fs := [("value", 0)]) (xs := ((["value"] : List Str).zip [va]).reverse) (kvs := [((Sum.inr "value" : Key), (va : V))]) (List.cons_ne_nil _ _) rfl rfl nd9 na9 np9 nt9
    have X := X.trans y9
    generalize (upd (upd (upd (upd HH d9 (.xd ((["value"] : List Str).zip [va]).reverse)) a9 (exk a9 (.ref (EC "BadRule")) (some d9))) p9 (.dK [((Sum.inr "value" : Key), (va : V))])) t9 (.tup [.ref a9, .str "BadRule", .ref p9])) = HH at y9 i9 X ⊢
    have hL := y9 _ _ hL
    have hT := its_ext hT y9
    have i8 := i8.ext y9
    refine ⟨(by show 2 ≤ sizeLine; decide), fun l nl => ⟨L, l, xs, _, rfl, rfl, Ext.upd nl _ _ hL, upd_same, by rw [lx]; show 8 + 2 ≤ sizeLine; decide, fun L2 nL2 => ?_⟩⟩
    have hLH : H L2 = none := ext_free (X.trans (Ext.upd nl)) nL2
    have yL := (Ext.upd (o := HO.lst [V.ref t8, V.ref t9]) nl).trans (Ext.upd (o := HO.lst (xs ++ [V.ref t8, V.ref t9])) nL2)
    have hL : (upd (upd HH l (.lst [V.ref t8, V.ref t9])) L2 (.lst (xs ++ [V.ref t8, V.ref t9]))) L2 = some (.lst (xs ++ [V.ref t8, V.ref t9])) := upd_same
    have hT : Paired (ItAt EC [va, vb, vc, vd] (upd (upd HH l (.lst [V.ref t8, V.ref t9])) L2 (.lst (xs ++ [V.ref t8, V.ref t9])))) (xs ++ [V.ref t8, V.ref t9]) [("BadName", [("value", 0)]), ("BadDeed", [("value", 0)]), ("BadMove", [("value", 0)]), ("BadNumber", [("value", 0)]), ("BadPrice", [("value", 0)]), ("BadPlace", [("value", 0)]), ("BadPart", [("part", 0)]), ("BadSlots", [("value", 0)]), ("BadStanding", [("value", 0)]), ("BadRule", [("value", 0)])] := its_ext (paired_app hT (.cons i8 (.cons i9 .nil))) yL
    have X := X.trans yL
    generalize (upd (upd HH l (.lst [V.ref t8, V.ref t9])) L2 (.lst (xs ++ [V.ref t8, V.ref t9]))) = HH at yL hL hT X ⊢
    have lx : (xs ++ [V.ref t8, V.ref t9]).length = 10 := by rw [List.length_append, lx]; rfl
    generalize (xs ++ [V.ref t8, V.ref t9]) = xs at hL hT lx ⊢
    generalize L2 = L at hL hLH nL2 ⊢
    clear nL2
    refine ⟨_, rfl, ?_⟩
    -- Twice
    refine ⟨_, rfl, rfl, (by show 1 ≤ 1000; decide), fun d10 nd10 a10 na10 p10 np10 => ⟨_, rfl, upd_same, [(Sum.inr "name", va)], rfl, (by show 1 ≤ 15; decide), ?_⟩⟩
    rw [upd_upd, show mergeK [] [((Sum.inr "name" : Key), (va : V))] = [((Sum.inr "name" : Key), (va : V))] from by kernel_rfl]
    refine ⟨(by show 3 ≤ sizeLine; decide), fun t10 nt10 => ?_⟩
    obtain ⟨y10, i10⟩ := it_new (EC := EC) (vs := [va, vb, vc, vd]) (c := "Twice") (fs := [("name", 0)]) (xs := ((["name"] : List Str).zip [va]).reverse) (kvs := [((Sum.inr "name" : Key), (va : V))]) (List.cons_ne_nil _ _) rfl rfl nd10 na10 np10 nt10
    have X := X.trans y10
    generalize (upd (upd (upd (upd HH d10 (.xd ((["name"] : List Str).zip [va]).reverse)) a10 (exk a10 (.ref (EC "Twice")) (some d10))) p10 (.dK [((Sum.inr "name" : Key), (va : V))])) t10 (.tup [.ref a10, .str "Twice", .ref p10])) = HH at y10 i10 X ⊢
    have hL := y10 _ _ hL
    have hT := its_ext hT y10
    -- TooMany
    refine ⟨_, rfl, rfl, (by show 1 ≤ 1000; decide), fun d11 nd11 a11 na11 p11 np11 => ⟨_, rfl, upd_same, [(Sum.inr "most", va)], rfl, (by show 1 ≤ 15; decide), ?_⟩⟩
    rw [upd_upd, show mergeK [] [((Sum.inr "most" : Key), (va : V))] = [((Sum.inr "most" : Key), (va : V))] from by kernel_rfl]
    refine ⟨(by show 3 ≤ sizeLine; decide), fun t11 nt11 => ?_⟩
    obtain ⟨y11, i11⟩ := it_new (EC := EC) (vs := [va, vb, vc, vd]) (c := "TooMany") (fs := [("most", 0)]) (xs := ((["most"] : List Str).zip [va]).reverse) (kvs := [((Sum.inr "most" : Key), (va : V))]) (List.cons_ne_nil _ _) rfl rfl nd11 na11 np11 nt11
    have X := X.trans y11
    generalize (upd (upd (upd (upd HH d11 (.xd ((["most"] : List Str).zip [va]).reverse)) a11 (exk a11 (.ref (EC "TooMany")) (some d11))) p11 (.dK [((Sum.inr "most" : Key), (va : V))])) t11 (.tup [.ref a11, .str "TooMany", .ref p11])) = HH at y11 i11 X ⊢
    have hL := y11 _ _ hL
    have hT := its_ext hT y11
    have i10 := i10.ext y11
    refine ⟨(by show 2 ≤ sizeLine; decide), fun l nl => ⟨L, l, xs, _, rfl, rfl, Ext.upd nl _ _ hL, upd_same, by rw [lx]; show 10 + 2 ≤ sizeLine; decide, fun L2 nL2 => ?_⟩⟩
    have hLH : H L2 = none := ext_free (X.trans (Ext.upd nl)) nL2
    have yL := (Ext.upd (o := HO.lst [V.ref t10, V.ref t11]) nl).trans (Ext.upd (o := HO.lst (xs ++ [V.ref t10, V.ref t11])) nL2)
    have hL : (upd (upd HH l (.lst [V.ref t10, V.ref t11])) L2 (.lst (xs ++ [V.ref t10, V.ref t11]))) L2 = some (.lst (xs ++ [V.ref t10, V.ref t11])) := upd_same
    have hT : Paired (ItAt EC [va, vb, vc, vd] (upd (upd HH l (.lst [V.ref t10, V.ref t11])) L2 (.lst (xs ++ [V.ref t10, V.ref t11])))) (xs ++ [V.ref t10, V.ref t11]) [("BadName", [("value", 0)]), ("BadDeed", [("value", 0)]), ("BadMove", [("value", 0)]), ("BadNumber", [("value", 0)]), ("BadPrice", [("value", 0)]), ("BadPlace", [("value", 0)]), ("BadPart", [("part", 0)]), ("BadSlots", [("value", 0)]), ("BadStanding", [("value", 0)]), ("BadRule", [("value", 0)]), ("Twice", [("name", 0)]), ("TooMany", [("most", 0)])] := its_ext (paired_app hT (.cons i10 (.cons i11 .nil))) yL
    have X := X.trans yL
    generalize (upd (upd HH l (.lst [V.ref t10, V.ref t11])) L2 (.lst (xs ++ [V.ref t10, V.ref t11]))) = HH at yL hL hT X ⊢
    have lx : (xs ++ [V.ref t10, V.ref t11]).length = 12 := by rw [List.length_append, lx]; rfl
    generalize (xs ++ [V.ref t10, V.ref t11]) = xs at hL hT lx ⊢
    generalize L2 = L at hL hLH nL2 ⊢
    clear nL2
    refine ⟨_, rfl, ?_⟩
    -- Unmade
    refine ⟨_, rfl, _, rfl, rfl, (by show 2 ≤ 1000; decide), fun d12 nd12 a12 na12 p12 np12 => ⟨_, rfl, _, rfl, upd_same, [(Sum.inr "place", va), (Sum.inr "name", vb)], rfl, (by show 2 ≤ 15; decide), ?_⟩⟩
    rw [upd_upd, show mergeK [] [((Sum.inr "place" : Key), (va : V)), ((Sum.inr "name" : Key), (vb : V))] = [((Sum.inr "place" : Key), (va : V)), ((Sum.inr "name" : Key), (vb : V))] from by kernel_rfl]
    refine ⟨(by show 3 ≤ sizeLine; decide), fun t12 nt12 => ?_⟩
    obtain ⟨y12, i12⟩ := it_new (EC := EC) (vs := [va, vb, vc, vd]) (c := "Unmade") (fs := [("place", 0), ("name", 1)]) (xs := ((["place", "name"] : List Str).zip [va, vb]).reverse) (kvs := [((Sum.inr "place" : Key), (va : V)), ((Sum.inr "name" : Key), (vb : V))]) (List.cons_ne_nil _ _) rfl rfl nd12 na12 np12 nt12
    have X := X.trans y12
    generalize (upd (upd (upd (upd HH d12 (.xd ((["place", "name"] : List Str).zip [va, vb]).reverse)) a12 (exk a12 (.ref (EC "Unmade")) (some d12))) p12 (.dK [((Sum.inr "place" : Key), (va : V)), ((Sum.inr "name" : Key), (vb : V))])) t12 (.tup [.ref a12, .str "Unmade", .ref p12])) = HH at y12 i12 X ⊢
    have hL := y12 _ _ hL
    have hT := its_ext hT y12
    -- NoRoom
    refine ⟨_, rfl, rfl, (by show 1 ≤ 1000; decide), fun d13 nd13 a13 na13 p13 np13 => ⟨_, rfl, upd_same, [(Sum.inr "place", va)], rfl, (by show 1 ≤ 15; decide), ?_⟩⟩
    rw [upd_upd, show mergeK [] [((Sum.inr "place" : Key), (va : V))] = [((Sum.inr "place" : Key), (va : V))] from by kernel_rfl]
    refine ⟨(by show 3 ≤ sizeLine; decide), fun t13 nt13 => ?_⟩
    obtain ⟨y13, i13⟩ := it_new (EC := EC) (vs := [va, vb, vc, vd]) (c := "NoRoom") (fs := [("place", 0)]) (xs := ((["place"] : List Str).zip [va]).reverse) (kvs := [((Sum.inr "place" : Key), (va : V))]) (List.cons_ne_nil _ _) rfl rfl nd13 na13 np13 nt13
    have X := X.trans y13
    generalize (upd (upd (upd (upd HH d13 (.xd ((["place"] : List Str).zip [va]).reverse)) a13 (exk a13 (.ref (EC "NoRoom")) (some d13))) p13 (.dK [((Sum.inr "place" : Key), (va : V))])) t13 (.tup [.ref a13, .str "NoRoom", .ref p13])) = HH at y13 i13 X ⊢
    have hL := y13 _ _ hL
    have hT := its_ext hT y13
    have i12 := i12.ext y13
    refine ⟨(by show 2 ≤ sizeLine; decide), fun l nl => ⟨L, l, xs, _, rfl, rfl, Ext.upd nl _ _ hL, upd_same, by rw [lx]; show 12 + 2 ≤ sizeLine; decide, fun L2 nL2 => ?_⟩⟩
    have hLH : H L2 = none := ext_free (X.trans (Ext.upd nl)) nL2
    have yL := (Ext.upd (o := HO.lst [V.ref t12, V.ref t13]) nl).trans (Ext.upd (o := HO.lst (xs ++ [V.ref t12, V.ref t13])) nL2)
    have hL : (upd (upd HH l (.lst [V.ref t12, V.ref t13])) L2 (.lst (xs ++ [V.ref t12, V.ref t13]))) L2 = some (.lst (xs ++ [V.ref t12, V.ref t13])) := upd_same
    have hT : Paired (ItAt EC [va, vb, vc, vd] (upd (upd HH l (.lst [V.ref t12, V.ref t13])) L2 (.lst (xs ++ [V.ref t12, V.ref t13])))) (xs ++ [V.ref t12, V.ref t13]) [("BadName", [("value", 0)]), ("BadDeed", [("value", 0)]), ("BadMove", [("value", 0)]), ("BadNumber", [("value", 0)]), ("BadPrice", [("value", 0)]), ("BadPlace", [("value", 0)]), ("BadPart", [("part", 0)]), ("BadSlots", [("value", 0)]), ("BadStanding", [("value", 0)]), ("BadRule", [("value", 0)]), ("Twice", [("name", 0)]), ("TooMany", [("most", 0)]), ("Unmade", [("place", 0), ("name", 1)]), ("NoRoom", [("place", 0)])] := its_ext (paired_app hT (.cons i12 (.cons i13 .nil))) yL
    have X := X.trans yL
    generalize (upd (upd HH l (.lst [V.ref t12, V.ref t13])) L2 (.lst (xs ++ [V.ref t12, V.ref t13]))) = HH at yL hL hT X ⊢
    have lx : (xs ++ [V.ref t12, V.ref t13]).length = 14 := by rw [List.length_append, lx]; rfl
    generalize (xs ++ [V.ref t12, V.ref t13]) = xs at hL hT lx ⊢
    generalize L2 = L at hL hLH nL2 ⊢
    clear nL2
    refine ⟨_, rfl, ?_⟩
    -- MadeAgain
    refine ⟨_, rfl, _, rfl, rfl, (by show 2 ≤ 1000; decide), fun d14 nd14 a14 na14 p14 np14 => ⟨_, rfl, _, rfl, upd_same, [(Sum.inr "place", va), (Sum.inr "name", vb)], rfl, (by show 2 ≤ 15; decide), ?_⟩⟩
    rw [upd_upd, show mergeK [] [((Sum.inr "place" : Key), (va : V)), ((Sum.inr "name" : Key), (vb : V))] = [((Sum.inr "place" : Key), (va : V)), ((Sum.inr "name" : Key), (vb : V))] from by kernel_rfl]
    refine ⟨(by show 3 ≤ sizeLine; decide), fun t14 nt14 => ?_⟩
    obtain ⟨y14, i14⟩ := it_new (EC := EC) (vs := [va, vb, vc, vd]) (c := "MadeAgain") (fs := [("place", 0), ("name", 1)]) (xs := ((["place", "name"] : List Str).zip [va, vb]).reverse) (kvs := [((Sum.inr "place" : Key), (va : V)), ((Sum.inr "name" : Key), (vb : V))]) (List.cons_ne_nil _ _) rfl rfl nd14 na14 np14 nt14
    have X := X.trans y14
    generalize (upd (upd (upd (upd HH d14 (.xd ((["place", "name"] : List Str).zip [va, vb]).reverse)) a14 (exk a14 (.ref (EC "MadeAgain")) (some d14))) p14 (.dK [((Sum.inr "place" : Key), (va : V)), ((Sum.inr "name" : Key), (vb : V))])) t14 (.tup [.ref a14, .str "MadeAgain", .ref p14])) = HH at y14 i14 X ⊢
    have hL := y14 _ _ hL
    have hT := its_ext hT y14
    -- Crowded
    refine ⟨_, rfl, rfl, (by show 1 ≤ 1000; decide), fun d15 nd15 a15 na15 p15 np15 => ⟨_, rfl, upd_same, [(Sum.inr "place", va)], rfl, (by show 1 ≤ 15; decide), ?_⟩⟩
    rw [upd_upd, show mergeK [] [((Sum.inr "place" : Key), (va : V))] = [((Sum.inr "place" : Key), (va : V))] from by kernel_rfl]
    refine ⟨(by show 3 ≤ sizeLine; decide), fun t15 nt15 => ?_⟩
    obtain ⟨y15, i15⟩ := it_new (EC := EC) (vs := [va, vb, vc, vd]) (c := "Crowded") (fs := [("place", 0)]) (xs := ((["place"] : List Str).zip [va]).reverse) (kvs := [((Sum.inr "place" : Key), (va : V))]) (List.cons_ne_nil _ _) rfl rfl nd15 na15 np15 nt15
    have X := X.trans y15
    generalize (upd (upd (upd (upd HH d15 (.xd ((["place"] : List Str).zip [va]).reverse)) a15 (exk a15 (.ref (EC "Crowded")) (some d15))) p15 (.dK [((Sum.inr "place" : Key), (va : V))])) t15 (.tup [.ref a15, .str "Crowded", .ref p15])) = HH at y15 i15 X ⊢
    have hL := y15 _ _ hL
    have hT := its_ext hT y15
    have i14 := i14.ext y15
    refine ⟨(by show 2 ≤ sizeLine; decide), fun l nl => ⟨L, l, xs, _, rfl, rfl, Ext.upd nl _ _ hL, upd_same, by rw [lx]; show 14 + 2 ≤ sizeLine; decide, fun L2 nL2 => ?_⟩⟩
    have hLH : H L2 = none := ext_free (X.trans (Ext.upd nl)) nL2
    have yL := (Ext.upd (o := HO.lst [V.ref t14, V.ref t15]) nl).trans (Ext.upd (o := HO.lst (xs ++ [V.ref t14, V.ref t15])) nL2)
    have hL : (upd (upd HH l (.lst [V.ref t14, V.ref t15])) L2 (.lst (xs ++ [V.ref t14, V.ref t15]))) L2 = some (.lst (xs ++ [V.ref t14, V.ref t15])) := upd_same
    have hT : Paired (ItAt EC [va, vb, vc, vd] (upd (upd HH l (.lst [V.ref t14, V.ref t15])) L2 (.lst (xs ++ [V.ref t14, V.ref t15])))) (xs ++ [V.ref t14, V.ref t15]) [("BadName", [("value", 0)]), ("BadDeed", [("value", 0)]), ("BadMove", [("value", 0)]), ("BadNumber", [("value", 0)]), ("BadPrice", [("value", 0)]), ("BadPlace", [("value", 0)]), ("BadPart", [("part", 0)]), ("BadSlots", [("value", 0)]), ("BadStanding", [("value", 0)]), ("BadRule", [("value", 0)]), ("Twice", [("name", 0)]), ("TooMany", [("most", 0)]), ("Unmade", [("place", 0), ("name", 1)]), ("NoRoom", [("place", 0)]), ("MadeAgain", [("place", 0), ("name", 1)]), ("Crowded", [("place", 0)])] := its_ext (paired_app hT (.cons i14 (.cons i15 .nil))) yL
    have X := X.trans yL
    generalize (upd (upd HH l (.lst [V.ref t14, V.ref t15])) L2 (.lst (xs ++ [V.ref t14, V.ref t15]))) = HH at yL hL hT X ⊢
    have lx : (xs ++ [V.ref t14, V.ref t15]).length = 16 := by rw [List.length_append, lx]; rfl
    generalize (xs ++ [V.ref t14, V.ref t15]) = xs at hL hT lx ⊢
    generalize L2 = L at hL hLH nL2 ⊢
    clear nL2
    refine ⟨_, rfl, ?_⟩
    -- Barred
    refine ⟨_, rfl, _, rfl, rfl, (by show 2 ≤ 1000; decide), fun d16 nd16 a16 na16 p16 np16 => ⟨_, rfl, _, rfl, upd_same, [(Sum.inr "word", va), (Sum.inr "name", vb)], rfl, (by show 2 ≤ 15; decide), ?_⟩⟩
    rw [upd_upd, show mergeK [] [((Sum.inr "word" : Key), (va : V)), ((Sum.inr "name" : Key), (vb : V))] = [((Sum.inr "word" : Key), (va : V)), ((Sum.inr "name" : Key), (vb : V))] from by kernel_rfl]
    refine ⟨(by show 3 ≤ sizeLine; decide), fun t16 nt16 => ?_⟩
    obtain ⟨y16, i16⟩ := it_new (EC := EC) (vs := [va, vb, vc, vd]) (c := "Barred") (fs := [("word", 0), ("name", 1)]) (xs := ((["word", "name"] : List Str).zip [va, vb]).reverse) (kvs := [((Sum.inr "word" : Key), (va : V)), ((Sum.inr "name" : Key), (vb : V))]) (List.cons_ne_nil _ _) rfl rfl nd16 na16 np16 nt16
    have X := X.trans y16
    generalize (upd (upd (upd (upd HH d16 (.xd ((["word", "name"] : List Str).zip [va, vb]).reverse)) a16 (exk a16 (.ref (EC "Barred")) (some d16))) p16 (.dK [((Sum.inr "word" : Key), (va : V)), ((Sum.inr "name" : Key), (vb : V))])) t16 (.tup [.ref a16, .str "Barred", .ref p16])) = HH at y16 i16 X ⊢
    have hL := y16 _ _ hL
    have hT := its_ext hT y16
    -- BadLine
    refine ⟨_, rfl, rfl, (by show 1 ≤ 1000; decide), fun d17 nd17 a17 na17 p17 np17 => ⟨_, rfl, upd_same, [(Sum.inr "word", va)], rfl, (by show 1 ≤ 15; decide), ?_⟩⟩
    rw [upd_upd, show mergeK [] [((Sum.inr "word" : Key), (va : V))] = [((Sum.inr "word" : Key), (va : V))] from by kernel_rfl]
    refine ⟨(by show 3 ≤ sizeLine; decide), fun t17 nt17 => ?_⟩
    obtain ⟨y17, i17⟩ := it_new (EC := EC) (vs := [va, vb, vc, vd]) (c := "BadLine") (fs := [("word", 0)]) (xs := ((["word"] : List Str).zip [va]).reverse) (kvs := [((Sum.inr "word" : Key), (va : V))]) (List.cons_ne_nil _ _) rfl rfl nd17 na17 np17 nt17
    have X := X.trans y17
    generalize (upd (upd (upd (upd HH d17 (.xd ((["word"] : List Str).zip [va]).reverse)) a17 (exk a17 (.ref (EC "BadLine")) (some d17))) p17 (.dK [((Sum.inr "word" : Key), (va : V))])) t17 (.tup [.ref a17, .str "BadLine", .ref p17])) = HH at y17 i17 X ⊢
    have hL := y17 _ _ hL
    have hT := its_ext hT y17
    have i16 := i16.ext y17
    refine ⟨(by show 2 ≤ sizeLine; decide), fun l nl => ⟨L, l, xs, _, rfl, rfl, Ext.upd nl _ _ hL, upd_same, by rw [lx]; show 16 + 2 ≤ sizeLine; decide, fun L2 nL2 => ?_⟩⟩
    have hLH : H L2 = none := ext_free (X.trans (Ext.upd nl)) nL2
    have yL := (Ext.upd (o := HO.lst [V.ref t16, V.ref t17]) nl).trans (Ext.upd (o := HO.lst (xs ++ [V.ref t16, V.ref t17])) nL2)
    have hL : (upd (upd HH l (.lst [V.ref t16, V.ref t17])) L2 (.lst (xs ++ [V.ref t16, V.ref t17]))) L2 = some (.lst (xs ++ [V.ref t16, V.ref t17])) := upd_same
    have hT : Paired (ItAt EC [va, vb, vc, vd] (upd (upd HH l (.lst [V.ref t16, V.ref t17])) L2 (.lst (xs ++ [V.ref t16, V.ref t17])))) (xs ++ [V.ref t16, V.ref t17]) [("BadName", [("value", 0)]), ("BadDeed", [("value", 0)]), ("BadMove", [("value", 0)]), ("BadNumber", [("value", 0)]), ("BadPrice", [("value", 0)]), ("BadPlace", [("value", 0)]), ("BadPart", [("part", 0)]), ("BadSlots", [("value", 0)]), ("BadStanding", [("value", 0)]), ("BadRule", [("value", 0)]), ("Twice", [("name", 0)]), ("TooMany", [("most", 0)]), ("Unmade", [("place", 0), ("name", 1)]), ("NoRoom", [("place", 0)]), ("MadeAgain", [("place", 0), ("name", 1)]), ("Crowded", [("place", 0)]), ("Barred", [("word", 0), ("name", 1)]), ("BadLine", [("word", 0)])] := its_ext (paired_app hT (.cons i16 (.cons i17 .nil))) yL
    have X := X.trans yL
    generalize (upd (upd HH l (.lst [V.ref t16, V.ref t17])) L2 (.lst (xs ++ [V.ref t16, V.ref t17]))) = HH at yL hL hT X ⊢
    have lx : (xs ++ [V.ref t16, V.ref t17]).length = 18 := by rw [List.length_append, lx]; rfl
    generalize (xs ++ [V.ref t16, V.ref t17]) = xs at hL hT lx ⊢
    generalize L2 = L at hL hLH nL2 ⊢
    clear nL2
    refine ⟨_, rfl, .inl ⟨rfl, _, SqL.of hL⟩, ?_⟩
    -- BadPlan
    refine ⟨_, rfl, _, rfl, _, rfl, _, rfl, rfl, (by show 4 ≤ 1000; decide), fun d18 nd18 a18 na18 p18 np18 => ⟨_, rfl, _, rfl, _, rfl, _, rfl, upd_same, [(Sum.inr "at", va), (Sum.inr "index", vb), (Sum.inr "word", vc), (Sum.inr "name", vd)], rfl, (by show 4 ≤ 15; decide), ?_⟩⟩
    rw [upd_upd, show mergeK [] [((Sum.inr "at" : Key), (va : V)), ((Sum.inr "index" : Key), (vb : V)), ((Sum.inr "word" : Key), (vc : V)), ((Sum.inr "name" : Key), (vd : V))] = [((Sum.inr "at" : Key), (va : V)), ((Sum.inr "index" : Key), (vb : V)), ((Sum.inr "word" : Key), (vc : V)), ((Sum.inr "name" : Key), (vd : V))] from by kernel_rfl]
    refine ⟨(by show 3 ≤ sizeLine; decide), fun t18 nt18 => ?_⟩
    obtain ⟨y18, i18⟩ := it_new (EC := EC) (vs := [va, vb, vc, vd]) (c := "BadPlan") (fs := [("at", 0), ("index", 1), ("word", 2), ("name", 3)]) (xs := ((["at", "index", "word", "name"] : List Str).zip [va, vb, vc, vd]).reverse) (kvs := [((Sum.inr "at" : Key), (va : V)), ((Sum.inr "index" : Key), (vb : V)), ((Sum.inr "word" : Key), (vc : V)), ((Sum.inr "name" : Key), (vd : V))]) (List.cons_ne_nil _ _) rfl rfl nd18 na18 np18 nt18
    have X := X.trans y18
    generalize (upd (upd (upd (upd HH d18 (.xd ((["at", "index", "word", "name"] : List Str).zip [va, vb, vc, vd]).reverse)) a18 (exk a18 (.ref (EC "BadPlan")) (some d18))) p18 (.dK [((Sum.inr "at" : Key), (va : V)), ((Sum.inr "index" : Key), (vb : V)), ((Sum.inr "word" : Key), (vc : V)), ((Sum.inr "name" : Key), (vd : V))])) t18 (.tup [.ref a18, .str "BadPlan", .ref p18])) = HH at y18 i18 X ⊢
    have hL := y18 _ _ hL
    have hT := its_ext hT y18
    refine ⟨L, xs, _, rfl, rfl, hL, by rw [lx]; show 18 < sizeLine; decide, ?_⟩
    have hT : Paired (ItAt EC [va, vb, vc, vd] (upd HH L (.lst (xs ++ [V.ref t18])))) (xs ++ [V.ref t18]) [("BadName", [("value", 0)]), ("BadDeed", [("value", 0)]), ("BadMove", [("value", 0)]), ("BadNumber", [("value", 0)]), ("BadPrice", [("value", 0)]), ("BadPlace", [("value", 0)]), ("BadPart", [("part", 0)]), ("BadSlots", [("value", 0)]), ("BadStanding", [("value", 0)]), ("BadRule", [("value", 0)]), ("Twice", [("name", 0)]), ("TooMany", [("most", 0)]), ("Unmade", [("place", 0), ("name", 1)]), ("NoRoom", [("place", 0)]), ("MadeAgain", [("place", 0), ("name", 1)]), ("Crowded", [("place", 0)]), ("Barred", [("word", 0), ("name", 1)]), ("BadLine", [("word", 0)]), ("BadPlan", [("at", 0), ("index", 1), ("word", 2), ("name", 3)])] := its_upd hL (paired_app hT (.cons i18 .nil))
    have fL : (upd HH L (.lst (xs ++ [V.ref t18]))) L = some (.lst (xs ++ [V.ref t18])) := upd_same
    have kL : Ext H (upd HH L (.lst (xs ++ [V.ref t18]))) := fun b o z => by rw [upd_ne (ne_of_none z hLH)]; exact X b o z
    generalize (upd HH L (.lst (xs ++ [V.ref t18]))) = HH at fL kL hT ⊢
    have lx : (xs ++ [V.ref t18]).length = 19 := by rw [List.length_append, lx]; rfl
    generalize (xs ++ [V.ref t18]) = xs at fL hT lx ⊢
    have hL := fL
    have X := kL
    refine ⟨_, rfl, ?_⟩
    -- NoLoop
    refine fun a19 na19 p19 np19 => ⟨(by show 3 ≤ sizeLine; decide), fun t19 nt19 => ?_⟩
    obtain ⟨y19, i19⟩ := it_new0 (EC := EC) (vs := [va, vb, vc, vd]) (c := "NoLoop") na19 np19 nt19
    have X := X.trans y19
    generalize (upd (upd (upd HH a19 (exk a19 (.ref (EC "NoLoop")) none)) p19 (.dK [])) t19 (.tup [.ref a19, .str "NoLoop", .ref p19])) = HH at y19 i19 X ⊢
    have hL := y19 _ _ hL
    have hT := its_ext hT y19
    -- HasLoop
    refine fun a20 na20 p20 np20 => ⟨(by show 3 ≤ sizeLine; decide), fun t20 nt20 => ?_⟩
    obtain ⟨y20, i20⟩ := it_new0 (EC := EC) (vs := [va, vb, vc, vd]) (c := "HasLoop") na20 np20 nt20
    have X := X.trans y20
    generalize (upd (upd (upd HH a20 (exk a20 (.ref (EC "HasLoop")) none)) p20 (.dK [])) t20 (.tup [.ref a20, .str "HasLoop", .ref p20])) = HH at y20 i20 X ⊢
    have hL := y20 _ _ hL
    have hT := its_ext hT y20
    have i19 := i19.ext y20
    -- OneLoop
    refine fun a21 na21 p21 np21 => ⟨(by show 3 ≤ sizeLine; decide), fun t21 nt21 => ?_⟩
    obtain ⟨y21, i21⟩ := it_new0 (EC := EC) (vs := [va, vb, vc, vd]) (c := "OneLoop") na21 np21 nt21
    have X := X.trans y21
    generalize (upd (upd (upd HH a21 (exk a21 (.ref (EC "OneLoop")) none)) p21 (.dK [])) t21 (.tup [.ref a21, .str "OneLoop", .ref p21])) = HH at y21 i21 X ⊢
    have hL := y21 _ _ hL
    have hT := its_ext hT y21
    have i19 := i19.ext y21
    have i20 := i20.ext y21
    refine ⟨(by show 3 ≤ sizeLine; decide), fun l nl => ⟨L, l, xs, _, rfl, rfl, Ext.upd nl _ _ hL, upd_same, by rw [lx]; show 19 + 3 ≤ sizeLine; decide, fun L2 nL2 => ?_⟩⟩
    have hLH : H L2 = none := ext_free (X.trans (Ext.upd nl)) nL2
    have yL := (Ext.upd (o := HO.lst [V.ref t19, V.ref t20, V.ref t21]) nl).trans (Ext.upd (o := HO.lst (xs ++ [V.ref t19, V.ref t20, V.ref t21])) nL2)
    have hL : (upd (upd HH l (.lst [V.ref t19, V.ref t20, V.ref t21])) L2 (.lst (xs ++ [V.ref t19, V.ref t20, V.ref t21]))) L2 = some (.lst (xs ++ [V.ref t19, V.ref t20, V.ref t21])) := upd_same
    have hT : Paired (ItAt EC [va, vb, vc, vd] (upd (upd HH l (.lst [V.ref t19, V.ref t20, V.ref t21])) L2 (.lst (xs ++ [V.ref t19, V.ref t20, V.ref t21])))) (xs ++ [V.ref t19, V.ref t20, V.ref t21]) [("BadName", [("value", 0)]), ("BadDeed", [("value", 0)]), ("BadMove", [("value", 0)]), ("BadNumber", [("value", 0)]), ("BadPrice", [("value", 0)]), ("BadPlace", [("value", 0)]), ("BadPart", [("part", 0)]), ("BadSlots", [("value", 0)]), ("BadStanding", [("value", 0)]), ("BadRule", [("value", 0)]), ("Twice", [("name", 0)]), ("TooMany", [("most", 0)]), ("Unmade", [("place", 0), ("name", 1)]), ("NoRoom", [("place", 0)]), ("MadeAgain", [("place", 0), ("name", 1)]), ("Crowded", [("place", 0)]), ("Barred", [("word", 0), ("name", 1)]), ("BadLine", [("word", 0)]), ("BadPlan", [("at", 0), ("index", 1), ("word", 2), ("name", 3)]), ("NoLoop", []), ("HasLoop", []), ("OneLoop", [])] := its_ext (paired_app hT (.cons i19 (.cons i20 (.cons i21 .nil)))) yL
    have X := X.trans yL
    generalize (upd (upd HH l (.lst [V.ref t19, V.ref t20, V.ref t21])) L2 (.lst (xs ++ [V.ref t19, V.ref t20, V.ref t21]))) = HH at yL hL hT X ⊢
    have lx : (xs ++ [V.ref t19, V.ref t20, V.ref t21]).length = 22 := by rw [List.length_append, lx]; rfl
    generalize (xs ++ [V.ref t19, V.ref t20, V.ref t21]) = xs at hL hT lx ⊢
    generalize L2 = L at hL hLH nL2 ⊢
    clear nL2
    refine ⟨_, rfl, ?_⟩
    -- TwoLoops
    refine fun a22 na22 p22 np22 => ⟨(by show 3 ≤ sizeLine; decide), fun t22 nt22 => ?_⟩
    obtain ⟨y22, i22⟩ := it_new0 (EC := EC) (vs := [va, vb, vc, vd]) (c := "TwoLoops") na22 np22 nt22
    have X := X.trans y22
    generalize (upd (upd (upd HH a22 (exk a22 (.ref (EC "TwoLoops")) none)) p22 (.dK [])) t22 (.tup [.ref a22, .str "TwoLoops", .ref p22])) = HH at y22 i22 X ⊢
    have hL := y22 _ _ hL
    have hT := its_ext hT y22
    -- Finished
    refine fun a23 na23 p23 np23 => ⟨(by show 3 ≤ sizeLine; decide), fun t23 nt23 => ?_⟩
    obtain ⟨y23, i23⟩ := it_new0 (EC := EC) (vs := [va, vb, vc, vd]) (c := "Finished") na23 np23 nt23
    have X := X.trans y23
    generalize (upd (upd (upd HH a23 (exk a23 (.ref (EC "Finished")) none)) p23 (.dK [])) t23 (.tup [.ref a23, .str "Finished", .ref p23])) = HH at y23 i23 X ⊢
    have hL := y23 _ _ hL
    have hT := its_ext hT y23
    have i22 := i22.ext y23
    refine ⟨(by show 2 ≤ sizeLine; decide), fun l nl => ⟨L, l, xs, _, rfl, rfl, Ext.upd nl _ _ hL, upd_same, by rw [lx]; show 22 + 2 ≤ sizeLine; decide, fun L2 nL2 => ?_⟩⟩
    have hLH : H L2 = none := ext_free (X.trans (Ext.upd nl)) nL2
    have yL := (Ext.upd (o := HO.lst [V.ref t22, V.ref t23]) nl).trans (Ext.upd (o := HO.lst (xs ++ [V.ref t22, V.ref t23])) nL2)
    have hL : (upd (upd HH l (.lst [V.ref t22, V.ref t23])) L2 (.lst (xs ++ [V.ref t22, V.ref t23]))) L2 = some (.lst (xs ++ [V.ref t22, V.ref t23])) := upd_same
    have hT : Paired (ItAt EC [va, vb, vc, vd] (upd (upd HH l (.lst [V.ref t22, V.ref t23])) L2 (.lst (xs ++ [V.ref t22, V.ref t23])))) (xs ++ [V.ref t22, V.ref t23]) [("BadName", [("value", 0)]), ("BadDeed", [("value", 0)]), ("BadMove", [("value", 0)]), ("BadNumber", [("value", 0)]), ("BadPrice", [("value", 0)]), ("BadPlace", [("value", 0)]), ("BadPart", [("part", 0)]), ("BadSlots", [("value", 0)]), ("BadStanding", [("value", 0)]), ("BadRule", [("value", 0)]), ("Twice", [("name", 0)]), ("TooMany", [("most", 0)]), ("Unmade", [("place", 0), ("name", 1)]), ("NoRoom", [("place", 0)]), ("MadeAgain", [("place", 0), ("name", 1)]), ("Crowded", [("place", 0)]), ("Barred", [("word", 0), ("name", 1)]), ("BadLine", [("word", 0)]), ("BadPlan", [("at", 0), ("index", 1), ("word", 2), ("name", 3)]), ("NoLoop", []), ("HasLoop", []), ("OneLoop", []), ("TwoLoops", []), ("Finished", [])] := its_ext (paired_app hT (.cons i22 (.cons i23 .nil))) yL
    have X := X.trans yL
    generalize (upd (upd HH l (.lst [V.ref t22, V.ref t23])) L2 (.lst (xs ++ [V.ref t22, V.ref t23]))) = HH at yL hL hT X ⊢
    have lx : (xs ++ [V.ref t22, V.ref t23]).length = 24 := by rw [List.length_append, lx]; rfl
    generalize (xs ++ [V.ref t22, V.ref t23]) = xs at hL hT lx ⊢
    generalize L2 = L at hL hLH nL2 ⊢
    clear nL2
    refine ⟨_, rfl, ?_⟩
    -- BadText
    refine ⟨_, rfl, _, rfl, rfl, (by show 2 ≤ 1000; decide), fun d24 nd24 a24 na24 p24 np24 => ⟨_, rfl, _, rfl, upd_same, [(Sum.inr "line", va), (Sum.inr "word", vb)], rfl, (by show 2 ≤ 15; decide), ?_⟩⟩
    rw [upd_upd, show mergeK [] [((Sum.inr "line" : Key), (va : V)), ((Sum.inr "word" : Key), (vb : V))] = [((Sum.inr "line" : Key), (va : V)), ((Sum.inr "word" : Key), (vb : V))] from by kernel_rfl]
    refine ⟨(by show 3 ≤ sizeLine; decide), fun t24 nt24 => ?_⟩
    obtain ⟨y24, i24⟩ := it_new (EC := EC) (vs := [va, vb, vc, vd]) (c := "BadText") (fs := [("line", 0), ("word", 1)]) (xs := ((["line", "word"] : List Str).zip [va, vb]).reverse) (kvs := [((Sum.inr "line" : Key), (va : V)), ((Sum.inr "word" : Key), (vb : V))]) (List.cons_ne_nil _ _) rfl rfl nd24 na24 np24 nt24
    have X := X.trans y24
    generalize (upd (upd (upd (upd HH d24 (.xd ((["line", "word"] : List Str).zip [va, vb]).reverse)) a24 (exk a24 (.ref (EC "BadText")) (some d24))) p24 (.dK [((Sum.inr "line" : Key), (va : V)), ((Sum.inr "word" : Key), (vb : V))])) t24 (.tup [.ref a24, .str "BadText", .ref p24])) = HH at y24 i24 X ⊢
    have hL := y24 _ _ hL
    have hT := its_ext hT y24
    refine ⟨(by show 1 ≤ sizeLine; decide), fun l nl => ⟨L, l, xs, _, rfl, rfl, Ext.upd nl _ _ hL, upd_same, by rw [lx]; show 24 + 1 ≤ sizeLine; decide, fun L2 nL2 => ?_⟩⟩
    have hLH : H L2 = none := ext_free (X.trans (Ext.upd nl)) nL2
    have yL := (Ext.upd (o := HO.lst [V.ref t24]) nl).trans (Ext.upd (o := HO.lst (xs ++ [V.ref t24])) nL2)
    have hL : (upd (upd HH l (.lst [V.ref t24])) L2 (.lst (xs ++ [V.ref t24]))) L2 = some (.lst (xs ++ [V.ref t24])) := upd_same
    have hT : Paired (ItAt EC [va, vb, vc, vd] (upd (upd HH l (.lst [V.ref t24])) L2 (.lst (xs ++ [V.ref t24])))) (xs ++ [V.ref t24]) [("BadName", [("value", 0)]), ("BadDeed", [("value", 0)]), ("BadMove", [("value", 0)]), ("BadNumber", [("value", 0)]), ("BadPrice", [("value", 0)]), ("BadPlace", [("value", 0)]), ("BadPart", [("part", 0)]), ("BadSlots", [("value", 0)]), ("BadStanding", [("value", 0)]), ("BadRule", [("value", 0)]), ("Twice", [("name", 0)]), ("TooMany", [("most", 0)]), ("Unmade", [("place", 0), ("name", 1)]), ("NoRoom", [("place", 0)]), ("MadeAgain", [("place", 0), ("name", 1)]), ("Crowded", [("place", 0)]), ("Barred", [("word", 0), ("name", 1)]), ("BadLine", [("word", 0)]), ("BadPlan", [("at", 0), ("index", 1), ("word", 2), ("name", 3)]), ("NoLoop", []), ("HasLoop", []), ("OneLoop", []), ("TwoLoops", []), ("Finished", []), ("BadText", [("line", 0), ("word", 1)])] := its_ext (paired_app hT (.cons i24 .nil)) yL
    have X := X.trans yL
    generalize (upd (upd HH l (.lst [V.ref t24])) L2 (.lst (xs ++ [V.ref t24]))) = HH at yL hL hT X ⊢
    have lx : (xs ++ [V.ref t24]).length = 25 := by rw [List.length_append, lx]; rfl
    generalize (xs ++ [V.ref t24]) = xs at hL hT lx ⊢
    generalize L2 = L at hL hLH nL2 ⊢
    clear nL2
    exact k L xs HH X hL (by exact hT)
end
end K01
end
section
set_option Elab.async false
set_option autoImplicit false
set_option linter.all false
set_option maxRecDepth 100000
set_option maxHeartbeats 4000000
namespace K01
open PySem PySem.Spec PyProof.Rows L2 Ls
open C8 (pss_cut tCut)
open TL
theorem ascii_ok {n : Nat} {z : Str} (h : z.length ≤ n) (h2 : (tl z).all (fun c => decide (c < 256)) = true) : OkS n z := ⟨h, fun c hc => of_decide_eq_true (List.all_eq_true.mp h2 c hc)⟩
def OddD (d : PyData) : Prop := Shw 300 d ∧ d.depth ≤ 1
section
variable {P : Program} {w : World} {K : PySem.W.Frag} {mg : Str → Option Value} {base : Heap} {EC : Str → Addr} {CE CD CU CM CO : Addr} {tL tN tU : Tok}
/-! ### _law_odd -/
def spOdd : Sp := fun vs H Q _ => ∃ (p c : Addr) (n : Nat), vs = [.ref p] ∧ PenAt H p c n ∧ n < 1000000 ∧ ∀ v d H', OddD d → TV (vis [p, c] H') v d → PenAt H' p c (n + 2) → Keep p c H H' → Q v H'
abbrev s__law_odd : Stmt := top 51
abbrev N__law_odd : List Str := ["_law_pen_here", "_law_number", "_law_some_here"]
theorem sc__law_odd : FnScope N__law_odd ["_law_pen_here"] (defScope s__law_odd) := ⟨rfl, rfl, rfl, by decide +kernel, rfl, by decide +kernel, by decide +kernel⟩
theorem ok_odd {f : Addr} {fd : FuncData} (F : Fun K "_law_odd" "_law_odd" s__law_odd f fd) (T : Tx K mg EC CE CD CU CM CO tL tN tU) (c__law_draw : Cal P w K mg base CX0 1 "_law_draw" spDraw) (c__law_pick : Cal P w K mg base CX0 2 "_law_pick" (spPick K)) :
    FnOk P w K mg base CX0 3 f fd ["_law_pen_here"] spOdd := by
  refine F.ok sc__law_odd (fun vs H Q E h => ?_) (fun cdv A outer s H vs Q E hr h => ?_)
  · obtain ⟨p, c, n, rfl, _⟩ := h
    rfl
  · obtain ⟨p, c, n, rfl, hp, hn, k⟩ := h
    refine ⟨_, (pss_cons (ps_set (i := 1) sc__law_odd.nd rfl (by first | exact Or.inl rfl | exact Or.inr rfl) (pe_op op_sub (pe_cal c__law_draw (hr.mono (by decide)) (by rfl) pass0 (pa_cons (pv 0) (pa_cons (pe_op op_pow pe_int pe_int) pa_nil))) (pe_op op_mul pe_int (pe_op op_pow pe_int pe_int))))
      (pss_cons (ps_set (i := 2) sc__law_odd.nd rfl (by first | exact Or.inl rfl | exact Or.inr rfl) (pe_lst (pa_cons (pv 1) (pa_cons (pe_op op_pow pe_int pe_int) (pa_cons pe_str (pa_cons pe_str (pa_cons (pe_tup (pa_cons (pv 1) (pa_cons pe_str pa_nil))) (pa_cons (pe_lst (pa_cons (pv 1) pa_nil)) (pa_cons (pe_disp (pps_cons pe_str (pv 1) pps_nil) (by rfl) (by rfl) (fun z => by cases z) (by decide)) (pa_cons pe_non (pa_cons pe_bl (pa_cons pe_bl (pa_cons (pe_tup pa_nil) pa_nil)))))))))))))
      (pss_one (ps_ret (pe_cal c__law_pick (hr.mono (by decide)) (by rfl) pass0 (pa_cons (pv 0) (pa_cons (pv 2) pa_nil))))))), ?_⟩
    refine ⟨_, rfl, _, _, rfl, rfl, ⟨by decide, by decide, by decide⟩, p, c, n, _, rfl, hp, by omega, by decide, by decide, fun j H0 j0 j1 hp0 kp0 => ?_⟩
    have e9 : ((10 : Int) ^ (9 : Int).toNat) = 1000000000 := by decide +kernel
    have e8 : ((10 : Int) ^ (8 : Int).toNat) = 100000000 := by decide +kernel
    refine ⟨_, _, rfl, rfl, ⟨by decide, by decide, by decide⟩, _, _, rfl, rfl, .inl ⟨by decide, by decide⟩, _, _, rfl, rfl, ?_⟩
    dsimp only
    rw [e8]
    rw [e9] at j1
    have hb : (j - 5 * 100000000).natAbs < 10 ^ 9 := by
      have : (10 : Nat) ^ 9 = 1000000000 := by decide
      omega
    generalize (j - 5 * 100000000) = z at hb
    have sz : Shw 10 (.int z) := Shw.int10 (by decide) hb (by decide)
    refine ⟨_, rfl, _, _, rfl, rfl, ⟨by decide, by decide, by decide⟩, _, rfl, (by show 2 ≤ sizeLine; decide), fun t1 n1 => ?_⟩
    have f1 : (upd H0 t1 (.tup [.int z, .str "x"])) t1 = some (.tup [.int z, .str "x"]) := upd_same
    have e1 : Ext H0 (upd H0 t1 (.tup [.int z, .str "x"])) := Ext.upd n1
    generalize (upd H0 t1 (.tup [.int z, .str "x"])) = H1 at f1 e1
    refine ⟨_, rfl, (by show 1 ≤ sizeLine; decide), fun l1 n2 => ?_⟩
    have f2 : (upd H1 l1 (.lst [.int z])) l1 = some (.lst [.int z]) := upd_same
    have e2 : Ext H1 (upd H1 l1 (.lst [.int z])) := Ext.upd n2
    generalize (upd H1 l1 (.lst [.int z])) = H2 at f2 e2
    intro d1 n3
    refine ⟨_, rfl, upd_same, [(Sum.inr "a", .int z)], rfl, by show 1 ≤ 15; decide, ?_⟩
    rw [upd_upd, show mergeK [] [((Sum.inr "a" : Key), V.int z)] = [((Sum.inr "a" : Key), V.int z)] from by kernel_rfl]
    have f3 : (upd H2 d1 (.dK [((Sum.inr "a" : Key), V.int z)])) d1 = some (.dK [((Sum.inr "a" : Key), V.int z)]) := upd_same
    have e3 : Ext H2 (upd H2 d1 (.dK [((Sum.inr "a" : Key), V.int z)])) := Ext.upd n3
    generalize (upd H2 d1 (.dK [((Sum.inr "a" : Key), V.int z)])) = H3 at f3 e3
    refine ⟨(by show 0 ≤ sizeLine; decide), fun t0 n4 => ?_⟩
    have f4 : (upd H3 t0 (.tup [])) t0 = some (.tup []) := upd_same
    have e4 : Ext H3 (upd H3 t0 (.tup [])) := Ext.upd n4
    generalize (upd H3 t0 (.tup [])) = H4 at f4 e4
    refine ⟨(by show 11 ≤ sizeLine; decide), fun L nL => ?_⟩
    have e04 : Ext H0 H4 := e1.trans (e2.trans (e3.trans e4))
    have hp4 := hp0.ext e04
    obtain ⟨np, nc⟩ := hp4.ne nL
    refine ⟨_, rfl, _, rfl, p, c, n + 1, _, rfl, hp4.upd np nc, by omega, .inl ⟨L, _, rfl, np.symm, nc.symm, upd_same, by simp, by simp, fun x H8 hx hp8 kp8 => ?_⟩⟩
    have kp : Keep p c H4 H8 := (Keep.new nL).trans kp8
    have at_ : ∀ {a : Addr} {o : HO} {H' : Hp}, Ext H0 H' → H' a = none → H4 a = some o → (∀ ps, o ≠ .tbl ps) → vis [p, c] H8 a = some o := fun {a o H'} e hn h6 h7 => by
      obtain ⟨q1, q2⟩ := (hp0.ext e).ne hn
      exact vis_at (by simp [q1.symm, q2.symm]) (kp a o h6 q1.symm q2.symm) h7
    have g1 := at_ Ext.rfl' n1 (e4 _ _ (e3 _ _ (e2 _ _ f1))) (fun _ z => nomatch z)
    have g2 := at_ e1 n2 (e4 _ _ (e3 _ _ f2)) (fun _ z => nomatch z)
    have g3 := at_ (e1.trans e2) n3 (e4 _ _ f3) (fun _ z => nomatch z)
    have g4 := at_ (e1.trans (e2.trans e3)) n4 f4 (fun _ z => nomatch z)
    have dz : (PyData.int z).depth < 20 := (by decide : 0 < 20)
    have dx : ∀ {y : Str}, (PyData.str y).depth < 20 := fun {y} => (by decide : 0 < 20)
    have sx : Shw 12 (.str "x") := Shw.str (n := 1) (ascii_ok (by decide +kernel) (by decide +kernel))
    have sa : Shw 12 (.str "a") := Shw.str (n := 1) (ascii_ok (by decide +kernel) (by decide +kernel))
    have tx : ∃ d, OddD d ∧ TV (vis [p, c] H8) x d := by
      simp only [List.mem_cons, List.not_mem_nil, or_false] at hx
      rcases hx with rfl | rfl | rfl | rfl | rfl | rfl | rfl | rfl | rfl | rfl | rfl
      · exact ⟨_, ⟨sz.mono (by decide), Nat.zero_le _⟩, .int _⟩
      · exact ⟨_, ⟨(Shw.int10 (k := 60) (by decide) (by decide +kernel) (by decide)).mono (by decide), Nat.zero_le _⟩, .int _⟩
      · exact ⟨_, ⟨(Shw.str (n := 4) (ascii_ok (by decide +kernel) (by decide +kernel))).mono (by decide), Nat.zero_le _⟩, .str _⟩
      · exact ⟨_, ⟨(Shw.str (n := 4) (ascii_ok (by decide +kernel) (by decide +kernel))).mono (by decide), Nat.zero_le _⟩, .str _⟩
      · exact ⟨_, ⟨(Shw.tup2 sz sx dz dx).mono (by decide), Nat.le_refl _⟩, .tup g1 (.cons (.int _) (.cons (.str _) .nil))⟩
      · exact ⟨_, ⟨(Shw.list1 sz dz).mono (by decide), Nat.le_refl _⟩, .lst g2 (.cons (.int _) .nil)⟩
      · exact ⟨_, ⟨(Shw.dict1 sa sz dx dz).mono (by decide), Nat.le_refl _⟩, .dct g3 (.cons (.str _) .nil) (.cons (.int _) .nil)⟩
      · exact ⟨_, ⟨(⟨rfl, by decide, by decide +kernel⟩ : Shw 300 .none), Nat.zero_le _⟩, .non⟩
      · exact ⟨_, ⟨(⟨rfl, by decide, by decide +kernel⟩ : Shw 300 (.bool true)), Nat.zero_le _⟩, .bl _⟩
      · exact ⟨_, ⟨(⟨rfl, by decide, by decide +kernel⟩ : Shw 300 (.bool false)), Nat.zero_le _⟩, .bl _⟩
      · exact ⟨_, ⟨(⟨rfl, by decide, by decide +kernel⟩ : Shw 300 (.tuple [])), by decide⟩, .tup g4 .nil⟩
    obtain ⟨d, hd, hv⟩ := tx
    exact k x d H8 hd hv hp8 (kp0.trans ((Keep.ext e04).trans kp))
end
end K01
end
section
set_option Elab.async false
set_option autoImplicit false
set_option linter.all false
set_option maxRecDepth 100000
set_option maxHeartbeats 4000000
namespace K01
open PySem PySem.Spec PyProof.Rows L2 Ls
open C8 (pss_cut tCut)
open TL
theorem err_few {x : Ef} (h : x ∈ errL) : x.2.length ≤ 4 ∧ (∀ f ∈ x.2, f.1 ∈ sortsF) ∧ (x.2.map (·.1)).Nodup := by
  have q : errL.all (fun x => decide (x.2.length ≤ 4) && (x.2.all (fun f => decide (f.1 ∈ sortsF)) && decide ((x.2.map (·.1)).Nodup))) = true := by decide +kernel
  have := List.all_eq_true.mp q x h
  simp only [Bool.and_eq_true, decide_eq_true_eq, List.all_eq_true] at this
  exact this
theorem fld_at {vs : List V} : ∀ {fs : List (Str × Nat)} {j : Nat} {k : Key} {v : V}, ((fldV vs fs).map fun p => ((Sum.inr p.1 : Key), p.2))[j]? = some (k, v) → ∃ f i, fs[j]? = some (f, i) ∧ k = Sum.inr f ∧ v = vs.getD i .non
  | [], _, _, _, h => by simp [fldV] at h
  | (f, i) :: r, 0, k, v, h => by
    simp [fldV] at h
    exact ⟨f, i, rfl, h.1.symm, by simpa using h.2.symm⟩
  | (f, i) :: r, j + 1, k, v, h => by
    obtain ⟨f', i', h1, h2⟩ := fld_at (fs := r) (j := j) (k := k) (v := v) (by simpa [fldV] using h)
    exact ⟨f', i', by simpa using h1, h2⟩
theorem fld_look {vs : List V} {f : Str} {i : Nat} : ∀ {fs : List (Str × Nat)}, (fs.map (·.1)).Nodup → (f, i) ∈ fs → (fldV vs fs).reverse.lookup f = some (vs.getD i .non) := by
  intro fs nd hm
  have h1 : ((fldV vs fs).reverse.map (·.1)).Nodup := by
    unfold List.Nodup
    rw [List.map_reverse, List.pairwise_reverse]
    unfold fldV
    rw [List.map_map]
    exact List.Pairwise.imp (fun h => Ne.symm h) nd
  have h2 : (f, vs.getD i .non) ∈ (fldV vs fs).reverse := List.mem_reverse.mpr (List.mem_map.mpr ⟨(f, i), hm, rfl⟩)
  generalize (fldV vs fs).reverse = l at h1 h2
  clear nd hm
  induction l with
  | nil => cases h2
  | cons a r ih =>
    obtain ⟨a, b⟩ := a
    obtain ⟨q1, q2⟩ := List.nodup_cons.mp h1
    by_cases e : f = a
    · subst e
      rcases List.mem_cons.mp h2 with z | z
      · cases z
        simp [List.lookup]
      · exact absurd (List.mem_map.mpr ⟨_, z, rfl⟩) q1
    · have e2 : (f == a) = false := beq_eq_false_iff_ne.mpr e
      rw [List.lookup_cons, e2]
      refine ih q2 ?_
      rcases List.mem_cons.mp h2 with z | z
      · cases z
        exact absurd rfl e
      · exact z
theorem fld_dict {vs : List V} {f : Str} {i : Nat} : ∀ {fs : List (Str × Nat)}, (fs.map (·.1)).Nodup → (f, i) ∈ fs → valV ((fldV vs fs).map fun p => ((Sum.inr p.1 : Key), p.2)) (Sum.inr f) = some (vs.getD i .non)
  | [], _, h => by cases h
  | (g, j) :: r, nd, h => by
    obtain ⟨q1, q2⟩ := List.nodup_cons.mp nd
    by_cases e : g = f
    · subst e
      rcases List.mem_cons.mp h with z | z
      · cases z
        simp [valV, fldV, List.find?_cons]
      · exact absurd (List.mem_map.mpr ⟨_, z, rfl⟩) q1
    · have e2 : ¬ ((Sum.inr g : Key) = Sum.inr f) := fun z => e (Sum.inr.inj z)
      rcases List.mem_cons.mp h with z | z
      · cases z
        exact absurd rfl e
      · have ih := fld_dict (vs := vs) q2 z
        unfold valV fldV at ih ⊢
        rw [List.map_cons, List.map_cons, List.find?_cons_of_neg (by simpa using e)]
        exact ih
theorem ext_unlock {H H8 : Hp} {dk : Addr} {u : HO} {od : Obj} (hk : H dk = some u) (h : Ext (upd H dk (.frz od u)) H8) : Ext H (upd H8 dk u) := fun b o q => by
  by_cases e : b = dk
  · subst e
    rw [upd_same, ← q, hk]
  · rw [upd_ne e]
    exact h b o (by rw [upd_ne e]; exact q)
theorem vals_of {vs ys : List V} {fs : List (Str × Nat)} (hl : ys.length = fs.length) (h : ∀ (j : Nat) (y : V), ys[j]? = some y → ∃ f i, fs[j]? = some (f, i) ∧ y = vs.getD i .non) : ys = fs.map fun p => vs.getD p.2 .non := by
  refine List.ext_getElem? fun j => ?_
  cases q : ys[j]? with
  | none =>
    have := List.getElem?_eq_none_iff.mp q
    symm
    rw [List.getElem?_eq_none_iff, List.length_map]
    omega
  | some v =>
    obtain ⟨f, i, h1, rfl⟩ := h j v q
    rw [List.getElem?_map, h1]
    rfl
theorem tvs_of {H : Hp} {vs : List V} {ds : List PyData} (h : ∀ i, TV H (vs.getD i .non) (ds.getD i .none)) : ∀ fs : List (Str × Nat), TVs H (fs.map fun p => vs.getD p.2 .non) (fs.map fun p => ds.getD p.2 .none)
  | [] => .nil
  | (_, i) :: r => .cons (h i) (tvs_of h r)
section
variable {P : Program} {w : World} {K : PySem.W.Frag} {mg : Str → Option Value} {base : Heap} {EC : Str → Addr} {CE CD CU CM CO : Addr} {tL tN tU : Tok}
/-! ### _law_errors_right -/
def spER : Sp := fun vs H Q _ => ∃ (p c : Addr) (n : Nat), vs = [.ref p] ∧ PenAt H p c n ∧ n < 900000 ∧ ∀ H', Q (.bl true) H'
abbrev s__law_errors_right : Stmt := top 55
abbrev N__law_errors_right : List Str := ["_law_pen_here", "_law_error", "_law_title", "_law_due", "_law_sort"]
theorem sc__law_errors_right : FnScope N__law_errors_right ["_law_pen_here"] (defScope s__law_errors_right) := ⟨rfl, rfl, rfl, by decide +kernel, rfl, by decide +kernel, by decide +kernel⟩
theorem ok_er {f : Addr} {fd : FuncData} (F : Fun K "_law_errors_right" "_law_errors_right" s__law_errors_right f fd) (T : Tx K mg EC CE CD CU CM CO tL tN tU) (hE : ∀ x ∈ errL, EcK K CE (EC x.1) (x.2.map (·.1))) (hsys : (base.get? sysModules).isSome = true)
    (c__law_odd : Cal P w K mg base CX0 3 "_law_odd" spOdd) (c__law_errors : Cal P w K mg base CX0 3 "_law_errors" (spErrs EC)) (c__law_kinds : Cal P w K mg base CX0 1 "_law_kinds" (spKinds K EC)) (c__law_field : Cal P w K mg base CX0 1 "_law_field" (spField K)) :
    FnG P w K mg base CX0 5 f fd ["_law_pen_here"] spER := by
  refine okG F sc__law_errors_right (fun vs H Q E h => ?_) (fun cdv A outer s H vs Q E hcd hgd hr h => ?_)
  · obtain ⟨p, c, n, rfl, _⟩ := h
    rfl
  · obtain ⟨p, c, n, rfl, hp, hn, k⟩ := h
    have h4 : sizeLine = 16777216 := sizeLine_eq
    have hu := hu_of hr
    refine ⟨_, (pss_cons (ps_for PassesOwn.never rfl (pi_list (pe_cal c__law_errors (hr.mono (by decide)) (by rfl) pass0 (pa_cons (pe_cal c__law_odd (hr.mono (by decide)) (by rfl) pass0 (pa_cons (pv 0) pa_nil)) (pa_cons (pe_cal c__law_odd (hr.mono (by decide)) (by rfl) pass0 (pa_cons (pv 0) pa_nil)) (pa_cons (pe_cal c__law_odd (hr.mono (by decide)) (by rfl) pass0 (pa_cons (pv 0) pa_nil)) (pa_cons (pe_cal c__law_odd (hr.mono (by decide)) (by rfl) pass0 (pa_cons (pv 0) pa_nil)) pa_nil)))))) (pg_tup rfl (pgs_cons (pg_name (i := 1) sc__law_errors_right.nd rfl (by first | exact Or.inl rfl | exact Or.inr rfl)) (pgs_cons (pg_name (i := 2) sc__law_errors_right.nd rfl (by first | exact Or.inl rfl | exact Or.inr rfl)) (pgs_cons (pg_name (i := 3) sc__law_errors_right.nd rfl (by first | exact Or.inl rfl | exact Or.inr rfl)) pgs_nil))))
      (pss_cons (ps_if ((pw_or (pt_not (pt_val (pe_callB call_isX (by rfl) (T.bn _ (by decide +kernel)) (by decide +kernel) (pa_cons (pv 1) (pa_cons (pe_gref (by rfl) T.m_StowError) pa_nil))))) (pw_or (pt_not (pt_val (pe_callB call_isX (by rfl) (T.bn _ (by decide +kernel)) (by decide +kernel) (pa_cons (pv 1) (pa_cons (pe_gty (T := "ValueError") (by rfl) (T.bn _ (by decide +kernel)) (by decide +kernel)) pa_nil))))) (pw_or1 (pt_cmpR (op_neG mon_flat eqG_flat (hr.mono (by decide))) (pe_cal c__law_kinds (hr.mono (by decide)) (by rfl) pass0 (pa_cons (pv 1) pa_nil)) (pe_lst (pa_cons (pv 2) pa_nil)) (nomark _)))))).pt (pss_one (ps_ret pe_bl)) pss_nil)
      (pss_cons (ps_if (pt_val (pe_callB call_isXT (by rfl) (T.bn _ (by decide +kernel)) (by decide +kernel) (pa_cons (pv 1) (pa_cons (pe_tup (pa_cons (pe_gty (T := "LookupError") (by rfl) (T.bn _ (by decide +kernel)) (by decide +kernel)) (pa_cons (pe_gty (T := "ArithmeticError") (by rfl) (T.bn _ (by decide +kernel)) (by decide +kernel)) (pa_cons (pe_gty (T := "TypeError") (by rfl) (T.bn _ (by decide +kernel)) (by decide +kernel)) (pa_cons (pe_gty (T := "RuntimeError") (by rfl) (T.bn _ (by decide +kernel)) (by decide +kernel)) (pa_cons (pe_gty (T := "AttributeError") (by rfl) (T.bn _ (by decide +kernel)) (by decide +kernel)) pa_nil)))))) pa_nil)))) (pss_one (ps_ret pe_bl)) pss_nil)
      (pss_one (ps_if (pt_cmpR op_ne (pe_callB (call_repr hgd hr hsys) (by rfl) (T.bn _ (by decide +kernel)) (by decide +kernel) (pa_cons (pe_lock (pe_lc (own := [("_law_sort", 4)]) rfl sc__law_errors_right.nd (pi_keys (pv 3)) (blkOk_by (own := [("_law_sort", 4)]) (N := N__law_errors_right) (sc := defScope s__law_errors_right) (by decide +kernel)) (fun _ _ _ _ _ => (pg_name (i := 4) sc__law_errors_right.nd rfl (by first | exact Or.inl rfl | exact Or.inr rfl))) (fun _ _ _ _ _ => pts_nil) (fun _ _ _ _ _ => (pe_cal c__law_field (hr.mono (by decide)) (by rfl) pass0 (pa_cons (pv 1) (pa_cons (pv 4) pa_nil)))))) pa_nil)) (pe_callB (call_repr hgd hr hsys) (by rfl) (T.bn _ (by decide +kernel)) (by decide +kernel) (pa_cons (pe_lock (pe_lc (own := [("_law_sort", 4)]) rfl sc__law_errors_right.nd (pi_keys (pv 3)) (blkOk_by (own := [("_law_sort", 4)]) (N := N__law_errors_right) (sc := defScope s__law_errors_right) (by decide +kernel)) (fun _ _ _ _ _ => (pg_name (i := 4) sc__law_errors_right.nd rfl (by first | exact Or.inl rfl | exact Or.inr rfl))) (fun _ _ _ _ _ => pts_nil) (fun _ _ _ _ _ => (pe_dget hu (pv 3) (pv 4) (fun _ _ => rfl))))) pa_nil)) (nomark _)) (pss_one (ps_ret pe_bl)) pss_nil)))))
      (pss_one (ps_ret pe_bl))), ?_⟩
    refine ⟨_, rfl, p, c, n, rfl, hp, by omega, fun va da H1 oa ta hp1 kp1 => ⟨_, rfl, p, c, _, rfl, hp1, by omega, fun vb db H2 ob tb hp2 kp2 => ⟨_, rfl, p, c, _, rfl, hp2, by omega, fun vc dc H3 oc tc hp3 kp3 => ⟨_, rfl, p, c, _, rfl, hp3, by omega, fun vd dd H4 od td hp4 kp4 => ?_⟩⟩⟩⟩
    refine ⟨va, vb, vc, vd, rfl, fun l xs H5 e5 hl its => ?_⟩
    have kp34 := kp4
    have kp24 := kp3.trans kp4
    have kp14 := kp2.trans kp24
    have odds : ∀ i, TV H5 ([va, vb, vc, vd].getD i .non) ([da, db, dc, dd].getD i .none) ∧ OddD ([da, db, dc, dd].getD i .none) := fun i => by
      match i with
      | 0 => exact ⟨(ta.ext (vis_keep kp14 (by simp) (by simp))).ext (vis_ext.trans e5), oa⟩
      | 1 => exact ⟨(tb.ext (vis_keep kp24 (by simp) (by simp))).ext (vis_ext.trans e5), ob⟩
      | 2 => exact ⟨(tc.ext (vis_keep kp34 (by simp) (by simp))).ext (vis_ext.trans e5), oc⟩
      | 3 => exact ⟨td.ext (vis_ext.trans e5), od⟩
      | n + 4 => exact ⟨.non, ⟨(⟨rfl, by decide, by decide +kernel⟩ : Shw 300 .none), Nat.zero_le _⟩⟩
    generalize [va, vb, vc, vd] = vs at its odds
    generalize [da, db, dc, dd] = ds at odds
    refine ⟨l, rfl, ⟨_, SqL.of hl⟩, for_it (walk_list (xs := xs)) (fun i σ H' => ∃ x1 x2 x3 x4, σ = [some (.ref p), x1, x2, x3, x4] ∧ Ext H5 H') ⟨_, _, _, _, rfl, Ext.rfl'⟩ (fun i σ H' _ ⟨_, _, _, _, _, e⟩ => SqL.of (e _ _ hl)) ?_ ?_⟩
    · rintro i x σ _ H6 hi ⟨x1, x2, x3, x4, rfl, e6⟩ ⟨rfl, hx⟩
      obtain ⟨⟨c1, fs⟩, hx2, t, e, dk, rfl, ht, he, hk⟩ := Ls.Paired.at_ its hx
      dsimp only at ht he hk
      have hm := List.mem_of_getElem? hx2
      have hE1 := hE _ hm
      obtain ⟨few, hso, hnd⟩ := err_few hm
      have few : fs.length ≤ 4 := few
      obtain ⟨d, hxx⟩ := (he.ext e6).get
      have hc : c1 ∈ errN := List.mem_map.mpr ⟨_, hm, rfl⟩
      refine ⟨_, _, rfl, SqT.of (e6 _ _ ht), rfl, _, _, rfl, _, _, rfl, _, _, rfl, rfl, ?_⟩
      refine ⟨_, rfl, e, _, d, _, _, _, rfl, (hxx _ Ext.rfl').1, hE1.ec, (hxx _ Ext.rfl').2, fun u r => r, hE1.ks, _, rfl, ?_⟩
      refine iteF ?_
      refine ⟨_, rfl, e, _, d, _, _, _, rfl, (hxx _ Ext.rfl').1, hE1.ec, (hxx _ Ext.rfl').2, fun u r => r, hE1.kv, _, rfl, ?_⟩
      refine iteF ?_
      refine ⟨_, rfl, e, c1, _, rfl, he.ext e6, hc, fun l1 H7 e7 hl1 => ?_⟩
      refine ⟨_, rfl, (by show 1 ≤ sizeLine; decide), fun l2 nl2 => ⟨⟨l1, l2, _, _, rfl, rfl, Ext.upd nl2 _ _ hl1, upd_same, .cons ⟨rfl, rfl, ?_⟩ .nil⟩, fun H8 e8 => ⟨_, rfl, ?_⟩⟩⟩
      · rw [eqV_str]
        simp
      refine iteF ?_
      have e68 := e7.trans ((Ext.upd nl2).trans e8)
      refine ⟨_, rfl, (by show 5 ≤ sizeLine; decide), fun tp ntp => ?_⟩
      have y9 : Ext H8 (upd H8 tp (.tup [.ty "LookupError", .ty "ArithmeticError", .ty "TypeError", .ty "RuntimeError", .ty "AttributeError"])) := Ext.upd ntp
      refine ⟨e, _, tp, d, _, _, _, rfl, (hxx _ (e68.trans y9)).1, hE1.ec, (hxx _ (e68.trans y9)).2, upd_same, .cons (.ty _) (.cons (.ty _) (.cons (.ty _) (.cons (.ty _) (.cons (.ty _) .nil)))), hE1.kn, _, rfl, ?_⟩
      generalize (upd H8 tp (.tup [.ty "LookupError", .ty "ArithmeticError", .ty "TypeError", .ty "RuntimeError", .ty "AttributeError"])) = H9 at y9 ⊢
      refine iteF ?_
      have e59 := e6.trans (e68.trans y9)
      have he9 := he.ext e59
      have hk9 := e59 _ _ hk
      have lkv : ((fldV vs fs).map fun p => ((Sum.inr p.1 : Key), p.2)).length = fs.length := by unfold fldV; rw [List.length_map, List.length_map]
      have shw : Shw 1300 (.list (fs.map fun p => ds.getD p.2 .none)) := by
        have := Shw.listN (n := 300) (k := 1) (ds := fs.map fun p => ds.getD p.2 .none) (fun d hd => by
          obtain ⟨q, _, rfl⟩ := List.mem_map.mp hd
          exact (odds q.2).2.1) (fun d hd => by
          obtain ⟨q, _, rfl⟩ := List.mem_map.mp hd
          exact (odds q.2).2.2) (by decide)
        refine this.mono ?_
        rw [List.length_map]
        omega
      have sln : (PyData.list (fs.map fun p => ds.getD p.2 .none)).shown.length ≤ sizeLine := Nat.le_trans shw.ln (by rw [h4]; decide)
      refine ⟨dk, _, hk9, trivial, fun od1 => ⟨_, rfl, dk, _, rfl, .inl ⟨_, upd_same, fun D hD => ?_⟩⟩⟩
      have dl : (upd H9 dk (.frz od1 (.dK ((fldV vs fs).map fun p => (Sum.inr p.1, p.2))))) dk = some (.frz od1 (.dK ((fldV vs fs).map fun p => (Sum.inr p.1, p.2)))) := upd_same
      refine lc_map (walk_keys (d := dk) (o := od1) (kvs := (fldV vs fs).map fun p => (Sum.inr p.1, p.2))) [D] (by simp) (fun H' => Ext (upd H9 dk (.frz od1 (.dK ((fldV vs fs).map fun p => (Sum.inr p.1, p.2))))) H') (fun j y _ => ∃ f i, fs[j]? = some (f, i) ∧ y = vs.getD i .non) (by rw [lkv]; omega) (fun _ _ _ _ _ h => h)
        (fun H' o hh b o' z => by rw [upd_ne (ne_of_none z hD)]; exact hh b o' z) (Ext.upd hD) (fun H' _ hh => hh _ _ dl) ?_ ?_
      · rintro j x _ H10 acc C hj e10 hh10 hD10 ⟨rfl, kk, vv, hkv, rfl⟩ hC
        obtain ⟨f1, i1, hf1, rfl, rfl⟩ := fld_at hkv
        have hfm := List.mem_of_getElem? hf1
        rcases he9 with ⟨q1, _⟩ | ⟨dd1, q1, q2, q3⟩
        · have : fs = [] := List.map_eq_nil_iff.mp q1
          rw [this] at hf1
          simp at hf1
        have up : ∀ {b : Addr} {o : HO}, H9 b = some o → (∀ kvs, o ≠ .dK kvs) → H10 b = some o := fun {b o} z nz => hh10 _ _ (by rw [upd_ne (ne_of z hk9 (nz _))]; exact z)
        refine ⟨rfl, _, rfl, _, rfl, e, _, dd1, _, f1, _, rfl, up q2 (fun _ z => by unfold exk at z; cases z), hE1.xf (fun z => by have z := List.map_eq_nil_iff.mp z; dsimp only at z; rw [z] at hf1; simp at hf1), hE1.no f1 (List.mem_map.mpr ⟨_, hfm, rfl⟩), up q3 (fun _ z => by cases z), fld_look hnd hfm, hso _ hfm, fun H11 e11 => ?_⟩
        exact hC _ _ (e11 _ _ hD10) (hid_mono e11) (hh10.trans e11) ⟨f1, i1, hf1, rfl⟩
      · intro H10 ys e10 hh10 hD10 hlen hy
        have hys := vals_of (by rw [hlen, lkv]) hy
        subst hys
        refine ⟨hh10 _ _ dl, ?_⟩
        have e910 := ext_unlock hk9 hh10
        have fD : (upd H10 dk (.dK ((fldV vs fs).map fun p => (Sum.inr p.1, p.2)))) D = some (.lst (fs.map fun p => vs.getD p.2 .non)) := by
          rw [upd_ne (ne_of_none (dl) hD).symm]
          exact hD10
        generalize (upd H10 dk (.dK ((fldV vs fs).map fun p => (Sum.inr p.1, p.2)))) = H12 at e910 fD ⊢
        have e512 := e59.trans e910
        have tv1 : TV H12 (.ref D) (.list (fs.map fun p => ds.getD p.2 .none)) := .lst fD (tvs_of (vs := vs) (ds := ds) (fun i => (odds i).1.ext e512) fs)
        refine ⟨_, _, rfl, tv1, shw.sh, Nat.le_trans shw.dp (by decide), sln, ?_⟩
        refine ⟨dk, _, e910 _ _ hk9, trivial, fun od2 => ⟨_, rfl, dk, _, rfl, .inl ⟨_, upd_same, fun D2 hD2 => ?_⟩⟩⟩
        have hk12 := e910 _ _ hk9
        have dl2 : (upd H12 dk (.frz od2 (.dK ((fldV vs fs).map fun p => (Sum.inr p.1, p.2))))) dk = some (.frz od2 (.dK ((fldV vs fs).map fun p => (Sum.inr p.1, p.2)))) := upd_same
        refine lc_map (walk_keys (d := dk) (o := od2) (kvs := (fldV vs fs).map fun p => (Sum.inr p.1, p.2))) [D2] (by simp) (fun H' => Ext (upd H12 dk (.frz od2 (.dK ((fldV vs fs).map fun p => (Sum.inr p.1, p.2))))) H') (fun j y _ => ∃ f i, fs[j]? = some (f, i) ∧ y = vs.getD i .non) (by rw [lkv]; omega) (fun _ _ _ _ _ h => h)
          (fun H' o hh b o' z => by rw [upd_ne (ne_of_none z hD2)]; exact hh b o' z) (Ext.upd hD2) (fun H' _ hh => hh _ _ dl2) ?_ ?_
        · rintro j x _ H13 acc C hj e13 hh13 hD13 ⟨rfl, kk, vv, hkv, rfl⟩ hC
          obtain ⟨f1, i1, hf1, rfl, rfl⟩ := fld_at hkv
          have hfm := List.mem_of_getElem? hf1
          refine ⟨rfl, _, rfl, _, rfl, dk, _, rfl, .inl ⟨_, Sum.inr f1, .inr ⟨_, hh13 _ _ dl2⟩, rfl, (fld_dict hnd hfm).symm⟩, ?_⟩
          exact hC _ _ hD13 Ext.rfl' hh13 ⟨f1, i1, hf1, rfl⟩
        · intro H13 ys e13 hh13 hD13 hlen2 hy2
          have hys := vals_of (by rw [hlen2, lkv]) hy2
          subst hys
          refine ⟨hh13 _ _ dl2, ?_⟩
          have e1213 := ext_unlock hk12 hh13
          have fD2 : (upd H13 dk (.dK ((fldV vs fs).map fun p => (Sum.inr p.1, p.2)))) D2 = some (.lst (fs.map fun p => vs.getD p.2 .non)) := by
            rw [upd_ne (ne_of_none dl2 hD2).symm]
            exact hD13
          generalize (upd H13 dk (.dK ((fldV vs fs).map fun p => (Sum.inr p.1, p.2)))) = H14 at e1213 fD2 ⊢
          have e514 := e512.trans e1213
          have tv2 : TV H14 (.ref D2) (.list (fs.map fun p => ds.getD p.2 .none)) := .lst fD2 (tvs_of (vs := vs) (ds := ds) (fun i => (odds i).1.ext e514) fs)
          refine ⟨_, _, rfl, tv2, shw.sh, Nat.le_trans shw.dp (by decide), sln, rfl, _, rfl, ?_⟩
          refine iteNo (by rw [decide_eq_true rfl]; rfl) ?_
          exact ⟨_, _, _, _, rfl, e514⟩
    · rintro σ H6 ⟨x1, x2, x3, x4, rfl, e6⟩
      exact k H6
end
end K01
end
section
set_option Elab.async false
set_option autoImplicit false
set_option linter.all false
set_option maxRecDepth 100000
set_option maxHeartbeats 4000000
namespace K01
open PySem PySem.Spec PyProof.Rows L2 Ls
open C8 (pss_cut tCut)
open TL
/-! ### lots, compared as data -/
def lotD (d : Dd) : PyData := .tuple [madeD d, .list (d.2.map .str)]
theorem lot_eqv (d d' : Dd) : PyData.eqv (lotD d) (lotD d') = decide (d = d') := by
  obtain ⟨m, us⟩ := d
  obtain ⟨m', us'⟩ := d'
  show (PyData.eqv (madeD (m, us)) (madeD (m', us')) && (PyData.eqvAll (us.map .str) (us'.map .str) && true)) = _
  rw [eqvAll_strs, Bool.and_true]
  cases m with
  | none =>
    cases m' with
    | none =>
      show (true && decide (us = us')) = _
      by_cases e : us = us'
      · subst e
        simp
      · rw [decide_eq_false e, Bool.true_and]
        exact (decide_eq_false fun z => e (Prod.mk.inj z).2).symm
    | some z =>
      show (false && decide (us = us')) = _
      rw [Bool.false_and]
      exact (decide_eq_false (by intro z; cases z)).symm
  | some y =>
    cases m' with
    | none =>
      show (false && decide (us = us')) = _
      rw [Bool.false_and]
      exact (decide_eq_false (by intro z; cases z)).symm
    | some z =>
      show ((y == z) && decide (us = us')) = _
      by_cases e : y = z
      · subst e
        by_cases e2 : us = us'
        · subst e2
          simp
        · rw [decide_eq_false e2, Bool.and_false]
          exact (decide_eq_false fun z => e2 (Prod.mk.inj z).2).symm
      · rw [show (y == z) = false from beq_eq_false_iff_ne.mpr e, Bool.false_and]
        exact (decide_eq_false fun q => e (Option.some.inj (Prod.mk.inj q).1)).symm
theorem lot_shaped {d : Dd} (h : Good d) : SeqAt.shaped (lotD d) = true := by
  have h1 : PyData.canLayAll0 (d.2.map .str) = true := lay_strs d.2 fun z hz => name_sok (h.nm z hz)
  have h2 : (madeD d).canLay0 = true ∧ (madeD d).depth = 0 := by
    obtain ⟨m, us⟩ := d
    cases m with
    | none => exact ⟨rfl, rfl⟩
    | some z => exact ⟨name_sok (h.mn z rfl), rfl⟩
  have h3 : (PyData.list (d.2.map .str)).depth ≤ 1 := depth_lst fun x hx => by
    obtain ⟨z, _, rfl⟩ := List.mem_map.mp hx
    exact Nat.le_refl _
  show ((madeD d).canLay0 && (PyData.canLayAll0 (d.2.map .str) && true) && decide ((lotD d).depth ≤ 64)) = true
  rw [h1, h2.1]
  refine decide_eq_true ?_
  show max (madeD d).depth (max (PyData.list (d.2.map .str)).depth 0) + 1 ≤ 64
  omega
theorem lot_dp {K : PySem.W.Frag} {H : Hp} {t : Addr} {d : Dd} (h : LotAt H t d) : Dp K H (.ref t) (lotD d) := by
  obtain ⟨ul, h1, h2⟩ := h
  refine .tup (SqT.of h1) (.cons ?_ (.cons (.lst (SqL.of h2) (dp_strs _)) .nil))
  obtain ⟨m, us⟩ := d
  cases m with
  | none => exact .non
  | some z => exact .str z
/-- what the top says of the classes of two deeds -/
structure PairK (K : PySem.W.Frag) (CU CM CO : Addr) : Prop where
  sU : PySem.W.subIn K (.ref CO) (.ref CU) = some true
  sM : PySem.W.subIn K (.ref CO) (.ref CM) = some true
  nU : CO ≠ CU
  nM : CO ≠ CM
  um : PySem.W.notFirst K CU (.ref CM) = true
  mu : PySem.W.notFirst K CM (.ref CU) = true
  ou : PySem.W.notFirst K CO (.ref CU) = true
  om : PySem.W.notFirst K CO (.ref CM) = true
theorem pair_cls {K : PySem.W.Frag} {CU CM CO : Addr} (PK : PairK K CU CM CO) (TK : ∀ d, Good d → KinT K CU CM CO (clsD CU CM CO d) d) (d d' : Dd) (g : Good d) :
    PySem.W.notFirst K (clsD CU CM CO d) (.ref (clsD CU CM CO d')) = true ∨ (clsD CU CM CO d' ≠ clsD CU CM CO d ∧ PySem.W.subIn K (.ref (clsD CU CM CO d')) (.ref (clsD CU CM CO d)) = some true) := by
  have s1 := (TK d g).nf
  obtain ⟨m, us⟩ := d
  obtain ⟨m', us'⟩ := d'
  cases m with
  | none =>
    cases m' with
    | none => exact .inl s1
    | some z' => cases us' with
      | nil => exact .inl PK.um
      | cons u' r' => exact .inr ⟨PK.nU, PK.sU⟩
  | some z =>
    cases us with
    | nil =>
      cases m' with
      | none => exact .inl PK.mu
      | some z' => cases us' with
        | nil => exact .inl s1
        | cons u' r' => exact .inr ⟨PK.nM, PK.sM⟩
    | cons u r =>
      cases m' with
      | none => exact .inl PK.ou
      | some z' => cases us' with
        | nil => exact .inl PK.om
        | cons u' r' => exact .inl s1
theorem dec_symm (d d' : Dd) : decide (d' = d) = decide (d = d') := by
  by_cases h : d = d'
  · subst h
    rfl
  · rw [decide_eq_false h]
    exact decide_eq_false fun e => h e.symm
def revD (d : Dd) : Dd := (d.1, d.2.reverse)
theorem good_rev {d : Dd} (h : Good d) : Good (revD d) := ⟨fun z hz => h.nm z (List.mem_reverse.mp hz), h.mn, by
  show List.Pairwise _ d.2.reverse
  rw [List.pairwise_reverse]
  exact List.Pairwise.imp (fun q => Ne.symm q) h.nd, by
  show d.2.reverse.length ≤ 3
  rw [List.length_reverse]
  exact h.le, fun e z => h.ne e (by simpa [revD] using z)⟩
theorem paired_of {P : Addr → Dd → Prop} : ∀ {es : List Dd} {ys : List V}, ys.length = es.length → (∀ (j : Nat) (y : V), ys[j]? = some y → ∃ t d, es[j]? = some d ∧ y = .ref t ∧ P t d) → ∃ ts : List Addr, ys = ts.map V.ref ∧ Paired P ts es
  | [], ys, hl, _ => ⟨[], by simpa using hl, .nil⟩
  | e :: es, [], hl, _ => by simp at hl
  | e :: es, y :: ys, hl, h => by
    obtain ⟨t, d, h1, rfl, h3⟩ := h 0 y rfl
    have h1 : e = d := by simpa using h1
    subst h1
    obtain ⟨ts, q1, q2⟩ := paired_of (P := P) (es := es) (ys := ys) (by simpa using hl) fun j y hj => by
      obtain ⟨t, d, z1, z2, z3⟩ := h (j + 1) y (by simpa using hj)
      exact ⟨t, d, by simpa using z1, z2, z3⟩
    exact ⟨t :: ts, by rw [q1]; rfl, .cons h3 q2⟩
theorem paired_take {P : Addr → Dd → Prop} : ∀ {n : Nat} {ts : List Addr} {ds : List Dd}, Paired P ts ds → Paired P (ts.take n) (ds.take n)
  | 0, _, _, _ => .nil
  | n + 1, _, _, .nil => .nil
  | n + 1, _, _, .cons r t => .cons r (paired_take t)
theorem room3 : Asc ((["a"] : List Str) ++ (["a"] : List Str)) ["a"] := ⟨by decide +kernel, by decide +kernel, fun y => by simp⟩
theorem room4 : Asc ((["s", "a"] : List Str) ++ (["s"] : List Str)) ["a", "s"] := ⟨by decide +kernel, by decide +kernel, fun y => by
  simp only [List.mem_append, List.mem_cons, List.not_mem_nil, or_false]
  exact ⟨fun h => (by rcases h with h | h <;> simp [h]), fun h => (by rcases h with (h | h) | h <;> simp [h])⟩⟩
theorem room5 : Asc ((["a", "b", "c"] : List Str) ++ (["x"] : List Str)) ["a", "b", "c", "x"] := ⟨by decide +kernel, by decide +kernel, fun y => by simp⟩
theorem bools_shw (b c : Bool) : Shw 100 (.list [.bool b, .bool c]) := by cases b <;> cases c <;> exact ⟨rfl, by decide, by decide +kernel⟩
section
variable {P : Program} {w : World} {K : PySem.W.Frag} {mg : Str → Option Value} {base : Heap} {EC : Str → Addr} {CE CD CU CM CO : Addr} {tL tN tU : Tok}
theorem eq_deeds {fs fe a b : Addr} {H : Hp} {d d' : Dd} {Q : VK} {E : XK} (PK : PairK K CU CM CO) (TC : ∀ d, ClT K CD fs fe (clsD CU CM CO d)) (TK : ∀ d, Good d → KinT K CU CM CO (clsD CU CM CO d) d)
    (ha : DeedAt (clsD CU CM CO) H a d) (hb : DeedAt (clsD CU CM CO) H b d') (g : Good d) (g' : Good d') (q : Q (.bl (decide (d = d'))) H) :
    rEqO K fe (spEq (clsD CU CM CO) K CD) E (.ref a) (.ref b) H Q ∨ rEqR K fe (spEq (clsD CU CM CO) K CD) E (.ref a) (.ref b) H Q := by
  obtain ⟨dx, f1, t1, t2, ia, _⟩ := id ha
  obtain ⟨dy, f2, u1, u2, ib, _⟩ := id hb
  have C := TC d'
  rcases pair_cls PK TK d d' g with h | ⟨h1, h2⟩
  · exact .inl ⟨a, _, dx, f1, _, rfl, ia, (TC d).eq, .base (.ins ib C.cd.cl C.ha C.hn C.htk C.hm), h, a, .ref b, d, rfl, ha, g, .inl ⟨b, d', rfl, hb, g', _, rfl, q⟩⟩
  · refine .inr ⟨a, b, _, _, dx, dy, f1, f2, rfl, rfl, ia, ib, h1, h2, C.eq, b, .ref a, d', rfl, hb, g', .inl ⟨a, d, rfl, ha, g, _, rfl, ?_⟩⟩
    rw [dec_symm]
    exact q
theorem ne_deeds {fs fe a b : Addr} {H : Hp} {d d' : Dd} {Q : VK} {E : XK} (PK : PairK K CU CM CO) (TC : ∀ d, ClT K CD fs fe (clsD CU CM CO d)) (TK : ∀ d, Good d → KinT K CU CM CO (clsD CU CM CO d) d)
    (ha : DeedAt (clsD CU CM CO) H a d) (hb : DeedAt (clsD CU CM CO) H b d') (g : Good d) (g' : Good d') (q : Q (.bl (!decide (d = d'))) H) :
    rNeO K fe (spEq (clsD CU CM CO) K CD) E (.ref a) (.ref b) H Q ∨ rNeR K fe (spEq (clsD CU CM CO) K CD) E (.ref a) (.ref b) H Q := by
  obtain ⟨dx, f1, t1, t2, ia, _⟩ := id ha
  obtain ⟨dy, f2, u1, u2, ib, _⟩ := id hb
  have C := TC d'
  rcases pair_cls PK TK d d' g with h | ⟨h1, h2⟩
  · exact .inl ⟨a, _, dx, f1, _, rfl, ia, (TC d).eq, (TK d g).ne, (TC d).hm, .base (.ins ib C.cd.cl C.ha C.hn C.htk C.hm), h, a, .ref b, d, rfl, ha, g, .inl ⟨b, d', rfl, hb, g', _, rfl, q⟩⟩
  · refine .inr ⟨a, b, _, _, dx, dy, f1, f2, rfl, rfl, ia, ib, h1, h2, C.eq, (TK d' g').ne, C.hm, b, .ref a, d', rfl, hb, g', .inl ⟨a, d, rfl, ha, g, _, rfl, ?_⟩⟩
    rw [dec_symm]
    exact q
/-! ### law -/
def Most (K : PySem.W.Frag) (C : Addr) : Prop := ∃ mc u, ClX.CRead K C mc ∧ ClX.CVal K C mc "MOST" (.int 3) u
def spLaw (K : PySem.W.Frag) : Sp := fun vs H Q _ => ∃ (a : Addr) (ns : List Int), vs = [.ref a] ∧ SqL K H a (ns.map V.int) ∧ ns.length ≤ 63 ∧ ∀ H', Q (.bl true) H'
abbrev s_law : Stmt := top 56
abbrev N_law : List Str := ["_law_script", "_law_pen_here", "_law_known", "_law_lots", "_law_lap", "_law_made", "_law_used", "_law_one", "_law_other", "_law_first", "_law_second", "_law_rooms"]
theorem sc_law : FnScope N_law ["_law_script"] (defScope s_law) := ⟨rfl, rfl, rfl, by decide +kernel, rfl, by decide +kernel, by decide +kernel⟩
theorem ok_law {f fs fe : Addr} {fd : FuncData} (F : Fun K "law" "law" s_law f fd) (T : Tx K mg EC CE CD CU CM CO tL tN tU) (TC : ∀ d, ClT K CD fs fe (clsD CU CM CO d)) (TK : ∀ d, Good d → KinT K CU CM CO (clsD CU CM CO d) d) (PK : PairK K CU CM CO) (hM : ∀ C ∈ [CD, CU, CM, CO], Most K C) (hsys : (base.get? sysModules).isSome = true)
    (hfe : PySem.W.isFn K (.ref fe) = true) (rE : FnR P w K mg base CX0 4 fe (spEq (clsD CU CM CO) K CD))
    (c_room : Prp P w K mg base CX0 2 (InC CU CM CO) "room" (spRoom (clsD CU CM CO))) (c_Make : Mkc P w K mg base CX0 5 CM "Make" (spMake CM)) (c_Make_kw : MkcK P w K mg base CX0 5 CM "Make" "name" (spMake CM)) (c_Do : Mkc P w K mg base CX0 5 CO "Do" (spDo CO))
    (c__law_pen : Cal P w K mg base CX0 1 "_law_pen" (spPen K)) (c__law_names : Cal P w K mg base CX0 3 "_law_names" spLNames) (c__law_lot : Cal P w K mg base CX0 3 "_law_lot" spLot) (c__law_real_deed : Cal P w K mg base CX0 7 "_law_real_deed" (spReal (clsD CU CM CO)))
    (c__law_right : CalG P w K mg base CX0 10 "_law_right" spRight) (c__law_errors_right : CalG P w K mg base CX0 5 "_law_errors_right" spER) :
    FnG P w K mg base CX0 11 f fd ["_law_script"] (spLaw K) := by
  refine okG F sc_law (fun vs H Q E h => ?_) (fun cdv A outer s H vs Q E hcd hgd hr h => ?_)
  · obtain ⟨a, ns, rfl, _⟩ := h
    rfl
  · obtain ⟨a, ns, rfl, ha, hn, k⟩ := h
    have h4 : sizeLine = 16777216 := sizeLine_eq
    refine ⟨_, (pss_cons (ps_set (i := 1) sc_law.nd rfl (by first | exact Or.inl rfl | exact Or.inr rfl) (pe_cal c__law_pen (hr.mono (by decide)) (by rfl) pass0 (pa_cons (pv 0) pa_nil)))
      (pss_cons (ps_set (i := 2) sc_law.nd rfl (by first | exact Or.inl rfl | exact Or.inr rfl) (pe_cal c__law_names (hr.mono (by decide)) (by rfl) pass0 (pa_cons (pv 1) (pa_cons pe_int pa_nil))))
      (pss_cons (ps_setLc (i := 3) (own := [("_law_lap", 4)]) rfl sc_law.nd rfl rfl (sw_true rfl rfl rfl (by decide +kernel)) (pi_range1 rfl (T.bn _ (by decide +kernel)) (pa_cons pe_int pa_nil)) (blkOk_by (own := [("_law_lap", 4)]) (N := N_law) (sc := defScope s_law) (by decide +kernel)) (fun _ _ _ _ _ => (pg_name (i := 4) sc_law.nd rfl (by first | exact Or.inl rfl | exact Or.inr rfl))) (fun _ _ _ _ _ => pts_nil) (fun _ _ _ _ _ => (pe_cal c__law_lot (hr.mono (by decide)) (by rfl) pass0 (pa_cons (pv 1) (pa_cons (pv 2) pa_nil)))))
      (pss_cons (ps_set (i := 3) sc_law.nd rfl (by first | exact Or.inl rfl | exact Or.inr rfl) (pe_op op_cat (pv 3) (pe_lc (own := [("_law_made", 5), ("_law_used", 6)]) (g := gTup K 2 (gCons (gName 5) (gCons (gName 6) gNil))) rfl sc_law.nd (pi_list (pe_slice sl_list (pv 3) po_none (po_some pe_int))) (blkOk_by (own := [("_law_made", 5), ("_law_used", 6)]) (N := N_law) (sc := defScope s_law) (by decide +kernel)) (fun _ _ _ _ _ => (pg_tup rfl (pgs_cons (pg_name (i := 5) sc_law.nd rfl (by first | exact Or.inl rfl | exact Or.inr rfl)) (pgs_cons (pg_name (i := 6) sc_law.nd rfl (by first | exact Or.inl rfl | exact Or.inr rfl)) pgs_nil)))) (fun _ _ _ _ _ => pts_nil) (fun _ _ _ _ _ => (pe_tup (pa_cons (pv 5) (pa_cons ((pe_revLK (K := K) rfl) (pv 6)) pa_nil)))))))
      (pss_cons (ps_for PassesOwn.never rfl (pi_list (pv 3)) (pg_tup rfl (pgs_cons (pg_name (i := 5) sc_law.nd rfl (by first | exact Or.inl rfl | exact Or.inr rfl)) (pgs_cons (pg_name (i := 6) sc_law.nd rfl (by first | exact Or.inl rfl | exact Or.inr rfl)) pgs_nil)))
      (pss_one (ps_if (pt_not (pt_val (pe_calG hgd c__law_right (hr.mono (by decide)) (by rfl) pass0 (pa_cons (pv 5) (pa_cons (pv 6) pa_nil))))) (pss_one (ps_ret pe_bl)) pss_nil)))
      (pss_cons (ps_for PassesOwn.never rfl (pi_list (pv 3)) (pg_name (i := 7) sc_law.nd rfl (by first | exact Or.inl rfl | exact Or.inr rfl))
      (pss_one (ps_for PassesOwn.never rfl (pi_list (pv 3)) (pg_name (i := 8) sc_law.nd rfl (by first | exact Or.inl rfl | exact Or.inr rfl))
      (pss_cons (ps_par (i := 9) (j := 10) rfl sc_law.nd rfl rfl (by decide) rfl rfl (pa_cons (pe_cal c__law_real_deed (hr.mono (by decide)) (by rfl) pass0 (pa_cons (pe_ix ix_tup (pv 7) pe_int (fun _ _ => rfl)) (pa_cons (pe_ix ix_tup (pv 7) pe_int (fun _ _ => rfl)) pa_nil))) (pa_cons (pe_cal c__law_real_deed (hr.mono (by decide)) (by rfl) pass0 (pa_cons (pe_ix ix_tup (pv 8) pe_int (fun _ _ => rfl)) (pa_cons (pe_ix ix_tup (pv 8) pe_int (fun _ _ => rfl)) pa_nil))) pa_nil)) (by rfl))
      (pss_one (ps_if (pt_cmpR op_ne (pe_callB (call_repr hgd hr hsys) (by rfl) (T.bn _ (by decide +kernel)) (by decide +kernel) (pa_cons (pe_lst (pa_cons (pe_cmpR (op_eqB rE hfe (hr.mono (by decide)) pass0) (pv 9) (pv 10) (nomark _)) (pa_cons (pe_cmpR (op_neB rE hfe (hr.mono (by decide)) pass0) (pv 9) (pv 10) (nomark _)) pa_nil))) pa_nil)) (pe_callB (call_repr hgd hr hsys) (by rfl) (T.bn _ (by decide +kernel)) (by decide +kernel) (pa_cons (pe_lst (pa_cons (pe_cmpR (op_eqD hr.units) (pv 7) (pv 8) (nomark _)) (pa_cons (pe_cmpR (op_neD hr.units) (pv 7) (pv 8) (nomark _)) pa_nil))) pa_nil)) (nomark _)) (pss_one (ps_ret pe_bl)) pss_nil))))))
      (pss_cons (ps_if (pt_cmpR (op_neD hr.units) (pe_lst (pa_cons (ClX.pe_cval (pe_gref (by rfl) T.m_Deed)) (pa_cons (ClX.pe_cval (pe_gref (by rfl) T.m_Use)) (pa_cons (ClX.pe_cval (pe_gref (by rfl) T.m_Make)) (pa_cons (ClX.pe_cval (pe_gref (by rfl) T.m_Do)) (pa_cons (pe_cmpR (op_eqB rE hfe (hr.mono (by decide)) pass0) (pe_makeK0 c_Make_kw (hr.mono (by decide)) (by rfl) pass0 (pk_cons (pe_ix ix_list (pv 2) pe_int (fun _ _ => rfl)) pk_nil)) (pe_mkc c_Make (hr.mono (by decide)) (by rfl) pass0 (pa_cons (pe_ix ix_list (pv 2) pe_int (fun _ _ => rfl)) pa_nil)) (nomark _)) pa_nil)))))) (pe_lst (pa_cons pe_int (pa_cons pe_int (pa_cons pe_int (pa_cons pe_int (pa_cons pe_bl pa_nil)))))) (nomark _)) (pss_one (ps_ret pe_bl)) pss_nil)
      (pss_cons (ps_set (i := 11) sc_law.nd rfl (by first | exact Or.inl rfl | exact Or.inr rfl) (pe_lst (pa_cons ((pe_prp c_room (hr.mono (by decide)) pass0) (pe_mkc c_Do (hr.mono (by decide)) (by rfl) pass0 (pa_cons pe_str (pa_cons pe_str pa_nil)))) (pa_cons ((pe_prp c_room (hr.mono (by decide)) pass0) (pe_mkc c_Do (hr.mono (by decide)) (by rfl) pass0 (pa_cons pe_str (pa_cons pe_str (pa_cons pe_str pa_nil))))) (pa_cons ((pe_prp c_room (hr.mono (by decide)) pass0) (pe_mkc c_Do (hr.mono (by decide)) (by rfl) pass0 (pa_cons pe_str (pa_cons pe_str (pa_cons pe_str (pa_cons pe_str pa_nil)))))) pa_nil)))))
      (pss_one (ps_ret (pe_and (pe_cmpR (op_eqD hr.units) (pv 11) (pe_lst (pa_cons pe_int (pa_cons pe_int (pa_cons pe_int pa_nil)))) (nomark _)) (pe_one (pe_calG hgd c__law_errors_right (hr.mono (by decide)) (by rfl) pass0 (pa_cons (pv 1) pa_nil)))))))))))))), ?_⟩
    refine ⟨_, rfl, a, ns, rfl, ha, by omega, fun p c H1 hp1 e1 np nc => ?_⟩
    refine ⟨_, rfl, p, c, 0, rfl, hp1, by omega, fun l ws H2 nlp nlc hl hnd hnm h6 hp2 kp2 => ?_⟩
    refine ⟨12, rfl, by decide, by decide, fun D hD => ?_⟩
    obtain ⟨npD, ncD⟩ := hp2.ne hD
    have nlD : l ≠ D := ne_of_none hl hD
    refine lc_it walk_range (fun i H' => ∃ (ts : List Addr) (ds : List Dd), H' D = some (.lst (ts.map V.ref)) ∧ ts.length = i ∧ Paired (LotAt (vis [p, c, D] H')) ts ds ∧ (∀ d ∈ ds, Good d) ∧ PenAt H' p c (30 + 30 * i) ∧ H' l = some (.lst (ws.map V.str))) ?_ (fun _ _ _ _ => trivial) ?_ ?_
    · exact ⟨[], [], upd_same, rfl, .nil, (fun _ h => nomatch h), (hp2.upd npD ncD).mono (by omega), by rw [upd_ne nlD]; exact hl⟩
    · rintro i x _ H3 hi ⟨ts, ds, hD3, hi3, hlots, hgs, hp3, hl3⟩ ⟨rfl, rfl⟩
      have hi' : i < 12 := hi
      have nDp : D ≠ p := npD.symm
      have nDc : D ≠ c := ncD.symm
      refine ⟨rfl, _, rfl, _, rfl, p, c, _, l, ws, rfl, hp3, by omega, hl3, nlp, nlc, hnd, hnm, h6, fun t d H4 hg ht hp4 kp4 => ?_⟩
      have hD4 := kp4 D _ hD3 nDp nDc
      have hDn : ∀ {b o}, nw H3 H4 b = some o → (∀ ps, o ≠ .tbl ps) → vis [p, c, D] (upd H4 D (.lst ((ts.map V.ref) ++ [.ref t]))) b = some o := fun {b o} q nt => by
        obtain ⟨q1, q2⟩ := nw_some q
        obtain ⟨z1, z2⟩ := hp3.ne q1
        have z3 : b ≠ D := fun z => by rw [z, hD3] at q1; cases q1
        exact vis_at (by simp [z1.symm, z2.symm, z3]) (by rw [upd_ne z3]; exact q2) nt
      refine ⟨_, hD4, by rw [List.length_map, h4]; omega, ts ++ [t], ds ++ [d], ?_, by simp [hi3], ?_, ?_, ?_, ?_⟩
      · rw [upd_same, List.map_append]
        rfl
      · refine paired_app (Paired.mono (fun a b q => ?_) hlots) (.cons ?_ .nil)
        · obtain ⟨ul, q1, q2⟩ := q
          have up : Ext (vis [p, c, D] H3) (vis [p, c, D] (upd H4 D (.lst ((ts.map V.ref) ++ [.ref t])))) := fun b o q => by
            obtain ⟨z1, z2, z3⟩ := vis_some q
            simp only [List.mem_cons, List.not_mem_nil, or_false, not_or] at z1
            refine vis_at (by simp [z1]) ?_ z3
            rw [upd_ne z1.2.2]
            exact kp4 b o z2 z1.1 z1.2.1
          exact ⟨ul, up _ _ q1, up _ _ q2⟩
        · obtain ⟨ul, q1, q2⟩ := ht
          exact ⟨ul, hDn q1 (fun _ z => nomatch z), hDn q2 (fun _ z => nomatch z)⟩
      · intro d' hd'
        rcases List.mem_append.mp hd' with h | h
        · exact hgs d' h
        · rw [List.mem_singleton.mp h]
          exact hg
      · exact (hp4.upd npD ncD).mono (by omega)
      · rw [upd_ne nlD]
        exact kp4 l _ hl3 nlp nlc
    · rintro H3 ⟨ts, ds, hD3, hi3, hlots, hgs, hp3, hl3⟩
      have l12 : (12 : Int).toNat = 12 := rfl
      rw [l12] at hi3 hp3
      have lots3 : Paired (LotAt H3) ts ds := Paired.mono (fun a b q => q.ext vis_ext) hlots
      clear hlots
      -- four of them turned
      refine ⟨_, rfl, _, rfl, 4, rfl, D, _, rfl, SqL.of hD3, fun D4 nD4 => ?_⟩
      rw [cutV_to _ (show (0 : Int) ≤ 4 by decide), show (4 : Int).toNat = 4 from rfl, ← List.map_take]
      have f4 : (upd H3 D4 (.lst ((ts.take 4).map V.ref))) D4 = some (.lst ((ts.take 4).map V.ref)) := upd_same
      have e34 : Ext H3 (upd H3 D4 (.lst ((ts.take 4).map V.ref))) := Ext.upd nD4
      generalize (upd H3 D4 (.lst ((ts.take 4).map V.ref))) = H4 at f4 e34 ⊢
      have lots4 : Paired (LotAt H4) (ts.take 4) (ds.take 4) := Paired.mono (fun a b q => q.ext e34) (paired_take lots3)
      have lts : ts.length = ds.length := lots3.length
      refine ⟨D4, rfl, ⟨_, SqL.of f4⟩, fun D5 nD5 => ?_⟩
      refine lc_map (walk_list (xs := (ts.take 4).map V.ref)) [D5] (by simp) (fun H' => Ext H4 H') (fun j y H' => ∃ t d, ((ds.take 4).map revD)[j]? = some d ∧ y = .ref t ∧ LotAt H' t d) (by rw [List.length_map, List.length_take]; omega)
        (fun j y H H' e q => let ⟨t, d, z1, z2, z3⟩ := q; ⟨t, d, z1, z2, z3.ext e⟩)
        (fun H' o hh b o' z => by rw [upd_ne (ne_of_none z nD5)]; exact hh b o' z) (Ext.upd nD5) (fun H' _ hh => SqL.of (hh _ _ f4)) ?_ ?_
      · rintro j x _ H6 acc C hj e hh6 hD6 ⟨rfl, hx⟩ hC
        rw [List.getElem?_map] at hx
        obtain ⟨t, ht, rfl⟩ := Option.map_eq_some_iff.mp hx
        obtain ⟨d, hd, ul, q1, q2⟩ := Ls.Paired.at_ lots4 ht
        refine ⟨_, _, rfl, SqT.of (hh6 _ _ q1), rfl, _, _, rfl, _, _, rfl, rfl, rfl, _, rfl, _, rfl, ul, _, rfl, SqL.of (hh6 _ _ q2), fun r nr => ⟨(by show 2 ≤ sizeLine; decide), fun t2 nt2 => ?_⟩⟩
        have y6 := (Ext.upd (o := HO.lst (d.2.map V.str).reverse) nr).trans (Ext.upd (o := HO.tup [madeV d, .ref r]) nt2)
        have nr5 : r ≠ D5 := (ne_of_none hD6 nr).symm
        have nt5 : t2 ≠ D5 := (ne_of_none (Ext.upd (o := HO.lst (d.2.map V.str).reverse) nr _ _ hD6) nt2).symm
        refine hC _ _ (y6 _ _ hD6) (hid_mono y6) (hh6.trans y6) ⟨t2, revD d, by rw [List.getElem?_map, hd]; rfl, rfl, r, ?_, ?_⟩
        · rw [hid_at (by simpa using nt5)]
          exact upd_same
        · rw [hid_at (by simpa using nr5), upd_ne (ne_of_none upd_same nt2), upd_same]
          show _ = some (HO.lst (d.2.reverse.map V.str))
          rw [List.map_reverse]
      · intro H6 ys e hh6 hD6 hlen hy
        obtain ⟨ts2, rfl, lots2⟩ := paired_of (P := LotAt (hid [D5] H6)) (es := (ds.take 4).map revD) (by rw [hlen, List.length_map, List.length_map, List.length_take, List.length_take, lts]) hy
        have lots2 : Paired (LotAt H6) ts2 ((ds.take 4).map revD) := Paired.mono (fun a b q => q.ext hid_ext) lots2
        have e36 := e34.trans hh6
        have l2 : (ts2.map V.ref).length ≤ 4 := by
          rw [hlen, List.length_map, List.length_take]
          omega
        refine ⟨D, D5, _, _, rfl, rfl, e36 _ _ hD3, hD6, by rw [List.length_map]; omega, fun D7 nD7 => ?_⟩
        have e67 : Ext H6 (upd H6 D7 (.lst (ts.map V.ref ++ ts2.map V.ref))) := Ext.upd nD7
        have f7 : (upd H6 D7 (.lst (ts.map V.ref ++ ts2.map V.ref))) D7 = some (.lst ((ts ++ ts2).map V.ref)) := by rw [upd_same, List.map_append]
        generalize (upd H6 D7 (.lst (ts.map V.ref ++ ts2.map V.ref))) = HB at e67 f7 ⊢
        have e3B := e36.trans e67
        have lots : Paired (LotAt HB) (ts ++ ts2) (ds ++ (ds.take 4).map revD) := paired_app (Paired.mono (fun a b q => q.ext e3B) lots3) (Paired.mono (fun a b q => q.ext e67) lots2)
        have goods : ∀ d ∈ ds ++ (ds.take 4).map revD, Good d := fun d hd => by
          rcases List.mem_append.mp hd with h | h
          · exact hgs d h
          · obtain ⟨d', h', rfl⟩ := List.mem_map.mp h
            exact good_rev (hgs d' (List.mem_of_mem_take h'))
        have hpB := hp3.ext e3B
        have hlB := e3B _ _ hl3
        generalize ts ++ ts2 = Ts at f7 lots
        generalize ds ++ (ds.take 4).map revD = Ds at lots goods
        clear hy hlen lots2 lots3 lots4
        -- each is right
        refine ⟨_, rfl, D7, rfl, ⟨_, SqL.of f7⟩, for_it (walk_list (xs := Ts.map V.ref)) (fun i σ H' => ∃ x4 x5 x6, σ = [some (.ref a), some (.ref p), some (.ref l), some (.ref D7), x4, x5, x6, none, none, none, none, none] ∧ Ext HB H') ⟨_, _, _, rfl, Ext.rfl'⟩ (fun i σ H' _ ⟨_, _, _, _, e⟩ => SqL.of (e _ _ f7)) ?_ ?_⟩
        · rintro i x σ _ H8 hi ⟨x4, x5, x6, rfl, e8⟩ ⟨rfl, hx⟩
          rw [List.getElem?_map] at hx
          obtain ⟨t, ht, rfl⟩ := Option.map_eq_some_iff.mp hx
          obtain ⟨d, hd, ul, q1, q2⟩ := Ls.Paired.at_ lots ht
          have hg := goods d (List.mem_of_getElem? hd)
          refine ⟨_, _, rfl, SqT.of (e8 _ _ q1), rfl, _, _, rfl, _, _, rfl, rfl, ?_⟩
          refine ⟨_, rfl, _, rfl, d, ul, rfl, e8 _ _ q2, hg, fun H9 e9 => ⟨_, rfl, ?_⟩⟩
          refine iteF ?_
          exact ⟨_, _, _, rfl, e8.trans e9⟩
        rintro σ H8 ⟨x4, x5, x6, rfl, e8⟩
        -- each beside each
        refine ⟨_, rfl, D7, rfl, ⟨_, SqL.of (e8 _ _ f7)⟩, for_it (walk_list (xs := Ts.map V.ref)) (fun i σ H' => ∃ y7 y8 y9 y10, σ = [some (.ref a), some (.ref p), some (.ref l), some (.ref D7), x4, x5, x6, y7, y8, y9, y10, none] ∧ Ext HB H') ⟨_, _, _, _, rfl, e8⟩ (fun i σ H' _ ⟨_, _, _, _, _, e⟩ => SqL.of (e _ _ f7)) ?_ ?_⟩
        · rintro i x σ _ H9 hi ⟨y7, y8, y9, y10, rfl, e9⟩ ⟨rfl, hx⟩
          rw [List.getElem?_map] at hx
          obtain ⟨t, ht, rfl⟩ := Option.map_eq_some_iff.mp hx
          obtain ⟨d, hd, lt⟩ := Ls.Paired.at_ lots ht
          have hg := goods d (List.mem_of_getElem? hd)
          refine ⟨_, rfl, D7, rfl, ⟨_, SqL.of (e9 _ _ f7)⟩, for_it (walk_list (xs := Ts.map V.ref)) (fun i σ H' => ∃ y8 y9 y10, σ = [some (.ref a), some (.ref p), some (.ref l), some (.ref D7), x4, x5, x6, some (.ref t), y8, y9, y10, none] ∧ Ext HB H') ⟨_, _, _, rfl, e9⟩ (fun i σ H' _ ⟨_, _, _, _, e⟩ => SqL.of (e _ _ f7)) ?_ ?_⟩
          · rintro i2 x2 σ _ HA hi2 ⟨z8, z9, z10, rfl, eA⟩ ⟨rfl, hx2⟩
            rw [List.getElem?_map] at hx2
            obtain ⟨t', ht', rfl⟩ := Option.map_eq_some_iff.mp hx2
            obtain ⟨d', hd', lt'⟩ := Ls.Paired.at_ lots ht'
            have hg' := goods d' (List.mem_of_getElem? hd')
            obtain ⟨ul, q1, q2⟩ := lt.ext eA
            refine ⟨_, rfl, t, _, 0, _, rfl, rfl, SqT.of q1, atI_nat (j := 0) rfl, _, rfl, t, _, 1, _, rfl, rfl, SqT.of q1, atI_nat (j := 1) rfl, d, ul, rfl, q2, hg, fun r1 HC eC n1 dC => ?_⟩
            have eAC := eA.trans eC
            obtain ⟨ul', p1, p2⟩ := lt'.ext eAC
            refine ⟨_, rfl, t', _, 0, _, rfl, rfl, SqT.of p1, atI_nat (j := 0) rfl, _, rfl, t', _, 1, _, rfl, rfl, SqT.of p1, atI_nat (j := 1) rfl, d', ul', rfl, p2, hg', fun r2 HE eE n2 dE => ?_⟩
            have eAE := eAC.trans eE
            have dC2 := dC.ext eE
            refine ⟨_, _, rfl, ?_⟩
            refine ⟨_, rfl, _, rfl, eq_deeds PK TC TK dC2 dE hg hg' ?_⟩
            refine ⟨_, rfl, _, rfl, ne_deeds PK TC TK dC2 dE hg hg' ?_⟩
            refine ⟨(by show 2 ≤ sizeLine; decide), fun L1 nL1 => ?_⟩
            have sh := bools_shw (decide (d = d')) (!decide (d = d'))
            have sln : (PyData.list [.bool (decide (d = d')), .bool (!decide (d = d'))]).shown.length ≤ sizeLine := Nat.le_trans sh.ln (by rw [h4]; decide)
            have tv1 : TV (upd HE L1 (.lst [.bl (decide (d = d')), .bl (!decide (d = d'))])) (.ref L1) (.list [.bool (decide (d = d')), .bool (!decide (d = d'))]) := .lst upd_same (.cons (.bl _) (.cons (.bl _) .nil))
            have yF : Ext HE (upd HE L1 (.lst [.bl (decide (d = d')), .bl (!decide (d = d'))])) := Ext.upd nL1
            refine ⟨_, _, rfl, tv1, sh.sh, Nat.le_trans sh.dp (by decide), sln, ?_⟩
            have lF := lt.ext (eAE.trans yF)
            have lF' := lt'.ext (eAE.trans yF)
            refine ⟨_, rfl, _, rfl, lotD d, lotD d', lot_dp lF, lot_dp lF', lot_shaped hg, lot_shaped hg', ?_⟩
            refine ⟨_, rfl, _, rfl, lotD d, lotD d', lot_dp lF, lot_dp lF', lot_shaped hg, lot_shaped hg', ?_⟩
            rw [lot_eqv]
            refine ⟨(by show 2 ≤ sizeLine; decide), fun L2 nL2 => ?_⟩
            generalize (upd HE L1 (.lst [.bl (decide (d = d')), .bl (!decide (d = d'))])) = HF at yF nL2 ⊢
            have yG : Ext HF (upd HF L2 (.lst [.bl (decide (d = d')), .bl (!decide (d = d'))])) := Ext.upd nL2
            have tv2 : TV (upd HF L2 (.lst [.bl (decide (d = d')), .bl (!decide (d = d'))])) (.ref L2) (.list [.bool (decide (d = d')), .bool (!decide (d = d'))]) := .lst upd_same (.cons (.bl _) (.cons (.bl _) .nil))
            refine ⟨_, _, rfl, tv2, sh.sh, Nat.le_trans sh.dp (by decide), sln, rfl, _, rfl, ?_⟩
            refine iteNo (by rw [decide_eq_true rfl]; rfl) ?_
            exact ⟨_, _, _, rfl, eAE.trans (yF.trans yG)⟩
          · rintro σ HA ⟨z8, z9, z10, rfl, eA⟩
            exact ⟨_, _, _, _, rfl, eA⟩
        rintro σ H9 ⟨y7, y8, y9, y10, rfl, e9⟩
        obtain ⟨w0, wr, hw⟩ : ∃ w0 wr, ws = w0 :: wr := by
          cases ws with
          | nil => simp at h6
          | cons w0 wr => exact ⟨w0, wr, rfl⟩
        have hw0 : isName w0 = true := hnm w0 (by rw [hw]; simp)
        have l9 := e9 _ _ hlB
        rw [hw] at l9
        obtain ⟨m1, v1, r1, k1⟩ := hM CD (by simp)
        obtain ⟨m2, v2, r2, k2⟩ := hM CU (by simp)
        obtain ⟨m3, v3, r3, k3⟩ := hM CM (by simp)
        obtain ⟨m4, v4, r4, k4⟩ := hM CO (by simp)
        have gm : Good (some w0, []) := ⟨(fun _ h => nomatch h), (fun z e => by cases e; exact hw0), List.nodup_nil, by simp, fun e => by cases e⟩
        refine ⟨_, _, _, _, rfl, r1, k1, _, _, _, _, rfl, r2, k2, _, _, _, _, rfl, r3, k3, _, _, _, _, rfl, r4, k4, ?_⟩
        refine ⟨_, rfl, l, _, 0, _, rfl, rfl, SqL.of l9, atI_nat (j := 0) rfl, rfl, rfl, fun b1 dx1 nb1 ndx1 _ => ⟨b1, dx1, w0, rfl, upd_same, hw0, fun HA hk1 => ⟨rfl, ?_⟩⟩⟩
        obtain ⟨eA, dA⟩ := made_at (cl := clsD CU CM CO) (d := (some w0, [])) nb1 ndx1 hk1
        refine ⟨_, rfl, l, _, 0, _, rfl, rfl, SqL.of (eA _ _ l9), atI_nat (j := 0) rfl, fun b2 dx2 nb2 ndx2 _ => ⟨b2, dx2, w0, rfl, upd_same, hw0, fun HC hk2 => ⟨rfl, ?_⟩⟩⟩
        obtain ⟨eC, dC⟩ := made_at (cl := clsD CU CM CO) (d := (some w0, [])) nb2 ndx2 hk2
        refine eq_deeds PK TC TK (dA.ext eC) dC gm gm ?_
        rw [decide_eq_true rfl]
        refine ⟨(by show 5 ≤ sizeLine; decide), fun L1 nL1 => ⟨(by show 5 ≤ sizeLine; decide), fun L2 nL2 => ?_⟩⟩
        have eE := (Ext.upd (o := HO.lst [.int 3, .int 3, .int 3, .int 3, .bl true]) nL1).trans (Ext.upd (o := HO.lst [.int 3, .int 3, .int 3, .int 3, .bl true]) nL2)
        have fE := (Ext.upd (o := HO.lst [.int 3, .int 3, .int 3, .int 3, .bl true]) nL2) _ _ (upd_same (H := HC) (a := L1))
        refine ⟨.list [.int 3, .int 3, .int 3, .int 3, .bool true], .list [.int 3, .int 3, .int 3, .int 3, .bool true], .lst (SqL.of fE) (.cons (.int _) (.cons (.int _) (.cons (.int _) (.cons (.int _) (.cons (.bl _) .nil))))), .lst (SqL.of upd_same) (.cons (.int _) (.cons (.int _) (.cons (.int _) (.cons (.int _) (.cons (.bl _) .nil))))), by decide +kernel, by decide +kernel, _, rfl, ?_⟩
        refine iteNo (by decide +kernel) ?_
        have e9E := eA.trans (eC.trans eE)
        generalize (upd (upd HC L1 (.lst [.int 3, .int 3, .int 3, .int 3, .bl true])) L2 (.lst [.int 3, .int 3, .int 3, .int 3, .bl true])) = HE at e9E ⊢
        -- rooms
        have inO : InC CU CM CO CO := .inr (.inr rfl)
        have gr : ∀ {z : Str} {us : List Str}, isName z = true → us.all isName = true → decide us.Nodup = true → decide (us.length ≤ 3) = true → Good (some z, us) := fun {z us} h1 h2 h3 h4 => ⟨(fun y hy => List.all_eq_true.mp h2 y hy), (fun y e => by cases e; exact h1), of_decide_eq_true h3, of_decide_eq_true h4, fun e => by cases e⟩
        refine fun b3 dx3 nb3 ndx3 _ => ⟨b3, dx3, "a", ["a"], rfl, upd_same, by decide +kernel, by decide +kernel, by decide +kernel, by decide, by decide, fun HG hk3 => ⟨rfl, ?_⟩⟩
        obtain ⟨eG, dG⟩ := made_at (cl := clsD CU CM CO) (d := (some "a", ["a"])) nb3 ndx3 hk3
        obtain ⟨_, _, _, _, iG, _⟩ := id dG
        refine ⟨b3, _, _, _, rfl, iG, inO, b3, (some "a", ["a"]), rfl, dG, gr (by decide +kernel) (by decide +kernel) (by decide +kernel) (by decide), fun ys3 HI as3 eI => ?_⟩
        refine fun b4 dx4 nb4 ndx4 _ => ⟨b4, dx4, "s", ["s", "a"], rfl, upd_same, by decide +kernel, by decide +kernel, by decide +kernel, by decide, by decide, fun HJ hk4 => ⟨rfl, ?_⟩⟩
        obtain ⟨eJ, dJ⟩ := made_at (cl := clsD CU CM CO) (d := (some "s", ["s", "a"])) nb4 ndx4 hk4
        obtain ⟨_, _, _, _, iJ, _⟩ := id dJ
        refine ⟨b4, _, _, _, rfl, iJ, inO, b4, (some "s", ["s", "a"]), rfl, dJ, gr (by decide +kernel) (by decide +kernel) (by decide +kernel) (by decide), fun ys4 HK as4 eK => ?_⟩
        refine fun b5 dx5 nb5 ndx5 _ => ⟨b5, dx5, "x", ["a", "b", "c"], rfl, upd_same, by decide +kernel, by decide +kernel, by decide +kernel, by decide, by decide, fun HL hk5 => ⟨rfl, ?_⟩⟩
        obtain ⟨eL, dL⟩ := made_at (cl := clsD CU CM CO) (d := (some "x", ["a", "b", "c"])) nb5 ndx5 hk5
        obtain ⟨_, _, _, _, iL, _⟩ := id dL
        refine ⟨b5, _, _, _, rfl, iL, inO, b5, (some "x", ["a", "b", "c"]), rfl, dL, gr (by decide +kernel) (by decide +kernel) (by decide +kernel) (by decide), fun ys5 HM as5 eM => ?_⟩
        obtain rfl := as3.uniq (zs' := (["a"] : List Str) ++ (["a"] : List Str)) room3 (fun _ => Iff.rfl)
        obtain rfl := as4.uniq (zs' := (["s", "a"] : List Str) ++ (["s"] : List Str)) room4 (fun _ => Iff.rfl)
        obtain rfl := as5.uniq (zs' := (["a", "b", "c"] : List Str) ++ (["x"] : List Str)) room5 (fun _ => Iff.rfl)
        refine ⟨(by show 3 ≤ sizeLine; decide), fun L3 nL3 => ⟨_, rfl, (by show 3 ≤ sizeLine; decide), fun L4 nL4 => ?_⟩⟩
        have f3 := (Ext.upd (o := HO.lst [.int 1, .int 2, .int 4]) nL4) _ _ (upd_same (H := HM) (a := L3))
        have eN := (Ext.upd (o := HO.lst [.int 1, .int 2, .int 4]) nL3).trans (Ext.upd (o := HO.lst [.int 1, .int 2, .int 4]) nL4)
        refine ⟨.list [.int 1, .int 2, .int 4], .list [.int 1, .int 2, .int 4], .lst (SqL.of f3) (.cons (.int _) (.cons (.int _) (.cons (.int _) .nil))), .lst (SqL.of upd_same) (.cons (.int _) (.cons (.int _) (.cons (.int _) .nil))), by decide +kernel, by decide +kernel, _, rfl, ?_⟩
        refine iteYes (by decide +kernel) ?_
        exact ⟨_, rfl, p, c, _, rfl, (hpB.ext (e9.trans (e9E.trans (eG.trans (eI.trans (eJ.trans (eK.trans (eL.trans (eM.trans eN))))))))), by omega, fun H' => k H'⟩
end
end K01
end
section
set_option Elab.async false
set_option autoImplicit false
set_option linter.all false
set_option maxRecDepth 100000
set_option maxHeartbeats 4000000
namespace K01
open PySem PySem.Spec PyProof.Rows L2 Ls
open C8 (pss_cut tCut)
open TL
/-- what the top says of where an error class stands in the order of classes -/
structure MroE (K : PySem.W.Frag) (CE C : Addr) : Prop where
  ex : ∃ cd, PySem.W.clsIn K C = some cd ∧ cd.mro = [.ref C, .ref CE, .type "ValueError", .type "Exception", .type "BaseException", .type "object"]
theorem MroE.has {K : PySem.W.Frag} {CE C : Addr} (h : MroE K CE C) (b : Value) : PySem.W.mroIn K C b = some (([.ref C, .ref CE, .type "ValueError", .type "Exception", .type "BaseException", .type "object"] : List Value).contains b) := by
  obtain ⟨cd, h1, h2⟩ := h.ex
  unfold PySem.W.mroIn
  rw [h1, Option.bind_some, h2]
  rfl
structure ErrFx (P : Program) (K : PySem.W.Frag) (CE C : Addr) (qual : Str) (st : Stmt) (fs : List Str) : Prop where
  ex : ∃ (fI cda cc : Addr) (fd : FuncData), PySem.W.findIn K (.ref C) "__init__" = some (some (.ref fI)) ∧ PySem.W.typeIn K (.ref fI) = some (.type "function") ∧ Ls.FunS K "__init__" qual st fI fd cda cc ∧
    (∃ cl cld csl, K.lookup cc = some ⟨cl, cld, .cell (some (.ref C)), csl⟩) ∧ (∃ ccl cdd vs ccs file tf, K.lookup cda = some ⟨ccl, cdd, .fields vs, ccs⟩ ∧ vs[2]? = some (.str file tf) ∧ ((P.main.file : Str) == file) = true) ∧
    PySem.W.ks_superIn K C C "__init__" = some (some (.builtin "ValueError.__init__"))
  cls : ∃ nm q N bs bm sn sub ab col dd k0 k1 k2 k3 k5, K.lookup C = some (excClassObj nm q C N bs bm true sn sub ab col dd k0 k1 k2 k3 k5 "ValueError.__new__") ∧ PySem.HandSPX.refsVE bm = true
  sa : PySem.W.findIn K (.ref C) "__setattr__" = some (some (.builtin "object.__setattr__"))
  ty : PySem.W.typeIn K (.ref C) = some (.type "type")
  kp : PySem.W.keepIn K (.ref C) = true
  mro : MroE K CE C
  xg : PySem.W.findIn K (.ref C) "__getattribute__" = some (some (.builtin "BaseException.__getattribute__"))
  xk : PySem.W.findIn K (.ref C) "__getattr__" = some none
  hd : PySem.W.hasDictIn K C = true
  ha : PySem.W.findIn K (.ref C) "__class__" = some (some (.builtin "object.__class__"))
  no : ∀ f ∈ fs, PySem.W.findIn K (.ref C) f = some none
theorem ErrFx.oex {P : Program} {K : PySem.W.Frag} {CE C : Addr} {qual : Str} {st : Stmt} {fs : List Str} (h : ErrFx P K CE C qual st fs) : OexC K C := ⟨h.cls, h.sa, h.mro.has _, h.ty, h.kp⟩
theorem ErrFx.exc {P : Program} {K : PySem.W.Frag} {CE C : Addr} {qual : Str} {st : Stmt} {fs : List Str} (h : ErrFx P K CE C qual st fs) (hn : PySem.W.specialIn K (.builtin "object.__class__") "__get__" = some (some (.builtin "getset_descriptor.__get__"))) (htk : PySem.W.takesIn K (.builtin "object.__class__") = some true) : ExcC K C :=
  ⟨h.xg, h.xk, h.mro.has _, h.hd, h.ha, hn, htk, h.mro.has _⟩
theorem ErrFx.xf {P : Program} {K : PySem.W.Frag} {CE C : Addr} {qual : Str} {st : Stmt} {fs : List Str} (h : ErrFx P K CE C qual st fs) : XfC K C := ⟨h.xg, h.xk, h.mro.has _, h.hd⟩
theorem ErrFx.sup {P : Program} {K : PySem.W.Frag} {mg : Str → Option Value} {CE C cda cc : Addr} {qual : Str} {st : Stmt} {fs : List Str} (h : ErrFx P K CE C qual st fs)
    (h1 : ∃ cl cld csl, K.lookup cc = some ⟨cl, cld, .cell (some (.ref C)), csl⟩) (h2 : ∃ ccl cdd vs ccs file tf, K.lookup cda = some ⟨ccl, cdd, .fields vs, ccs⟩ ∧ vs[2]? = some (.str file tf) ∧ ((P.main.file : Str) == file) = true)
    (h3 : PySem.W.ks_superIn K C C "__init__" = some (some (.builtin "ValueError.__init__"))) (sp : mg "super" = none) (tp : (P.main.scope.names.lookup ("super" : Str)).isSome = false) (an : PySem.W.nsIn K cStatics "thirdparty.any" = some none) : SupE P K mg C C cc cda :=
  ⟨h1, h2, ⟨_, h.mro.ex.choose_spec.1⟩, h.mro.has _ |>.trans (by simp), h.mro.has _, sp, tp, an, h3, h.oex⟩
theorem errFx_mk {P : Program} {K : PySem.W.Frag} {CE C fI cda cc : Addr} {qual : Str} {st : Stmt} {fs : List Str} {oc kV dc pm ct cl ccl : Value} {od an cld cdd : Option Addr} {osl csl ccs : Array (Option Value)} {vs : Array Value} {file : Str} {tf : Tok} {cd : ClassData}
    {nm q : Str} {N : Addr} {bs bm sub : List Value} {sn : List Str} {ab : Bool} {col : Option Bool} {dd : Option Addr} {k0 k1 k2 k3 k5 : Option Value}
    (e_in : PySem.W.findIn K (.ref C) "__init__" = some (some (.ref fI))) (e_tf : PySem.W.typeIn K (.ref fI) = some (.type "function"))
    (e_l : K.lookup fI = some ⟨oc, od, .func (PySem.W.ksFn "__init__" qual (defArgs st) (defBody st) (defScope st) .none kV dc pm an (.ref cda) ct cc), osl⟩) (e_c : PySem.W.codeIn K (.ref cda) qual = true) (e_k : PySem.W.keepIn K (.ref fI) = true)
    (e_ce : K.lookup cc = some ⟨cl, cld, .cell (some (.ref C)), csl⟩) (e_co : K.lookup cda = some ⟨ccl, cdd, .fields vs, ccs⟩) (e_v2 : vs[2]? = some (.str file tf)) (e_fl : ((P.main.file : Str) == file) = true)
    (e_fd : PySem.W.ks_superIn K C C "__init__" = some (some (.builtin "ValueError.__init__")))
    (e_xo : K.lookup C = some (excClassObj nm q C N bs bm true sn sub ab col dd k0 k1 k2 k3 k5 "ValueError.__new__")) (e_xr : PySem.HandSPX.refsVE bm = true)
    (e_sa : PySem.W.findIn K (.ref C) "__setattr__" = some (some (.builtin "object.__setattr__"))) (e_ty : PySem.W.typeIn K (.ref C) = some (.type "type")) (e_kp : PySem.W.keepIn K (.ref C) = true)
    (e_mr : PySem.W.clsIn K C = some cd) (e_me : cd.mro = [.ref C, .ref CE, .type "ValueError", .type "Exception", .type "BaseException", .type "object"])
    (e_xg : PySem.W.findIn K (.ref C) "__getattribute__" = some (some (.builtin "BaseException.__getattribute__"))) (e_xk : PySem.W.findIn K (.ref C) "__getattr__" = some none) (e_hd : PySem.W.hasDictIn K C = true) (e_ha : PySem.W.findIn K (.ref C) "__class__" = some (some (.builtin "object.__class__")))
    (e_no : ∀ f ∈ fs, PySem.W.findIn K (.ref C) f = some none) : ErrFx P K CE C qual st fs :=
  ⟨⟨fI, cda, cc, _, e_in, e_tf, ⟨⟨_, _, _, _, _, _, _, _, rfl, e_l, e_c⟩, e_k⟩, ⟨_, _, _, e_ce⟩, ⟨_, _, _, _, _, _, e_co, e_v2, e_fl⟩, e_fd⟩, ⟨_, _, _, _, _, _, _, _, _, _, _, _, _, _, _, e_xo, e_xr⟩, e_sa, e_ty, e_kp, ⟨cd, e_mr, e_me⟩, e_xg, e_xk, e_hd, e_ha, e_no⟩
/-- an own error class without fields -/
structure ErrF0 (K : PySem.W.Frag) (CE C : Addr) : Prop where
  x : PySem.W.excIn K C [.type "ValueError", .type "Exception", .type "BaseException", .type "object"] "ValueError.__new__" = true
  ty : PySem.W.typeIn K (.ref C) = some (.type "type")
  kp : PySem.W.keepIn K (.ref C) = true
  mro : MroE K CE C
  xg : PySem.W.findIn K (.ref C) "__getattribute__" = some (some (.builtin "BaseException.__getattribute__"))
  xk : PySem.W.findIn K (.ref C) "__getattr__" = some none
  hd : PySem.W.hasDictIn K C = true
  ha : PySem.W.findIn K (.ref C) "__class__" = some (some (.builtin "object.__class__"))
theorem errF0_mk {K : PySem.W.Frag} {CE C : Addr} {cd : ClassData} (e_x : PySem.W.excIn K C [.type "ValueError", .type "Exception", .type "BaseException", .type "object"] "ValueError.__new__" = true) (e_ty : PySem.W.typeIn K (.ref C) = some (.type "type")) (e_kp : PySem.W.keepIn K (.ref C) = true)
    (e_mr : PySem.W.clsIn K C = some cd) (e_me : cd.mro = [.ref C, .ref CE, .type "ValueError", .type "Exception", .type "BaseException", .type "object"])
    (e_xg : PySem.W.findIn K (.ref C) "__getattribute__" = some (some (.builtin "BaseException.__getattribute__"))) (e_xk : PySem.W.findIn K (.ref C) "__getattr__" = some none) (e_hd : PySem.W.hasDictIn K C = true) (e_ha : PySem.W.findIn K (.ref C) "__class__" = some (some (.builtin "object.__class__"))) : ErrF0 K CE C := ⟨e_x, e_ty, e_kp, ⟨cd, e_mr, e_me⟩, e_xg, e_xk, e_hd, e_ha⟩
theorem ErrF0.exc {K : PySem.W.Frag} {CE C : Addr} (h : ErrF0 K CE C) (hn : PySem.W.specialIn K (.builtin "object.__class__") "__get__" = some (some (.builtin "getset_descriptor.__get__"))) (htk : PySem.W.takesIn K (.builtin "object.__class__") = some true) : ExcC K C :=
  ⟨h.xg, h.xk, h.mro.has _, h.hd, h.ha, hn, htk, h.mro.has _⟩
theorem kit_type {K : PySem.W.Frag} {CE C : Addr} (h : MroE K CE C) {T : String} (hm : PySem.W.kitMeta T = true) : PySem.W.kitOne K (.ref C) (.type T) = some (([.type "ValueError", .type "Exception", .type "BaseException", .type "object"] : List Value).contains (.type T)) := by
  unfold PySem.W.kitOne
  rw [if_neg (by simp)]
  show (if PySem.W.kitMeta T = true then PySem.W.subIn K (.ref C) (.type T) else none) = _
  rw [if_pos hm]
  show PySem.W.mroIn K C (.type T) = _
  rw [h.has]
  simp
theorem kit_own {K : PySem.W.Frag} {CE C D : Addr} (h : MroE K CE C) (hD : MroE K CE D) (ty : PySem.W.typeIn K (.ref D) = some (.type "type")) (ne : D ≠ CE) : PySem.W.kitOne K (.ref C) (.ref D) = some (decide (C = D)) := by
  unfold PySem.W.kitOne
  by_cases e : C = D
  · subst e
    rw [if_pos (by simp), decide_eq_true rfl]
  · rw [if_neg (by simpa using e)]
    show (if ((PySem.W.clsIn K D).isSome && PySem.W.typeIn K (.ref D) == some (.type "type")) = true then PySem.W.subIn K (.ref C) (.ref D) else none) = _
    obtain ⟨cd, h1, _⟩ := hD.ex
    rw [h1, ty, if_pos (by simp)]
    show PySem.W.mroIn K C (.ref D) = _
    rw [h.has, decide_eq_false e]
    have e' : D ≠ C := fun z => e z.symm
    simp [e', ne]
theorem kit_base {K : PySem.W.Frag} {CE C : Addr} (h : MroE K CE C) (hC : (PySem.W.clsIn K CE).isSome = true) (ty : PySem.W.typeIn K (.ref CE) = some (.type "type")) (ne : C ≠ CE) : PySem.W.kitOne K (.ref C) (.ref CE) = some true := by
  unfold PySem.W.kitOne
  rw [if_neg (by simpa using ne)]
  show (if ((PySem.W.clsIn K CE).isSome && PySem.W.typeIn K (.ref CE) == some (.type "type")) = true then PySem.W.subIn K (.ref C) (.ref CE) else none) = _
  rw [hC, ty, if_pos (by simp)]
  show PySem.W.mroIn K C (.ref CE) = _
  rw [h.has]
  simp
section
variable {P : Program} {w : World} {K : PySem.W.Frag} {mg : Str → Option Value} {base : Heap} {EC : Str → Addr} {CE CD CU CM CO : Addr} {tL tN tU : Tok}
abbrev s_BadName_init : Stmt := inClass (top 2) 0
theorem sc_BadName_init : ScS ["self", "value"] ["self", "value"] (defScope s_BadName_init) := ⟨rfl, rfl, rfl, by decide +kernel, rfl, by decide +kernel, by decide +kernel, by decide +kernel⟩
theorem ok_BadName_init {f cda cc C : Addr} {fd : FuncData} (F : Ls.FunS K "__init__" "BadName.__init__" s_BadName_init f fd cda cc) (S : SupE P K mg C C cc cda) (no : ∀ f ∈ (["value"] : List Str), PySem.W.findIn K (.ref C) f = some none) :
    FnOk P w K mg base CX0 1 f fd ["self", "value"] (spX C ["value"]) := by
  obtain ⟨oc, od, kV, doc, pm, an, ct, osl, rfl, lk, hcd⟩ := F.ex
  refine fn_superE (N := ["self", "value"]) lk hcd sc_BadName_init rfl rfl rfl rfl rfl (fun vs H Q E h => ?_) (fun A outer s H vs Q E hr h => ?_) (fun _ => rfl) (fun _ => rfl) (fun _ => rfl) (fun _ => rfl) (fun _ => rfl)
  · obtain ⟨a, ys, rfl, hl, _⟩ := h
    simpa using hl
  · obtain ⟨a, ys, rfl, hl, ha, k⟩ := h
    obtain ⟨y0, rfl⟩ : ∃ y0, ys = [y0] := by
      match ys, hl with
      | [y0], _ => exact ⟨y0, rfl⟩
    refine ⟨a, C, C, [y0], _, _, rfl, ha, S, pa_cons pe_str pa_nil, (pss_one (ps_ost (pv 0) (pv 1) rfl)), ?_⟩
    refine ⟨(by show 1 ≤ 1000; decide), ha, _, rfl, _, rfl, a, C, rfl, S.oex, no "value" (by simp), .inl ⟨ha, fun dx n ne => ?_⟩⟩
    refine k dx _ n ne upd_same (by rw [upd_ne ne]; exact upd_same) fun b h1 h2 => ?_
    rw [upd_ne h1, upd_ne h2]
abbrev s_BadDeed_init : Stmt := inClass (top 3) 0
theorem sc_BadDeed_init : ScS ["self", "value"] ["self", "value"] (defScope s_BadDeed_init) := ⟨rfl, rfl, rfl, by decide +kernel, rfl, by decide +kernel, by decide +kernel, by decide +kernel⟩
theorem ok_BadDeed_init {f cda cc C : Addr} {fd : FuncData} (F : Ls.FunS K "__init__" "BadDeed.__init__" s_BadDeed_init f fd cda cc) (S : SupE P K mg C C cc cda) (no : ∀ f ∈ (["value"] : List Str), PySem.W.findIn K (.ref C) f = some none) :
    FnOk P w K mg base CX0 1 f fd ["self", "value"] (spX C ["value"]) := by
  obtain ⟨oc, od, kV, doc, pm, an, ct, osl, rfl, lk, hcd⟩ := F.ex
  refine fn_superE (N := ["self", "value"]) lk hcd sc_BadDeed_init rfl rfl rfl rfl rfl (fun vs H Q E h => ?_) (fun A outer s H vs Q E hr h => ?_) (fun _ => rfl) (fun _ => rfl) (fun _ => rfl) (fun _ => rfl) (fun _ => rfl)
  · obtain ⟨a, ys, rfl, hl, _⟩ := h
    simpa using hl
  · obtain ⟨a, ys, rfl, hl, ha, k⟩ := h
    obtain ⟨y0, rfl⟩ : ∃ y0, ys = [y0] := by
      match ys, hl with
      | [y0], _ => exact ⟨y0, rfl⟩
    refine ⟨a, C, C, [y0], _, _, rfl, ha, S, pa_cons pe_str pa_nil, (pss_one (ps_ost (pv 0) (pv 1) rfl)), ?_⟩
    refine ⟨(by show 1 ≤ 1000; decide), ha, _, rfl, _, rfl, a, C, rfl, S.oex, no "value" (by simp), .inl ⟨ha, fun dx n ne => ?_⟩⟩
    refine k dx _ n ne upd_same (by rw [upd_ne ne]; exact upd_same) fun b h1 h2 => ?_
    rw [upd_ne h1, upd_ne h2]
abbrev s_BadMove_init : Stmt := inClass (top 4) 0
theorem sc_BadMove_init : ScS ["self", "value"] ["self", "value"] (defScope s_BadMove_init) := ⟨rfl, rfl, rfl, by decide +kernel, rfl, by decide +kernel, by decide +kernel, by decide +kernel⟩
theorem ok_BadMove_init {f cda cc C : Addr} {fd : FuncData} (F : Ls.FunS K "__init__" "BadMove.__init__" s_BadMove_init f fd cda cc) (S : SupE P K mg C C cc cda) (no : ∀ f ∈ (["value"] : List Str), PySem.W.findIn K (.ref C) f = some none) :
    FnOk P w K mg base CX0 1 f fd ["self", "value"] (spX C ["value"]) := by
  obtain ⟨oc, od, kV, doc, pm, an, ct, osl, rfl, lk, hcd⟩ := F.ex
  refine fn_superE (N := ["self", "value"]) lk hcd sc_BadMove_init rfl rfl rfl rfl rfl (fun vs H Q E h => ?_) (fun A outer s H vs Q E hr h => ?_) (fun _ => rfl) (fun _ => rfl) (fun _ => rfl) (fun _ => rfl) (fun _ => rfl)
  · obtain ⟨a, ys, rfl, hl, _⟩ := h
    simpa using hl
  · obtain ⟨a, ys, rfl, hl, ha, k⟩ := h
    obtain ⟨y0, rfl⟩ : ∃ y0, ys = [y0] := by
      match ys, hl with
      | [y0], _ => exact ⟨y0, rfl⟩
    refine ⟨a, C, C, [y0], _, _, rfl, ha, S, pa_cons pe_str pa_nil, (pss_one (ps_ost (pv 0) (pv 1) rfl)), ?_⟩
    refine ⟨(by show 1 ≤ 1000; decide), ha, _, rfl, _, rfl, a, C, rfl, S.oex, no "value" (by simp), .inl ⟨ha, fun dx n ne => ?_⟩⟩
    refine k dx _ n ne upd_same (by rw [upd_ne ne]; exact upd_same) fun b h1 h2 => ?_
    rw [upd_ne h1, upd_ne h2]
abbrev s_BadNumber_init : Stmt := inClass (top 5) 0
theorem sc_BadNumber_init : ScS ["self", "value"] ["self", "value"] (defScope s_BadNumber_init) := ⟨rfl, rfl, rfl, by decide +kernel, rfl, by decide +kernel, by decide +kernel, by decide +kernel⟩
theorem ok_BadNumber_init {f cda cc C : Addr} {fd : FuncData} (F : Ls.FunS K "__init__" "BadNumber.__init__" s_BadNumber_init f fd cda cc) (S : SupE P K mg C C cc cda) (no : ∀ f ∈ (["value"] : List Str), PySem.W.findIn K (.ref C) f = some none) :
    FnOk P w K mg base CX0 1 f fd ["self", "value"] (spX C ["value"]) := by
  obtain ⟨oc, od, kV, doc, pm, an, ct, osl, rfl, lk, hcd⟩ := F.ex
  refine fn_superE (N := ["self", "value"]) lk hcd sc_BadNumber_init rfl rfl rfl rfl rfl (fun vs H Q E h => ?_) (fun A outer s H vs Q E hr h => ?_) (fun _ => rfl) (fun _ => rfl) (fun _ => rfl) (fun _ => rfl) (fun _ => rfl)
  · obtain ⟨a, ys, rfl, hl, _⟩ := h
    simpa using hl
  · obtain ⟨a, ys, rfl, hl, ha, k⟩ := h
    obtain ⟨y0, rfl⟩ : ∃ y0, ys = [y0] := by
      match ys, hl with
      | [y0], _ => exact ⟨y0, rfl⟩
    refine ⟨a, C, C, [y0], _, _, rfl, ha, S, pa_cons pe_str pa_nil, (pss_one (ps_ost (pv 0) (pv 1) rfl)), ?_⟩
    refine ⟨(by show 1 ≤ 1000; decide), ha, _, rfl, _, rfl, a, C, rfl, S.oex, no "value" (by simp), .inl ⟨ha, fun dx n ne => ?_⟩⟩
    refine k dx _ n ne upd_same (by rw [upd_ne ne]; exact upd_same) fun b h1 h2 => ?_
    rw [upd_ne h1, upd_ne h2]
abbrev s_BadPrice_init : Stmt := inClass (top 6) 0
theorem sc_BadPrice_init : ScS ["self", "value"] ["self", "value"] (defScope s_BadPrice_init) := ⟨rfl, rfl, rfl, by decide +kernel, rfl, by decide +kernel, by decide +kernel, by decide +kernel⟩
theorem ok_BadPrice_init {f cda cc C : Addr} {fd : FuncData} (F : Ls.FunS K "__init__" "BadPrice.__init__" s_BadPrice_init f fd cda cc) (S : SupE P K mg C C cc cda) (no : ∀ f ∈ (["value"] : List Str), PySem.W.findIn K (.ref C) f = some none) :
    FnOk P w K mg base CX0 1 f fd ["self", "value"] (spX C ["value"]) := by
  obtain ⟨oc, od, kV, doc, pm, an, ct, osl, rfl, lk, hcd⟩ := F.ex
  refine fn_superE (N := ["self", "value"]) lk hcd sc_BadPrice_init rfl rfl rfl rfl rfl (fun vs H Q E h => ?_) (fun A outer s H vs Q E hr h => ?_) (fun _ => rfl) (fun _ => rfl) (fun _ => rfl) (fun _ => rfl) (fun _ => rfl)
  · obtain ⟨a, ys, rfl, hl, _⟩ := h
    simpa using hl
  · obtain ⟨a, ys, rfl, hl, ha, k⟩ := h
    obtain ⟨y0, rfl⟩ : ∃ y0, ys = [y0] := by
      match ys, hl with
      | [y0], _ => exact ⟨y0, rfl⟩
    refine ⟨a, C, C, [y0], _, _, rfl, ha, S, pa_cons pe_str pa_nil, (pss_one (ps_ost (pv 0) (pv 1) rfl)), ?_⟩
    refine ⟨(by show 1 ≤ 1000; decide), ha, _, rfl, _, rfl, a, C, rfl, S.oex, no "value" (by simp), .inl ⟨ha, fun dx n ne => ?_⟩⟩
    refine k dx _ n ne upd_same (by rw [upd_ne ne]; exact upd_same) fun b h1 h2 => ?_
    rw [upd_ne h1, upd_ne h2]
abbrev s_BadPlace_init : Stmt := inClass (top 7) 0
theorem sc_BadPlace_init : ScS ["self", "value"] ["self", "value"] (defScope s_BadPlace_init) := ⟨rfl, rfl, rfl, by decide +kernel, rfl, by decide +kernel, by decide +kernel, by decide +kernel⟩
theorem ok_BadPlace_init {f cda cc C : Addr} {fd : FuncData} (F : Ls.FunS K "__init__" "BadPlace.__init__" s_BadPlace_init f fd cda cc) (S : SupE P K mg C C cc cda) (no : ∀ f ∈ (["value"] : List Str), PySem.W.findIn K (.ref C) f = some none) :
    FnOk P w K mg base CX0 1 f fd ["self", "value"] (spX C ["value"]) := by
  obtain ⟨oc, od, kV, doc, pm, an, ct, osl, rfl, lk, hcd⟩ := F.ex
  refine fn_superE (N := ["self", "value"]) lk hcd sc_BadPlace_init rfl rfl rfl rfl rfl (fun vs H Q E h => ?_) (fun A outer s H vs Q E hr h => ?_) (fun _ => rfl) (fun _ => rfl) (fun _ => rfl) (fun _ => rfl) (fun _ => rfl)
  · obtain ⟨a, ys, rfl, hl, _⟩ := h
    simpa using hl
  · obtain ⟨a, ys, rfl, hl, ha, k⟩ := h
    obtain ⟨y0, rfl⟩ : ∃ y0, ys = [y0] := by
      match ys, hl with
      | [y0], _ => exact ⟨y0, rfl⟩
    refine ⟨a, C, C, [y0], _, _, rfl, ha, S, pa_cons pe_str pa_nil, (pss_one (ps_ost (pv 0) (pv 1) rfl)), ?_⟩
    refine ⟨(by show 1 ≤ 1000; decide), ha, _, rfl, _, rfl, a, C, rfl, S.oex, no "value" (by simp), .inl ⟨ha, fun dx n ne => ?_⟩⟩
    refine k dx _ n ne upd_same (by rw [upd_ne ne]; exact upd_same) fun b h1 h2 => ?_
    rw [upd_ne h1, upd_ne h2]
abbrev s_BadPart_init : Stmt := inClass (top 8) 0
theorem sc_BadPart_init : ScS ["self", "part"] ["self", "part"] (defScope s_BadPart_init) := ⟨rfl, rfl, rfl, by decide +kernel, rfl, by decide +kernel, by decide +kernel, by decide +kernel⟩
theorem ok_BadPart_init {f cda cc C : Addr} {fd : FuncData} (F : Ls.FunS K "__init__" "BadPart.__init__" s_BadPart_init f fd cda cc) (S : SupE P K mg C C cc cda) (no : ∀ f ∈ (["part"] : List Str), PySem.W.findIn K (.ref C) f = some none) :
    FnOk P w K mg base CX0 1 f fd ["self", "part"] (spX C ["part"]) := by
  obtain ⟨oc, od, kV, doc, pm, an, ct, osl, rfl, lk, hcd⟩ := F.ex
  refine fn_superE (N := ["self", "part"]) lk hcd sc_BadPart_init rfl rfl rfl rfl rfl (fun vs H Q E h => ?_) (fun A outer s H vs Q E hr h => ?_) (fun _ => rfl) (fun _ => rfl) (fun _ => rfl) (fun _ => rfl) (fun _ => rfl)
  · obtain ⟨a, ys, rfl, hl, _⟩ := h
    simpa using hl
  · obtain ⟨a, ys, rfl, hl, ha, k⟩ := h
    obtain ⟨y0, rfl⟩ : ∃ y0, ys = [y0] := by
      match ys, hl with
      | [y0], _ => exact ⟨y0, rfl⟩
    refine ⟨a, C, C, [y0], _, _, rfl, ha, S, pa_cons pe_str pa_nil, (pss_one (ps_ost (pv 0) (pv 1) rfl)), ?_⟩
    refine ⟨(by show 1 ≤ 1000; decide), ha, _, rfl, _, rfl, a, C, rfl, S.oex, no "part" (by simp), .inl ⟨ha, fun dx n ne => ?_⟩⟩
    refine k dx _ n ne upd_same (by rw [upd_ne ne]; exact upd_same) fun b h1 h2 => ?_
    rw [upd_ne h1, upd_ne h2]
abbrev s_BadSlots_init : Stmt := inClass (top 9) 0
theorem sc_BadSlots_init : ScS ["self", "value"] ["self", "value"] (defScope s_BadSlots_init) := ⟨rfl, rfl, rfl, by decide +kernel, rfl, by decide +kernel, by decide +kernel, by decide +kernel⟩
theorem ok_BadSlots_init {f cda cc C : Addr} {fd : FuncData} (F : Ls.FunS K "__init__" "BadSlots.__init__" s_BadSlots_init f fd cda cc) (S : SupE P K mg C C cc cda) (no : ∀ f ∈ (["value"] : List Str), PySem.W.findIn K (.ref C) f = some none) :
    FnOk P w K mg base CX0 1 f fd ["self", "value"] (spX C ["value"]) := by
  obtain ⟨oc, od, kV, doc, pm, an, ct, osl, rfl, lk, hcd⟩ := F.ex
  refine fn_superE (N := ["self", "value"]) lk hcd sc_BadSlots_init rfl rfl rfl rfl rfl (fun vs H Q E h => ?_) (fun A outer s H vs Q E hr h => ?_) (fun _ => rfl) (fun _ => rfl) (fun _ => rfl) (fun _ => rfl) (fun _ => rfl)
  · obtain ⟨a, ys, rfl, hl, _⟩ := h
    simpa using hl
  · obtain ⟨a, ys, rfl, hl, ha, k⟩ := h
    obtain ⟨y0, rfl⟩ : ∃ y0, ys = [y0] := by
      match ys, hl with
      | [y0], _ => exact ⟨y0, rfl⟩
    refine ⟨a, C, C, [y0], _, _, rfl, ha, S, pa_cons pe_str pa_nil, (pss_one (ps_ost (pv 0) (pv 1) rfl)), ?_⟩
    refine ⟨(by show 1 ≤ 1000; decide), ha, _, rfl, _, rfl, a, C, rfl, S.oex, no "value" (by simp), .inl ⟨ha, fun dx n ne => ?_⟩⟩
    refine k dx _ n ne upd_same (by rw [upd_ne ne]; exact upd_same) fun b h1 h2 => ?_
    rw [upd_ne h1, upd_ne h2]
abbrev s_BadStanding_init : Stmt := inClass (top 10) 0
theorem sc_BadStanding_init : ScS ["self", "value"] ["self", "value"] (defScope s_BadStanding_init) := ⟨rfl, rfl, rfl, by decide +kernel, rfl, by decide +kernel, by decide +kernel, by decide +kernel⟩
theorem ok_BadStanding_init {f cda cc C : Addr} {fd : FuncData} (F : Ls.FunS K "__init__" "BadStanding.__init__" s_BadStanding_init f fd cda cc) (S : SupE P K mg C C cc cda) (no : ∀ f ∈ (["value"] : List Str), PySem.W.findIn K (.ref C) f = some none) :
    FnOk P w K mg base CX0 1 f fd ["self", "value"] (spX C ["value"]) := by
  obtain ⟨oc, od, kV, doc, pm, an, ct, osl, rfl, lk, hcd⟩ := F.ex
  refine fn_superE (N := ["self", "value"]) lk hcd sc_BadStanding_init rfl rfl rfl rfl rfl (fun vs H Q E h => ?_) (fun A outer s H vs Q E hr h => ?_) (fun _ => rfl) (fun _ => rfl) (fun _ => rfl) (fun _ => rfl) (fun _ => rfl)
  · obtain ⟨a, ys, rfl, hl, _⟩ := h
    simpa using hl
  · obtain ⟨a, ys, rfl, hl, ha, k⟩ := h
    obtain ⟨y0, rfl⟩ : ∃ y0, ys = [y0] := by
      match ys, hl with
      | [y0], _ => exact ⟨y0, rfl⟩
    refine ⟨a, C, C, [y0], _, _, rfl, ha, S, pa_cons pe_str pa_nil, (pss_one (ps_ost (pv 0) (pv 1) rfl)), ?_⟩
    refine ⟨(by show 1 ≤ 1000; decide), ha, _, rfl, _, rfl, a, C, rfl, S.oex, no "value" (by simp), .inl ⟨ha, fun dx n ne => ?_⟩⟩
    refine k dx _ n ne upd_same (by rw [upd_ne ne]; exact upd_same) fun b h1 h2 => ?_
    rw [upd_ne h1, upd_ne h2]
abbrev s_BadRule_init : Stmt := inClass (top 11) 0
theorem sc_BadRule_init : ScS ["self", "value"] ["self", "value"] (defScope s_BadRule_init) := ⟨rfl, rfl, rfl, by decide +kernel, rfl, by decide +kernel, by decide +kernel, by decide +kernel⟩
theorem ok_BadRule_init {f cda cc C : Addr} {fd : FuncData} (F : Ls.FunS K "__init__" "BadRule.__init__" s_BadRule_init f fd cda cc) (S : SupE P K mg C C cc cda) (no : ∀ f ∈ (["value"] : List Str), PySem.W.findIn K (.ref C) f = some none) :
    FnOk P w K mg base CX0 1 f fd ["self", "value"] (spX C ["value"]) := by
  obtain ⟨oc, od, kV, doc, pm, an, ct, osl, rfl, lk, hcd⟩ := F.ex
  refine fn_superE (N := ["self", "value"]) lk hcd sc_BadRule_init rfl rfl rfl rfl rfl (fun vs H Q E h => ?_) (fun A outer s H vs Q E hr h => ?_) (fun _ => rfl) (fun _ => rfl) (fun _ => rfl) (fun _ => rfl) (fun _ => rfl)
  · obtain ⟨a, ys, rfl, hl, _⟩ := h
    simpa using hl
  · obtain ⟨a, ys, rfl, hl, ha, k⟩ := h
    obtain ⟨y0, rfl⟩ : ∃ y0, ys = [y0] := by
      match ys, hl with
      | [y0], _ => exact ⟨y0, rfl⟩
    refine ⟨a, C, C, [y0], _, _, rfl, ha, S, pa_cons pe_str pa_nil, (pss_one (ps_ost (pv 0) (pv 1) rfl)), ?_⟩
    refine ⟨(by show 1 ≤ 1000; decide), ha, _, rfl, _, rfl, a, C, rfl, S.oex, no "value" (by simp), .inl ⟨ha, fun dx n ne => ?_⟩⟩
    refine k dx _ n ne upd_same (by rw [upd_ne ne]; exact upd_same) fun b h1 h2 => ?_
    rw [upd_ne h1, upd_ne h2]
abbrev s_Twice_init : Stmt := inClass (top 12) 0
theorem sc_Twice_init : ScS ["self", "name"] ["self", "name"] (defScope s_Twice_init) := ⟨rfl, rfl, rfl, by decide +kernel, rfl, by decide +kernel, by decide +kernel, by decide +kernel⟩
theorem ok_Twice_init {f cda cc C : Addr} {fd : FuncData} (F : Ls.FunS K "__init__" "Twice.__init__" s_Twice_init f fd cda cc) (S : SupE P K mg C C cc cda) (no : ∀ f ∈ (["name"] : List Str), PySem.W.findIn K (.ref C) f = some none) :
    FnOk P w K mg base CX0 1 f fd ["self", "name"] (spX C ["name"]) := by
  obtain ⟨oc, od, kV, doc, pm, an, ct, osl, rfl, lk, hcd⟩ := F.ex
  refine fn_superE (N := ["self", "name"]) lk hcd sc_Twice_init rfl rfl rfl rfl rfl (fun vs H Q E h => ?_) (fun A outer s H vs Q E hr h => ?_) (fun _ => rfl) (fun _ => rfl) (fun _ => rfl) (fun _ => rfl) (fun _ => rfl)
  · obtain ⟨a, ys, rfl, hl, _⟩ := h
    simpa using hl
  · obtain ⟨a, ys, rfl, hl, ha, k⟩ := h
    obtain ⟨y0, rfl⟩ : ∃ y0, ys = [y0] := by
      match ys, hl with
      | [y0], _ => exact ⟨y0, rfl⟩
    refine ⟨a, C, C, [y0], _, _, rfl, ha, S, pa_cons pe_str pa_nil, (pss_one (ps_ost (pv 0) (pv 1) rfl)), ?_⟩
    refine ⟨(by show 1 ≤ 1000; decide), ha, _, rfl, _, rfl, a, C, rfl, S.oex, no "name" (by simp), .inl ⟨ha, fun dx n ne => ?_⟩⟩
    refine k dx _ n ne upd_same (by rw [upd_ne ne]; exact upd_same) fun b h1 h2 => ?_
    rw [upd_ne h1, upd_ne h2]
abbrev s_TooMany_init : Stmt := inClass (top 13) 0
theorem sc_TooMany_init : ScS ["self", "most"] ["self", "most"] (defScope s_TooMany_init) := ⟨rfl, rfl, rfl, by decide +kernel, rfl, by decide +kernel, by decide +kernel, by decide +kernel⟩
theorem ok_TooMany_init {f cda cc C : Addr} {fd : FuncData} (F : Ls.FunS K "__init__" "TooMany.__init__" s_TooMany_init f fd cda cc) (S : SupE P K mg C C cc cda) (no : ∀ f ∈ (["most"] : List Str), PySem.W.findIn K (.ref C) f = some none) :
    FnOk P w K mg base CX0 1 f fd ["self", "most"] (spX C ["most"]) := by
  obtain ⟨oc, od, kV, doc, pm, an, ct, osl, rfl, lk, hcd⟩ := F.ex
  refine fn_superE (N := ["self", "most"]) lk hcd sc_TooMany_init rfl rfl rfl rfl rfl (fun vs H Q E h => ?_) (fun A outer s H vs Q E hr h => ?_) (fun _ => rfl) (fun _ => rfl) (fun _ => rfl) (fun _ => rfl) (fun _ => rfl)
  · obtain ⟨a, ys, rfl, hl, _⟩ := h
    simpa using hl
  · obtain ⟨a, ys, rfl, hl, ha, k⟩ := h
    obtain ⟨y0, rfl⟩ : ∃ y0, ys = [y0] := by
      match ys, hl with
      | [y0], _ => exact ⟨y0, rfl⟩
    refine ⟨a, C, C, [y0], _, _, rfl, ha, S, pa_cons pe_str pa_nil, (pss_one (ps_ost (pv 0) (pv 1) rfl)), ?_⟩
    refine ⟨(by show 1 ≤ 1000; decide), ha, _, rfl, _, rfl, a, C, rfl, S.oex, no "most" (by simp), .inl ⟨ha, fun dx n ne => ?_⟩⟩
    refine k dx _ n ne upd_same (by rw [upd_ne ne]; exact upd_same) fun b h1 h2 => ?_
    rw [upd_ne h1, upd_ne h2]
abbrev s_Unmade_init : Stmt := inClass (top 14) 0
theorem sc_Unmade_init : ScS ["self", "place", "name"] ["self", "place", "name"] (defScope s_Unmade_init) := ⟨rfl, rfl, rfl, by decide +kernel, rfl, by decide +kernel, by decide +kernel, by decide +kernel⟩
theorem ok_Unmade_init {f cda cc C : Addr} {fd : FuncData} (F : Ls.FunS K "__init__" "Unmade.__init__" s_Unmade_init f fd cda cc) (S : SupE P K mg C C cc cda) (no : ∀ f ∈ (["place", "name"] : List Str), PySem.W.findIn K (.ref C) f = some none) :
    FnOk P w K mg base CX0 1 f fd ["self", "place", "name"] (spX C ["place", "name"]) := by
  obtain ⟨oc, od, kV, doc, pm, an, ct, osl, rfl, lk, hcd⟩ := F.ex
  refine fn_superE (N := ["self", "place", "name"]) lk hcd sc_Unmade_init rfl rfl rfl rfl rfl (fun vs H Q E h => ?_) (fun A outer s H vs Q E hr h => ?_) (fun _ => rfl) (fun _ => rfl) (fun _ => rfl) (fun _ => rfl) (fun _ => rfl)
  · obtain ⟨a, ys, rfl, hl, _⟩ := h
    simpa using hl
  · obtain ⟨a, ys, rfl, hl, ha, k⟩ := h
    obtain ⟨y0, y1, rfl⟩ : ∃ y0 y1, ys = [y0, y1] := by
      match ys, hl with
      | [y0, y1], _ => exact ⟨y0, y1, rfl⟩
    refine ⟨a, C, C, [y0, y1], _, _, rfl, ha, S, pa_cons pe_str pa_nil, (pss_cons (ps_ost (pv 0) (pv 1) rfl) (pss_one (ps_ost (pv 0) (pv 2) rfl))), ?_⟩
    refine ⟨(by show 1 ≤ 1000; decide), ha, _, rfl, _, rfl, a, C, rfl, S.oex, no "place" (by simp), .inl ⟨ha, fun dx n ne => ?_⟩⟩
    refine ⟨_, rfl, _, rfl, a, C, rfl, S.oex, no "name" (by simp), .inr ⟨dx, _, upd_same, by rw [upd_ne ne]; exact upd_same, (by show 1 ≤ 900; decide), ?_⟩⟩
    refine k dx _ n ne (by rw [upd_ne ne.symm]; exact upd_same) upd_same fun b h1 h2 => ?_
    rw [upd_ne h2, upd_ne h1, upd_ne h2]
abbrev s_MadeAgain_init : Stmt := inClass (top 15) 0
theorem sc_MadeAgain_init : ScS ["self", "place", "name"] ["self", "place", "name"] (defScope s_MadeAgain_init) := ⟨rfl, rfl, rfl, by decide +kernel, rfl, by decide +kernel, by decide +kernel, by decide +kernel⟩
theorem ok_MadeAgain_init {f cda cc C : Addr} {fd : FuncData} (F : Ls.FunS K "__init__" "MadeAgain.__init__" s_MadeAgain_init f fd cda cc) (S : SupE P K mg C C cc cda) (no : ∀ f ∈ (["place", "name"] : List Str), PySem.W.findIn K (.ref C) f = some none) :
    FnOk P w K mg base CX0 1 f fd ["self", "place", "name"] (spX C ["place", "name"]) := by
  obtain ⟨oc, od, kV, doc, pm, an, ct, osl, rfl, lk, hcd⟩ := F.ex
  refine fn_superE (N := ["self", "place", "name"]) lk hcd sc_MadeAgain_init rfl rfl rfl rfl rfl (fun vs H Q E h => ?_) (fun A outer s H vs Q E hr h => ?_) (fun _ => rfl) (fun _ => rfl) (fun _ => rfl) (fun _ => rfl) (fun _ => rfl)
  · obtain ⟨a, ys, rfl, hl, _⟩ := h
    simpa using hl
  · obtain ⟨a, ys, rfl, hl, ha, k⟩ := h
    obtain ⟨y0, y1, rfl⟩ : ∃ y0 y1, ys = [y0, y1] := by
      match ys, hl with
      | [y0, y1], _ => exact ⟨y0, y1, rfl⟩
    refine ⟨a, C, C, [y0, y1], _, _, rfl, ha, S, pa_cons pe_str pa_nil, (pss_cons (ps_ost (pv 0) (pv 1) rfl) (pss_one (ps_ost (pv 0) (pv 2) rfl))), ?_⟩
    refine ⟨(by show 1 ≤ 1000; decide), ha, _, rfl, _, rfl, a, C, rfl, S.oex, no "place" (by simp), .inl ⟨ha, fun dx n ne => ?_⟩⟩
    refine ⟨_, rfl, _, rfl, a, C, rfl, S.oex, no "name" (by simp), .inr ⟨dx, _, upd_same, by rw [upd_ne ne]; exact upd_same, (by show 1 ≤ 900; decide), ?_⟩⟩
    refine k dx _ n ne (by rw [upd_ne ne.symm]; exact upd_same) upd_same fun b h1 h2 => ?_
    rw [upd_ne h2, upd_ne h1, upd_ne h2]
abbrev s_NoRoom_init : Stmt := inClass (top 16) 0
theorem sc_NoRoom_init : ScS ["self", "place"] ["self", "place"] (defScope s_NoRoom_init) := ⟨rfl, rfl, rfl, by decide +kernel, rfl, by decide +kernel, by decide +kernel, by decide +kernel⟩
theorem ok_NoRoom_init {f cda cc C : Addr} {fd : FuncData} (F : Ls.FunS K "__init__" "NoRoom.__init__" s_NoRoom_init f fd cda cc) (S : SupE P K mg C C cc cda) (no : ∀ f ∈ (["place"] : List Str), PySem.W.findIn K (.ref C) f = some none) :
    FnOk P w K mg base CX0 1 f fd ["self", "place"] (spX C ["place"]) := by
  obtain ⟨oc, od, kV, doc, pm, an, ct, osl, rfl, lk, hcd⟩ := F.ex
  refine fn_superE (N := ["self", "place"]) lk hcd sc_NoRoom_init rfl rfl rfl rfl rfl (fun vs H Q E h => ?_) (fun A outer s H vs Q E hr h => ?_) (fun _ => rfl) (fun _ => rfl) (fun _ => rfl) (fun _ => rfl) (fun _ => rfl)
  · obtain ⟨a, ys, rfl, hl, _⟩ := h
    simpa using hl
  · obtain ⟨a, ys, rfl, hl, ha, k⟩ := h
    obtain ⟨y0, rfl⟩ : ∃ y0, ys = [y0] := by
      match ys, hl with
      | [y0], _ => exact ⟨y0, rfl⟩
    refine ⟨a, C, C, [y0], _, _, rfl, ha, S, pa_cons pe_str pa_nil, (pss_one (ps_ost (pv 0) (pv 1) rfl)), ?_⟩
    refine ⟨(by show 1 ≤ 1000; decide), ha, _, rfl, _, rfl, a, C, rfl, S.oex, no "place" (by simp), .inl ⟨ha, fun dx n ne => ?_⟩⟩
    refine k dx _ n ne upd_same (by rw [upd_ne ne]; exact upd_same) fun b h1 h2 => ?_
    rw [upd_ne h1, upd_ne h2]
abbrev s_Crowded_init : Stmt := inClass (top 17) 0
theorem sc_Crowded_init : ScS ["self", "place"] ["self", "place"] (defScope s_Crowded_init) := ⟨rfl, rfl, rfl, by decide +kernel, rfl, by decide +kernel, by decide +kernel, by decide +kernel⟩
theorem ok_Crowded_init {f cda cc C : Addr} {fd : FuncData} (F : Ls.FunS K "__init__" "Crowded.__init__" s_Crowded_init f fd cda cc) (S : SupE P K mg C C cc cda) (no : ∀ f ∈ (["place"] : List Str), PySem.W.findIn K (.ref C) f = some none) :
    FnOk P w K mg base CX0 1 f fd ["self", "place"] (spX C ["place"]) := by
  obtain ⟨oc, od, kV, doc, pm, an, ct, osl, rfl, lk, hcd⟩ := F.ex
  refine fn_superE (N := ["self", "place"]) lk hcd sc_Crowded_init rfl rfl rfl rfl rfl (fun vs H Q E h => ?_) (fun A outer s H vs Q E hr h => ?_) (fun _ => rfl) (fun _ => rfl) (fun _ => rfl) (fun _ => rfl) (fun _ => rfl)
  · obtain ⟨a, ys, rfl, hl, _⟩ := h
    simpa using hl
  · obtain ⟨a, ys, rfl, hl, ha, k⟩ := h
    obtain ⟨y0, rfl⟩ : ∃ y0, ys = [y0] := by
      match ys, hl with
      | [y0], _ => exact ⟨y0, rfl⟩
    refine ⟨a, C, C, [y0], _, _, rfl, ha, S, pa_cons pe_str pa_nil, (pss_one (ps_ost (pv 0) (pv 1) rfl)), ?_⟩
    refine ⟨(by show 1 ≤ 1000; decide), ha, _, rfl, _, rfl, a, C, rfl, S.oex, no "place" (by simp), .inl ⟨ha, fun dx n ne => ?_⟩⟩
    refine k dx _ n ne upd_same (by rw [upd_ne ne]; exact upd_same) fun b h1 h2 => ?_
    rw [upd_ne h1, upd_ne h2]
abbrev s_Barred_init : Stmt := inClass (top 18) 0
theorem sc_Barred_init : ScS ["self", "word", "name"] ["self", "word", "name"] (defScope s_Barred_init) := ⟨rfl, rfl, rfl, by decide +kernel, rfl, by decide +kernel, by decide +kernel, by decide +kernel⟩
theorem ok_Barred_init {f cda cc C : Addr} {fd : FuncData} (F : Ls.FunS K "__init__" "Barred.__init__" s_Barred_init f fd cda cc) (S : SupE P K mg C C cc cda) (no : ∀ f ∈ (["word", "name"] : List Str), PySem.W.findIn K (.ref C) f = some none) :
    FnOk P w K mg base CX0 1 f fd ["self", "word", "name"] (spX C ["word", "name"]) := by
  obtain ⟨oc, od, kV, doc, pm, an, ct, osl, rfl, lk, hcd⟩ := F.ex
  refine fn_superE (N := ["self", "word", "name"]) lk hcd sc_Barred_init rfl rfl rfl rfl rfl (fun vs H Q E h => ?_) (fun A outer s H vs Q E hr h => ?_) (fun _ => rfl) (fun _ => rfl) (fun _ => rfl) (fun _ => rfl) (fun _ => rfl)
  · obtain ⟨a, ys, rfl, hl, _⟩ := h
    simpa using hl
  · obtain ⟨a, ys, rfl, hl, ha, k⟩ := h
    obtain ⟨y0, y1, rfl⟩ : ∃ y0 y1, ys = [y0, y1] := by
      match ys, hl with
      | [y0, y1], _ => exact ⟨y0, y1, rfl⟩
    refine ⟨a, C, C, [y0, y1], _, _, rfl, ha, S, pa_cons pe_str pa_nil, (pss_cons (ps_ost (pv 0) (pv 1) rfl) (pss_one (ps_ost (pv 0) (pv 2) rfl))), ?_⟩
    refine ⟨(by show 1 ≤ 1000; decide), ha, _, rfl, _, rfl, a, C, rfl, S.oex, no "word" (by simp), .inl ⟨ha, fun dx n ne => ?_⟩⟩
    refine ⟨_, rfl, _, rfl, a, C, rfl, S.oex, no "name" (by simp), .inr ⟨dx, _, upd_same, by rw [upd_ne ne]; exact upd_same, (by show 1 ≤ 900; decide), ?_⟩⟩
    refine k dx _ n ne (by rw [upd_ne ne.symm]; exact upd_same) upd_same fun b h1 h2 => ?_
    rw [upd_ne h2, upd_ne h1, upd_ne h2]
abbrev s_BadPlan_init : Stmt := inClass (top 19) 0
theorem sc_BadPlan_init : ScS ["self", "at", "index", "word", "name"] ["self", "at", "index", "word", "name"] (defScope s_BadPlan_init) := ⟨rfl, rfl, rfl, by decide +kernel, rfl, by decide +kernel, by decide +kernel, by decide +kernel⟩
theorem ok_BadPlan_init {f cda cc C : Addr} {fd : FuncData} (F : Ls.FunS K "__init__" "BadPlan.__init__" s_BadPlan_init f fd cda cc) (S : SupE P K mg C C cc cda) (no : ∀ f ∈ (["at", "index", "word", "name"] : List Str), PySem.W.findIn K (.ref C) f = some none) :
    FnOk P w K mg base CX0 1 f fd ["self", "at", "index", "word", "name"] (spX C ["at", "index", "word", "name"]) := by
  obtain ⟨oc, od, kV, doc, pm, an, ct, osl, rfl, lk, hcd⟩ := F.ex
  refine fn_superE (N := ["self", "at", "index", "word", "name"]) lk hcd sc_BadPlan_init rfl rfl rfl rfl rfl (fun vs H Q E h => ?_) (fun A outer s H vs Q E hr h => ?_) (fun _ => rfl) (fun _ => rfl) (fun _ => rfl) (fun _ => rfl) (fun _ => rfl)
  · obtain ⟨a, ys, rfl, hl, _⟩ := h
    simpa using hl
  · obtain ⟨a, ys, rfl, hl, ha, k⟩ := h
    obtain ⟨y0, y1, y2, y3, rfl⟩ : ∃ y0 y1 y2 y3, ys = [y0, y1, y2, y3] := by
      match ys, hl with
      | [y0, y1, y2, y3], _ => exact ⟨y0, y1, y2, y3, rfl⟩
    refine ⟨a, C, C, [y0, y1, y2, y3], _, _, rfl, ha, S, pa_cons pe_str pa_nil, (pss_cons (ps_ost (pv 0) (pv 1) rfl) (pss_cons (ps_ost (pv 0) (pv 2) rfl) (pss_cons (ps_ost (pv 0) (pv 3) rfl) (pss_one (ps_ost (pv 0) (pv 4) rfl))))), ?_⟩
    refine ⟨(by show 1 ≤ 1000; decide), ha, _, rfl, _, rfl, a, C, rfl, S.oex, no "at" (by simp), .inl ⟨ha, fun dx n ne => ?_⟩⟩
    refine ⟨_, rfl, _, rfl, a, C, rfl, S.oex, no "index" (by simp), .inr ⟨dx, _, upd_same, by rw [upd_ne ne]; exact upd_same, (by show 1 ≤ 900; decide), ?_⟩⟩
    refine ⟨_, rfl, _, rfl, a, C, rfl, S.oex, no "word" (by simp), .inr ⟨dx, _, by rw [upd_ne ne.symm]; exact upd_same, upd_same, (by show 2 ≤ 900; decide), ?_⟩⟩
    refine ⟨_, rfl, _, rfl, a, C, rfl, S.oex, no "name" (by simp), .inr ⟨dx, _, by rw [upd_ne ne.symm, upd_ne ne.symm]; exact upd_same, upd_same, (by show 3 ≤ 900; decide), ?_⟩⟩
    refine k dx _ n ne (by rw [upd_ne ne.symm, upd_ne ne.symm, upd_ne ne.symm]; exact upd_same) upd_same fun b h1 h2 => ?_
    rw [upd_ne h2, upd_ne h2, upd_ne h2, upd_ne h1, upd_ne h2]
abbrev s_BadText_init : Stmt := inClass (top 25) 0
theorem sc_BadText_init : ScS ["self", "line", "word"] ["self", "line", "word"] (defScope s_BadText_init) := ⟨rfl, rfl, rfl, by decide +kernel, rfl, by decide +kernel, by decide +kernel, by decide +kernel⟩
theorem ok_BadText_init {f cda cc C : Addr} {fd : FuncData} (F : Ls.FunS K "__init__" "BadText.__init__" s_BadText_init f fd cda cc) (S : SupE P K mg C C cc cda) (no : ∀ f ∈ (["line", "word"] : List Str), PySem.W.findIn K (.ref C) f = some none) :
    FnOk P w K mg base CX0 1 f fd ["self", "line", "word"] (spX C ["line", "word"]) := by
  obtain ⟨oc, od, kV, doc, pm, an, ct, osl, rfl, lk, hcd⟩ := F.ex
  refine fn_superE (N := ["self", "line", "word"]) lk hcd sc_BadText_init rfl rfl rfl rfl rfl (fun vs H Q E h => ?_) (fun A outer s H vs Q E hr h => ?_) (fun _ => rfl) (fun _ => rfl) (fun _ => rfl) (fun _ => rfl) (fun _ => rfl)
  · obtain ⟨a, ys, rfl, hl, _⟩ := h
    simpa using hl
  · obtain ⟨a, ys, rfl, hl, ha, k⟩ := h
    obtain ⟨y0, y1, rfl⟩ : ∃ y0 y1, ys = [y0, y1] := by
      match ys, hl with
      | [y0, y1], _ => exact ⟨y0, y1, rfl⟩
    refine ⟨a, C, C, [y0, y1], _, _, rfl, ha, S, pa_cons pe_str pa_nil, (pss_cons (ps_ost (pv 0) (pv 1) rfl) (pss_one (ps_ost (pv 0) (pv 2) rfl))), ?_⟩
    refine ⟨(by show 1 ≤ 1000; decide), ha, _, rfl, _, rfl, a, C, rfl, S.oex, no "line" (by simp), .inl ⟨ha, fun dx n ne => ?_⟩⟩
    refine ⟨_, rfl, _, rfl, a, C, rfl, S.oex, no "word" (by simp), .inr ⟨dx, _, upd_same, by rw [upd_ne ne]; exact upd_same, (by show 1 ≤ 900; decide), ?_⟩⟩
    refine k dx _ n ne (by rw [upd_ne ne.symm]; exact upd_same) upd_same fun b h1 h2 => ?_
    rw [upd_ne h2, upd_ne h1, upd_ne h2]
abbrev s_BadLine_init : Stmt := inClass (top 26) 0
theorem sc_BadLine_init : ScS ["self", "word"] ["self", "word"] (defScope s_BadLine_init) := ⟨rfl, rfl, rfl, by decide +kernel, rfl, by decide +kernel, by decide +kernel, by decide +kernel⟩
theorem ok_BadLine_init {f cda cc C : Addr} {fd : FuncData} (F : Ls.FunS K "__init__" "BadLine.__init__" s_BadLine_init f fd cda cc) (S : SupE P K mg C C cc cda) (no : ∀ f ∈ (["word"] : List Str), PySem.W.findIn K (.ref C) f = some none) :
    FnOk P w K mg base CX0 1 f fd ["self", "word"] (spX C ["word"]) := by
  obtain ⟨oc, od, kV, doc, pm, an, ct, osl, rfl, lk, hcd⟩ := F.ex
  refine fn_superE (N := ["self", "word"]) lk hcd sc_BadLine_init rfl rfl rfl rfl rfl (fun vs H Q E h => ?_) (fun A outer s H vs Q E hr h => ?_) (fun _ => rfl) (fun _ => rfl) (fun _ => rfl) (fun _ => rfl) (fun _ => rfl)
  · obtain ⟨a, ys, rfl, hl, _⟩ := h
    simpa using hl
  · obtain ⟨a, ys, rfl, hl, ha, k⟩ := h
    obtain ⟨y0, rfl⟩ : ∃ y0, ys = [y0] := by
      match ys, hl with
      | [y0], _ => exact ⟨y0, rfl⟩
    refine ⟨a, C, C, [y0], _, _, rfl, ha, S, pa_cons pe_str pa_nil, (pss_one (ps_ost (pv 0) (pv 1) rfl)), ?_⟩
    refine ⟨(by show 1 ≤ 1000; decide), ha, _, rfl, _, rfl, a, C, rfl, S.oex, no "word" (by simp), .inl ⟨ha, fun dx n ne => ?_⟩⟩
    refine k dx _ n ne upd_same (by rw [upd_ne ne]; exact upd_same) fun b h1 h2 => ?_
    rw [upd_ne h1, upd_ne h2]
end
end K01
end
section
set_option Elab.async false
set_option autoImplicit false
set_option linter.all false
set_option maxRecDepth 100000
set_option maxHeartbeats 4000000
namespace K01
open PySem PySem.Spec PyProof.Rows L2 Ls
def ecOf (L : List (Str × Addr)) (c : Str) : Addr := (L.lookup c).getD 0
def mkL (C_BadName C_BadDeed C_BadMove C_BadNumber C_BadPrice C_BadPlace C_BadPart C_BadSlots C_BadStanding C_BadRule C_Twice C_TooMany C_Unmade C_MadeAgain C_NoRoom C_Crowded C_Barred C_BadPlan C_NoLoop C_HasLoop C_OneLoop C_TwoLoops C_Finished C_BadText C_BadLine : Addr) : List (Str × Addr) := [("BadName", C_BadName), ("BadDeed", C_BadDeed), ("BadMove", C_BadMove), ("BadNumber", C_BadNumber), ("BadPrice", C_BadPrice), ("BadPlace", C_BadPlace), ("BadPart", C_BadPart), ("BadSlots", C_BadSlots), ("BadStanding", C_BadStanding), ("BadRule", C_BadRule), ("Twice", C_Twice), ("TooMany", C_TooMany), ("Unmade", C_Unmade), ("MadeAgain", C_MadeAgain), ("NoRoom", C_NoRoom), ("Crowded", C_Crowded), ("Barred", C_Barred), ("BadPlan", C_BadPlan), ("NoLoop", C_NoLoop), ("HasLoop", C_HasLoop), ("OneLoop", C_OneLoop), ("TwoLoops", C_TwoLoops), ("Finished", C_Finished), ("BadText", C_BadText), ("BadLine", C_BadLine)]
def errNms : List Str := ["BadName", "BadDeed", "BadMove", "BadNumber", "BadPrice", "BadPlace", "BadPart", "BadSlots", "BadStanding", "BadRule", "Twice", "TooMany", "Unmade", "MadeAgain", "NoRoom", "Crowded", "Barred", "BadPlan", "NoLoop", "HasLoop", "OneLoop", "TwoLoops", "Finished", "BadText", "BadLine"]
theorem err_sub {c : Str} (h : c ∈ errN) : c ∈ errNms := by
  have : errN.all (fun c => decide (c ∈ errNms)) = true := by decide +kernel
  exact of_decide_eq_true (List.all_eq_true.mp this c h)
theorem ec_mem {c : Str} : ∀ {L : List (Str × Addr)}, c ∈ L.map (·.1) → (c, ecOf L c) ∈ L
  | [], h => by cases h
  | (a, b) :: r, h => by
    by_cases e : c = a
    · subst e
      unfold ecOf
      rw [List.lookup_cons, beq_self_eq_true]
      exact List.mem_cons_self
    · have e2 : (c == a) = false := beq_eq_false_iff_ne.mpr e
      have : ecOf ((a, b) :: r) c = ecOf r c := by
        unfold ecOf
        rw [List.lookup_cons, e2]
      rw [this]
      rcases List.mem_cons.mp h with z | z
      · exact absurd z e
      · exact List.mem_cons_of_mem _ (ec_mem z)
theorem ec_one {c n : Str} {a : Addr} : ∀ {L : List (Str × Addr)}, (L.map (·.2)).Nodup → (c, a) ∈ L → (n, a) ∈ L → c = n
  | [], _, h, _ => by cases h
  | (x, b) :: r, nd, h1, h2 => by
    obtain ⟨q1, q2⟩ := List.nodup_cons.mp nd
    rcases List.mem_cons.mp h1 with z1 | z1
    · cases z1
      rcases List.mem_cons.mp h2 with z2 | z2
      · cases z2
        rfl
      · exact absurd (List.mem_map.mpr ⟨_, z2, rfl⟩) q1
    · rcases List.mem_cons.mp h2 with z2 | z2
      · cases z2
        exact absurd (List.mem_map.mpr ⟨_, z1, rfl⟩) q1
      · exact ec_one q2 z1 z2

theorem ec_BadName {C_BadName C_BadDeed C_BadMove C_BadNumber C_BadPrice C_BadPlace C_BadPart C_BadSlots C_BadStanding C_BadRule C_Twice C_TooMany C_Unmade C_MadeAgain C_NoRoom C_Crowded C_Barred C_BadPlan C_NoLoop C_HasLoop C_OneLoop C_TwoLoops C_Finished C_BadText C_BadLine : Addr} : ecOf (mkL C_BadName C_BadDeed C_BadMove C_BadNumber C_BadPrice C_BadPlace C_BadPart C_BadSlots C_BadStanding C_BadRule C_Twice C_TooMany C_Unmade C_MadeAgain C_NoRoom C_Crowded C_Barred C_BadPlan C_NoLoop C_HasLoop C_OneLoop C_TwoLoops C_Finished C_BadText C_BadLine) "BadName" = C_BadName := by kernel_rfl
theorem ec_BadDeed {C_BadName C_BadDeed C_BadMove C_BadNumber C_BadPrice C_BadPlace C_BadPart C_BadSlots C_BadStanding C_BadRule C_Twice C_TooMany C_Unmade C_MadeAgain C_NoRoom C_Crowded C_Barred C_BadPlan C_NoLoop C_HasLoop C_OneLoop C_TwoLoops C_Finished C_BadText C_BadLine : Addr} : ecOf (mkL C_BadName C_BadDeed C_BadMove C_BadNumber C_BadPrice C_BadPlace C_BadPart C_BadSlots C_BadStanding C_BadRule C_Twice C_TooMany C_Unmade C_MadeAgain C_NoRoom C_Crowded C_Barred C_BadPlan C_NoLoop C_HasLoop C_OneLoop C_TwoLoops C_Finished C_BadText C_BadLine) "BadDeed" = C_BadDeed := by kernel_rfl
theorem ec_BadMove {C_BadName C_BadDeed C_BadMove C_BadNumber C_BadPrice C_BadPlace C_BadPart C_BadSlots C_BadStanding C_BadRule C_Twice C_TooMany C_Unmade C_MadeAgain C_NoRoom C_Crowded C_Barred C_BadPlan C_NoLoop C_HasLoop C_OneLoop C_TwoLoops C_Finished C_BadText C_BadLine : Addr} : ecOf (mkL C_BadName C_BadDeed C_BadMove C_BadNumber C_BadPrice C_BadPlace C_BadPart C_BadSlots C_BadStanding C_BadRule C_Twice C_TooMany C_Unmade C_MadeAgain C_NoRoom C_Crowded C_Barred C_BadPlan C_NoLoop C_HasLoop C_OneLoop C_TwoLoops C_Finished C_BadText C_BadLine) "BadMove" = C_BadMove := by kernel_rfl
theorem ec_BadNumber {C_BadName C_BadDeed C_BadMove C_BadNumber C_BadPrice C_BadPlace C_BadPart C_BadSlots C_BadStanding C_BadRule C_Twice C_TooMany C_Unmade C_MadeAgain C_NoRoom C_Crowded C_Barred C_BadPlan C_NoLoop C_HasLoop C_OneLoop C_TwoLoops C_Finished C_BadText C_BadLine : Addr} : ecOf (mkL C_BadName C_BadDeed C_BadMove C_BadNumber C_BadPrice C_BadPlace C_BadPart C_BadSlots C_BadStanding C_BadRule C_Twice C_TooMany C_Unmade C_MadeAgain C_NoRoom C_Crowded C_Barred C_BadPlan C_NoLoop C_HasLoop C_OneLoop C_TwoLoops C_Finished C_BadText C_BadLine) "BadNumber" = C_BadNumber := by kernel_rfl
theorem ec_BadPrice {C_BadName C_BadDeed C_BadMove C_BadNumber C_BadPrice C_BadPlace C_BadPart C_BadSlots C_BadStanding C_BadRule C_Twice C_TooMany C_Unmade C_MadeAgain C_NoRoom C_Crowded C_Barred C_BadPlan C_NoLoop C_HasLoop C_OneLoop C_TwoLoops C_Finished C_BadText C_BadLine : Addr} : ecOf (mkL C_BadName C_BadDeed C_BadMove C_BadNumber C_BadPrice C_BadPlace C_BadPart C_BadSlots C_BadStanding C_BadRule C_Twice C_TooMany C_Unmade C_MadeAgain C_NoRoom C_Crowded C_Barred C_BadPlan C_NoLoop C_HasLoop C_OneLoop C_TwoLoops C_Finished C_BadText C_BadLine) "BadPrice" = C_BadPrice := by kernel_rfl
theorem ec_BadPlace {C_BadName C_BadDeed C_BadMove C_BadNumber C_BadPrice C_BadPlace C_BadPart C_BadSlots C_BadStanding C_BadRule C_Twice C_TooMany C_Unmade C_MadeAgain C_NoRoom C_Crowded C_Barred C_BadPlan C_NoLoop C_HasLoop C_OneLoop C_TwoLoops C_Finished C_BadText C_BadLine : Addr} : ecOf (mkL C_BadName C_BadDeed C_BadMove C_BadNumber C_BadPrice C_BadPlace C_BadPart C_BadSlots C_BadStanding C_BadRule C_Twice C_TooMany C_Unmade C_MadeAgain C_NoRoom C_Crowded C_Barred C_BadPlan C_NoLoop C_HasLoop C_OneLoop C_TwoLoops C_Finished C_BadText C_BadLine) "BadPlace" = C_BadPlace := by kernel_rfl
theorem ec_BadPart {C_BadName C_BadDeed C_BadMove C_BadNumber C_BadPrice C_BadPlace C_BadPart C_BadSlots C_BadStanding C_BadRule C_Twice C_TooMany C_Unmade C_MadeAgain C_NoRoom C_Crowded C_Barred C_BadPlan C_NoLoop C_HasLoop C_OneLoop C_TwoLoops C_Finished C_BadText C_BadLine : Addr} : ecOf (mkL C_BadName C_BadDeed C_BadMove C_BadNumber C_BadPrice C_BadPlace C_BadPart C_BadSlots C_BadStanding C_BadRule C_Twice C_TooMany C_Unmade C_MadeAgain C_NoRoom C_Crowded C_Barred C_BadPlan C_NoLoop C_HasLoop C_OneLoop C_TwoLoops C_Finished C_BadText C_BadLine) "BadPart" = C_BadPart := by kernel_rfl
theorem ec_BadSlots {C_BadName C_BadDeed C_BadMove C_BadNumber C_BadPrice C_BadPlace C_BadPart C_BadSlots C_BadStanding C_BadRule C_Twice C_TooMany C_Unmade C_MadeAgain C_NoRoom C_Crowded C_Barred C_BadPlan C_NoLoop C_HasLoop C_OneLoop C_TwoLoops C_Finished C_BadText C_BadLine : Addr} : ecOf (mkL C_BadName C_BadDeed C_BadMove C_BadNumber C_BadPrice C_BadPlace C_BadPart C_BadSlots C_BadStanding C_BadRule C_Twice C_TooMany C_Unmade C_MadeAgain C_NoRoom C_Crowded C_Barred C_BadPlan C_NoLoop C_HasLoop C_OneLoop C_TwoLoops C_Finished C_BadText C_BadLine) "BadSlots" = C_BadSlots := by kernel_rfl
theorem ec_BadStanding {C_BadName C_BadDeed C_BadMove C_BadNumber C_BadPrice C_BadPlace C_BadPart C_BadSlots C_BadStanding C_BadRule C_Twice C_TooMany C_Unmade C_MadeAgain C_NoRoom C_Crowded C_Barred C_BadPlan C_NoLoop C_HasLoop C_OneLoop C_TwoLoops C_Finished C_BadText C_BadLine : Addr} : ecOf (mkL C_BadName C_BadDeed C_BadMove C_BadNumber C_BadPrice C_BadPlace C_BadPart C_BadSlots C_BadStanding C_BadRule C_Twice C_TooMany C_Unmade C_MadeAgain C_NoRoom C_Crowded C_Barred C_BadPlan C_NoLoop C_HasLoop C_OneLoop C_TwoLoops C_Finished C_BadText C_BadLine) "BadStanding" = C_BadStanding := by kernel_rfl
theorem ec_BadRule {C_BadName C_BadDeed C_BadMove C_BadNumber C_BadPrice C_BadPlace C_BadPart C_BadSlots C_BadStanding C_BadRule C_Twice C_TooMany C_Unmade C_MadeAgain C_NoRoom C_Crowded C_Barred C_BadPlan C_NoLoop C_HasLoop C_OneLoop C_TwoLoops C_Finished C_BadText C_BadLine : Addr} : ecOf (mkL C_BadName C_BadDeed C_BadMove C_BadNumber C_BadPrice C_BadPlace C_BadPart C_BadSlots C_BadStanding C_BadRule C_Twice C_TooMany C_Unmade C_MadeAgain C_NoRoom C_Crowded C_Barred C_BadPlan C_NoLoop C_HasLoop C_OneLoop C_TwoLoops C_Finished C_BadText C_BadLine) "BadRule" = C_BadRule := by kernel_rfl
theorem ec_Twice {C_BadName C_BadDeed C_BadMove C_BadNumber C_BadPrice C_BadPlace C_BadPart C_BadSlots C_BadStanding C_BadRule C_Twice C_TooMany C_Unmade C_MadeAgain C_NoRoom C_Crowded C_Barred C_BadPlan C_NoLoop C_HasLoop C_OneLoop C_TwoLoops C_Finished C_BadText C_BadLine : Addr} : ecOf (mkL C_BadName C_BadDeed C_BadMove C_BadNumber C_BadPrice C_BadPlace C_BadPart C_BadSlots C_BadStanding C_BadRule C_Twice C_TooMany C_Unmade C_MadeAgain C_NoRoom C_Crowded C_Barred C_BadPlan C_NoLoop C_HasLoop C_OneLoop C_TwoLoops C_Finished C_BadText C_BadLine) "Twice" = C_Twice := by kernel_rfl
theorem ec_TooMany {C_BadName C_BadDeed C_BadMove C_BadNumber C_BadPrice C_BadPlace C_BadPart C_BadSlots C_BadStanding C_BadRule C_Twice C_TooMany C_Unmade C_MadeAgain C_NoRoom C_Crowded C_Barred C_BadPlan C_NoLoop C_HasLoop C_OneLoop C_TwoLoops C_Finished C_BadText C_BadLine : Addr} : ecOf (mkL C_BadName C_BadDeed C_BadMove C_BadNumber C_BadPrice C_BadPlace C_BadPart C_BadSlots C_BadStanding C_BadRule C_Twice C_TooMany C_Unmade C_MadeAgain C_NoRoom C_Crowded C_Barred C_BadPlan C_NoLoop C_HasLoop C_OneLoop C_TwoLoops C_Finished C_BadText C_BadLine) "TooMany" = C_TooMany := by kernel_rfl
theorem ec_Unmade {C_BadName C_BadDeed C_BadMove C_BadNumber C_BadPrice C_BadPlace C_BadPart C_BadSlots C_BadStanding C_BadRule C_Twice C_TooMany C_Unmade C_MadeAgain C_NoRoom C_Crowded C_Barred C_BadPlan C_NoLoop C_HasLoop C_OneLoop C_TwoLoops C_Finished C_BadText C_BadLine : Addr} : ecOf (mkL C_BadName C_BadDeed C_BadMove C_BadNumber C_BadPrice C_BadPlace C_BadPart C_BadSlots C_BadStanding C_BadRule C_Twice C_TooMany C_Unmade C_MadeAgain C_NoRoom C_Crowded C_Barred C_BadPlan C_NoLoop C_HasLoop C_OneLoop C_TwoLoops C_Finished C_BadText C_BadLine) "Unmade" = C_Unmade := by kernel_rfl
theorem ec_MadeAgain {C_BadName C_BadDeed C_BadMove C_BadNumber C_BadPrice C_BadPlace C_BadPart C_BadSlots C_BadStanding C_BadRule C_Twice C_TooMany C_Unmade C_MadeAgain C_NoRoom C_Crowded C_Barred C_BadPlan C_NoLoop C_HasLoop C_OneLoop C_TwoLoops C_Finished C_BadText C_BadLine : Addr} : ecOf (mkL C_BadName C_BadDeed C_BadMove C_BadNumber C_BadPrice C_BadPlace C_BadPart C_BadSlots C_BadStanding C_BadRule C_Twice C_TooMany C_Unmade C_MadeAgain C_NoRoom C_Crowded C_Barred C_BadPlan C_NoLoop C_HasLoop C_OneLoop C_TwoLoops C_Finished C_BadText C_BadLine) "MadeAgain" = C_MadeAgain := by kernel_rfl
theorem ec_NoRoom {C_BadName C_BadDeed C_BadMove C_BadNumber C_BadPrice C_BadPlace C_BadPart C_BadSlots C_BadStanding C_BadRule C_Twice C_TooMany C_Unmade C_MadeAgain C_NoRoom C_Crowded C_Barred C_BadPlan C_NoLoop C_HasLoop C_OneLoop C_TwoLoops C_Finished C_BadText C_BadLine : Addr} : ecOf (mkL C_BadName C_BadDeed C_BadMove C_BadNumber C_BadPrice C_BadPlace C_BadPart C_BadSlots C_BadStanding C_BadRule C_Twice C_TooMany C_Unmade C_MadeAgain C_NoRoom C_Crowded C_Barred C_BadPlan C_NoLoop C_HasLoop C_OneLoop C_TwoLoops C_Finished C_BadText C_BadLine) "NoRoom" = C_NoRoom := by kernel_rfl
theorem ec_Crowded {C_BadName C_BadDeed C_BadMove C_BadNumber C_BadPrice C_BadPlace C_BadPart C_BadSlots C_BadStanding C_BadRule C_Twice C_TooMany C_Unmade C_MadeAgain C_NoRoom C_Crowded C_Barred C_BadPlan C_NoLoop C_HasLoop C_OneLoop C_TwoLoops C_Finished C_BadText C_BadLine : Addr} : ecOf (mkL C_BadName C_BadDeed C_BadMove C_BadNumber C_BadPrice C_BadPlace C_BadPart C_BadSlots C_BadStanding C_BadRule C_Twice C_TooMany C_Unmade C_MadeAgain C_NoRoom C_Crowded C_Barred C_BadPlan C_NoLoop C_HasLoop C_OneLoop C_TwoLoops C_Finished C_BadText C_BadLine) "Crowded" = C_Crowded := by kernel_rfl
theorem ec_Barred {C_BadName C_BadDeed C_BadMove C_BadNumber C_BadPrice C_BadPlace C_BadPart C_BadSlots C_BadStanding C_BadRule C_Twice C_TooMany C_Unmade C_MadeAgain C_NoRoom C_Crowded C_Barred C_BadPlan C_NoLoop C_HasLoop C_OneLoop C_TwoLoops C_Finished C_BadText C_BadLine : Addr} : ecOf (mkL C_BadName C_BadDeed C_BadMove C_BadNumber C_BadPrice C_BadPlace C_BadPart C_BadSlots C_BadStanding C_BadRule C_Twice C_TooMany C_Unmade C_MadeAgain C_NoRoom C_Crowded C_Barred C_BadPlan C_NoLoop C_HasLoop C_OneLoop C_TwoLoops C_Finished C_BadText C_BadLine) "Barred" = C_Barred := by kernel_rfl
theorem ec_BadPlan {C_BadName C_BadDeed C_BadMove C_BadNumber C_BadPrice C_BadPlace C_BadPart C_BadSlots C_BadStanding C_BadRule C_Twice C_TooMany C_Unmade C_MadeAgain C_NoRoom C_Crowded C_Barred C_BadPlan C_NoLoop C_HasLoop C_OneLoop C_TwoLoops C_Finished C_BadText C_BadLine : Addr} : ecOf (mkL C_BadName C_BadDeed C_BadMove C_BadNumber C_BadPrice C_BadPlace C_BadPart C_BadSlots C_BadStanding C_BadRule C_Twice C_TooMany C_Unmade C_MadeAgain C_NoRoom C_Crowded C_Barred C_BadPlan C_NoLoop C_HasLoop C_OneLoop C_TwoLoops C_Finished C_BadText C_BadLine) "BadPlan" = C_BadPlan := by kernel_rfl
theorem ec_NoLoop {C_BadName C_BadDeed C_BadMove C_BadNumber C_BadPrice C_BadPlace C_BadPart C_BadSlots C_BadStanding C_BadRule C_Twice C_TooMany C_Unmade C_MadeAgain C_NoRoom C_Crowded C_Barred C_BadPlan C_NoLoop C_HasLoop C_OneLoop C_TwoLoops C_Finished C_BadText C_BadLine : Addr} : ecOf (mkL C_BadName C_BadDeed C_BadMove C_BadNumber C_BadPrice C_BadPlace C_BadPart C_BadSlots C_BadStanding C_BadRule C_Twice C_TooMany C_Unmade C_MadeAgain C_NoRoom C_Crowded C_Barred C_BadPlan C_NoLoop C_HasLoop C_OneLoop C_TwoLoops C_Finished C_BadText C_BadLine) "NoLoop" = C_NoLoop := by kernel_rfl
theorem ec_HasLoop {C_BadName C_BadDeed C_BadMove C_BadNumber C_BadPrice C_BadPlace C_BadPart C_BadSlots C_BadStanding C_BadRule C_Twice C_TooMany C_Unmade C_MadeAgain C_NoRoom C_Crowded C_Barred C_BadPlan C_NoLoop C_HasLoop C_OneLoop C_TwoLoops C_Finished C_BadText C_BadLine : Addr} : ecOf (mkL C_BadName C_BadDeed C_BadMove C_BadNumber C_BadPrice C_BadPlace C_BadPart C_BadSlots C_BadStanding C_BadRule C_Twice C_TooMany C_Unmade C_MadeAgain C_NoRoom C_Crowded C_Barred C_BadPlan C_NoLoop C_HasLoop C_OneLoop C_TwoLoops C_Finished C_BadText C_BadLine) "HasLoop" = C_HasLoop := by kernel_rfl
theorem ec_OneLoop {C_BadName C_BadDeed C_BadMove C_BadNumber C_BadPrice C_BadPlace C_BadPart C_BadSlots C_BadStanding C_BadRule C_Twice C_TooMany C_Unmade C_MadeAgain C_NoRoom C_Crowded C_Barred C_BadPlan C_NoLoop C_HasLoop C_OneLoop C_TwoLoops C_Finished C_BadText C_BadLine : Addr} : ecOf (mkL C_BadName C_BadDeed C_BadMove C_BadNumber C_BadPrice C_BadPlace C_BadPart C_BadSlots C_BadStanding C_BadRule C_Twice C_TooMany C_Unmade C_MadeAgain C_NoRoom C_Crowded C_Barred C_BadPlan C_NoLoop C_HasLoop C_OneLoop C_TwoLoops C_Finished C_BadText C_BadLine) "OneLoop" = C_OneLoop := by kernel_rfl
theorem ec_TwoLoops {C_BadName C_BadDeed C_BadMove C_BadNumber C_BadPrice C_BadPlace C_BadPart C_BadSlots C_BadStanding C_BadRule C_Twice C_TooMany C_Unmade C_MadeAgain C_NoRoom C_Crowded C_Barred C_BadPlan C_NoLoop C_HasLoop C_OneLoop C_TwoLoops C_Finished C_BadText C_BadLine : Addr} : ecOf (mkL C_BadName C_BadDeed C_BadMove C_BadNumber C_BadPrice C_BadPlace C_BadPart C_BadSlots C_BadStanding C_BadRule C_Twice C_TooMany C_Unmade C_MadeAgain C_NoRoom C_Crowded C_Barred C_BadPlan C_NoLoop C_HasLoop C_OneLoop C_TwoLoops C_Finished C_BadText C_BadLine) "TwoLoops" = C_TwoLoops := by kernel_rfl
theorem ec_Finished {C_BadName C_BadDeed C_BadMove C_BadNumber C_BadPrice C_BadPlace C_BadPart C_BadSlots C_BadStanding C_BadRule C_Twice C_TooMany C_Unmade C_MadeAgain C_NoRoom C_Crowded C_Barred C_BadPlan C_NoLoop C_HasLoop C_OneLoop C_TwoLoops C_Finished C_BadText C_BadLine : Addr} : ecOf (mkL C_BadName C_BadDeed C_BadMove C_BadNumber C_BadPrice C_BadPlace C_BadPart C_BadSlots C_BadStanding C_BadRule C_Twice C_TooMany C_Unmade C_MadeAgain C_NoRoom C_Crowded C_Barred C_BadPlan C_NoLoop C_HasLoop C_OneLoop C_TwoLoops C_Finished C_BadText C_BadLine) "Finished" = C_Finished := by kernel_rfl
theorem ec_BadText {C_BadName C_BadDeed C_BadMove C_BadNumber C_BadPrice C_BadPlace C_BadPart C_BadSlots C_BadStanding C_BadRule C_Twice C_TooMany C_Unmade C_MadeAgain C_NoRoom C_Crowded C_Barred C_BadPlan C_NoLoop C_HasLoop C_OneLoop C_TwoLoops C_Finished C_BadText C_BadLine : Addr} : ecOf (mkL C_BadName C_BadDeed C_BadMove C_BadNumber C_BadPrice C_BadPlace C_BadPart C_BadSlots C_BadStanding C_BadRule C_Twice C_TooMany C_Unmade C_MadeAgain C_NoRoom C_Crowded C_Barred C_BadPlan C_NoLoop C_HasLoop C_OneLoop C_TwoLoops C_Finished C_BadText C_BadLine) "BadText" = C_BadText := by kernel_rfl
theorem ec_BadLine {C_BadName C_BadDeed C_BadMove C_BadNumber C_BadPrice C_BadPlace C_BadPart C_BadSlots C_BadStanding C_BadRule C_Twice C_TooMany C_Unmade C_MadeAgain C_NoRoom C_Crowded C_Barred C_BadPlan C_NoLoop C_HasLoop C_OneLoop C_TwoLoops C_Finished C_BadText C_BadLine : Addr} : ecOf (mkL C_BadName C_BadDeed C_BadMove C_BadNumber C_BadPrice C_BadPlace C_BadPart C_BadSlots C_BadStanding C_BadRule C_Twice C_TooMany C_Unmade C_MadeAgain C_NoRoom C_Crowded C_Barred C_BadPlan C_NoLoop C_HasLoop C_OneLoop C_TwoLoops C_Finished C_BadText C_BadLine) "BadLine" = C_BadLine := by kernel_rfl
theorem ec_nms {C_BadName C_BadDeed C_BadMove C_BadNumber C_BadPrice C_BadPlace C_BadPart C_BadSlots C_BadStanding C_BadRule C_Twice C_TooMany C_Unmade C_MadeAgain C_NoRoom C_Crowded C_Barred C_BadPlan C_NoLoop C_HasLoop C_OneLoop C_TwoLoops C_Finished C_BadText C_BadLine : Addr} : (mkL C_BadName C_BadDeed C_BadMove C_BadNumber C_BadPrice C_BadPlace C_BadPart C_BadSlots C_BadStanding C_BadRule C_Twice C_TooMany C_Unmade C_MadeAgain C_NoRoom C_Crowded C_Barred C_BadPlan C_NoLoop C_HasLoop C_OneLoop C_TwoLoops C_Finished C_BadText C_BadLine).map (·.1) = errNms := rfl
/-- what is said of each error class -/
structure ErrC (K : PySem.W.Frag) (CE C : Addr) : Prop where
  mro : MroE K CE C
  ty : PySem.W.typeIn K (.ref C) = some (.type "type")
  ex : ExcC K C
theorem ecK_of {K : PySem.W.Frag} {CE C : Addr} {fs : List Str} (h : ErrC K CE C) (xf : fs ≠ [] → XfC K C) (no : ∀ f ∈ fs, PySem.W.findIn K (.ref C) f = some none) (hC : (PySem.W.clsIn K CE).isSome = true) (ty : PySem.W.typeIn K (.ref CE) = some (.type "type")) (ne : C ≠ CE) : EcK K CE C fs := by
  refine ⟨h.ex, xf, no, (kit_type h.mro (T := "ValueError") (by decide +kernel)).trans (by decide +kernel), kit_base h.mro hC ty ne, ?_⟩
  have go : ∀ {T : String} {cs : List Value}, PySem.W.kitMeta T = true → ([.type "ValueError", .type "Exception", .type "BaseException", .type "object"] : List Value).contains (.type T) = false → PySem.W.kitAny K (.ref C) cs = some false → PySem.W.kitAny K (.ref C) (.type T :: cs) = some false := fun {T cs} h1 h2 h3 =>
    kitAny_cons (b := false) ((kit_type h.mro h1).trans (by rw [h2])) (fun _ => h3) (fun z => nomatch z)
  exact go (by decide +kernel) (by decide +kernel) (go (by decide +kernel) (by decide +kernel) (go (by decide +kernel) (by decide +kernel) (go (by decide +kernel) (by decide +kernel) (go (by decide +kernel) (by decide +kernel) kitAny_nil))))
end K01
end
section
set_option Elab.async false
set_option linter.all false
set_option maxRecDepth 100000
set_option maxHeartbeats 8000000
namespace K01
open PySem PySem.Spec PyProof.Rows L2 Ls
theorem all_mk {l : PySem.W.OpenLaw} {w : World} {K : PySem.W.Frag} {q : Program} {h : Heap} {mg : Str → Option Value} {fa : Addr} (X : K.In h) (G : h.Ns mainGlobals mg) (hfa : mg "law" = some (.ref fa))
    (ow : ∀ (x : Str) (fx : Addr), ((recsOf q).any fun e => e.name == x) = true → mg x = some (.ref fx) → LamX.OwnTab K fx h)
    {tL tN : Tok} {zL : Str}
    {tU : Tok} {cdCE : ClassData}
    {CE : Addr}
    {C_BadName : Addr}
    {C_BadDeed : Addr}
    {C_BadMove : Addr}
    {C_BadNumber : Addr}
    {C_BadPrice : Addr}
    {C_BadPlace : Addr}
    {C_BadPart : Addr}
    {C_BadSlots : Addr}
    {C_BadStanding : Addr}
    {C_BadRule : Addr}
    {C_Twice : Addr}
    {C_TooMany : Addr}
    {C_Unmade : Addr}
    {C_MadeAgain : Addr}
    {C_NoRoom : Addr}
    {C_Crowded : Addr}
    {C_Barred : Addr}
    {C_BadPlan : Addr}
    {C_NoLoop : Addr}
    {C_HasLoop : Addr}
    {C_OneLoop : Addr}
    {C_TwoLoops : Addr}
    {C_Finished : Addr}
    {C_BadText : Addr}
    {C_BadLine : Addr}
    {CD fDI fR pR fS fE : Addr} {mc : Value} {restR : List Value}
    {odDI anDI : Option Addr} {slDI : Array (Option Value)} {ocDI kVDI dcDI pmDI ctDI : Value}
    {cdDI : Value}
    {odR anR : Option Addr} {slR : Array (Option Value)} {ocR kVR dcR pmR ctR : Value}
    {cdR : Value}
    {odS anS : Option Addr} {slS : Array (Option Value)} {ocS kVS dcS pmS ctS : Value}
    {cdS : Value}
    {odE anE : Option Addr} {slE : Array (Option Value)} {ocE kVE dcE pmE ctE : Value}
    {cdE : Value}
    {p_uses g_uses : Addr} {rest_uses : List Value}
    {odPuses anPuses : Option Addr} {slPuses : Array (Option Value)} {ocPuses kVPuses dcPuses pmPuses ctPuses : Value}
    {cdPuses : Value}
    {p_makes g_makes : Addr} {rest_makes : List Value}
    {odPmakes anPmakes : Option Addr} {slPmakes : Array (Option Value)} {ocPmakes kVPmakes dcPmakes pmPmakes ctPmakes : Value}
    {cdPmakes : Value}
    {p_names g_names : Addr} {rest_names : List Value}
    {odPnames anPnames : Option Addr} {slPnames : Array (Option Value)} {ocPnames kVPnames dcPnames pmPnames ctPnames : Value}
    {cdPnames : Value}
    {p_room g_room : Addr} {rest_room : List Value}
    {odProom anProom : Option Addr} {slProom : Array (Option Value)} {ocProom kVProom dcProom pmProom ctProom : Value}
    {cdProom : Value}
    {CU fU_ : Addr}
    {odIU anIU : Option Addr} {slIU : Array (Option Value)} {ocIU kVIU dcIU pmIU ctIU : Value}
    {cdIU : Value}
    {CM fM_ : Addr}
    {odIM anIM : Option Addr} {slIM : Array (Option Value)} {ocIM kVIM dcIM pmIM ctIM : Value}
    {cdIM : Value}
    {CO fO_ : Addr}
    {odIO anIO : Option Addr} {slIO : Array (Option Value)} {ocIO kVIO dcIO pmIO ctIO : Value}
    {cdIO : Value}
    {mk_D : Value}
    {tk_D : Tok}
    {mk_U : Value}
    {tk_U : Tok}
    {mk_M : Value}
    {tk_M : Tok}
    {mk_O : Value}
    {tk_O : Tok}
    {f_is_name : Addr}
    {od_is_name an_is_name : Option Addr} {sl_is_name : Array (Option Value)} {oc_is_name kV_is_name dc_is_name pm_is_name ct_is_name : Value}
    {cd_is_name : Value}
    {f_need_names : Addr}
    {od_need_names an_need_names : Option Addr} {sl_need_names : Array (Option Value)} {oc_need_names kV_need_names dc_need_names pm_need_names ct_need_names : Value}
    {cd_need_names : Value}
    {f_need_used : Addr}
    {od_need_used an_need_used : Option Addr} {sl_need_used : Array (Option Value)} {oc_need_used kV_need_used dc_need_used pm_need_used ct_need_used : Value}
    {cd_need_used : Value}
    {f_need_name : Addr}
    {od_need_name an_need_name : Option Addr} {sl_need_name : Array (Option Value)} {oc_need_name kV_need_name dc_need_name pm_need_name ct_need_name : Value}
    {cd_need_name : Value}
    {f_ascending : Addr}
    {od_ascending an_ascending : Option Addr} {sl_ascending : Array (Option Value)} {oc_ascending kV_ascending dc_ascending pm_ascending ct_ascending : Value}
    {cd_ascending : Value}
    {f_is_deed_row : Addr}
    {od_is_deed_row an_is_deed_row : Option Addr} {sl_is_deed_row : Array (Option Value)} {oc_is_deed_row kV_is_deed_row dc_is_deed_row pm_is_deed_row ct_is_deed_row : Value}
    {cd_is_deed_row : Value}
    {f__law_pen : Addr}
    {od__law_pen an__law_pen : Option Addr} {sl__law_pen : Array (Option Value)} {oc__law_pen kV__law_pen dc__law_pen pm__law_pen ct__law_pen : Value}
    {cd__law_pen : Value}
    {f__law_draw : Addr}
    {od__law_draw an__law_draw : Option Addr} {sl__law_draw : Array (Option Value)} {oc__law_draw kV__law_draw dc__law_draw pm__law_draw ct__law_draw : Value}
    {cd__law_draw : Value}
    {f__law_pick : Addr}
    {od__law_pick an__law_pick : Option Addr} {sl__law_pick : Array (Option Value)} {oc__law_pick kV__law_pick dc__law_pick pm__law_pick ct__law_pick : Value}
    {cd__law_pick : Value}
    {f__law_some : Addr}
    {od__law_some an__law_some : Option Addr} {sl__law_some : Array (Option Value)} {oc__law_some kV__law_some dc__law_some pm__law_some ct__law_some : Value}
    {cd__law_some : Value}
    {f__law_names : Addr}
    {od__law_names an__law_names : Option Addr} {sl__law_names : Array (Option Value)} {oc__law_names kV__law_names dc__law_names pm__law_names ct__law_names : Value}
    {cd__law_names : Value}
    {f__law_real_deed : Addr}
    {od__law_real_deed an__law_real_deed : Option Addr} {sl__law_real_deed : Array (Option Value)} {oc__law_real_deed kV__law_real_deed dc__law_real_deed pm__law_real_deed ct__law_real_deed : Value}
    {cd__law_real_deed : Value}
    {f__law_lot : Addr}
    {od__law_lot an__law_lot : Option Addr} {sl__law_lot : Array (Option Value)} {oc__law_lot kV__law_lot dc__law_lot pm__law_lot ct__law_lot : Value}
    {cd__law_lot : Value}
    {f__law_text : Addr}
    {od__law_text an__law_text : Option Addr} {sl__law_text : Array (Option Value)} {oc__law_text kV__law_text dc__law_text pm__law_text ct__law_text : Value}
    {cd__law_text : Value}
    {f__law_right : Addr}
    {od__law_right an__law_right : Option Addr} {sl__law_right : Array (Option Value)} {oc__law_right kV__law_right dc__law_right pm__law_right ct__law_right : Value}
    {cd__law_right : Value}
    {f__law_odd : Addr}
    {od__law_odd an__law_odd : Option Addr} {sl__law_odd : Array (Option Value)} {oc__law_odd kV__law_odd dc__law_odd pm__law_odd ct__law_odd : Value}
    {cd__law_odd : Value}
    {f__law_errors : Addr}
    {od__law_errors an__law_errors : Option Addr} {sl__law_errors : Array (Option Value)} {oc__law_errors kV__law_errors dc__law_errors pm__law_errors ct__law_errors : Value}
    {cd__law_errors : Value}
    {f__law_field : Addr}
    {od__law_field an__law_field : Option Addr} {sl__law_field : Array (Option Value)} {oc__law_field kV__law_field dc__law_field pm__law_field ct__law_field : Value}
    {cd__law_field : Value}
    {f__law_kinds : Addr}
    {od__law_kinds an__law_kinds : Option Addr} {sl__law_kinds : Array (Option Value)} {oc__law_kinds kV__law_kinds dc__law_kinds pm__law_kinds ct__law_kinds : Value}
    {cd__law_kinds : Value}
    {f__law_errors_right : Addr}
    {od__law_errors_right an__law_errors_right : Option Addr} {sl__law_errors_right : Array (Option Value)} {oc__law_errors_right kV__law_errors_right dc__law_errors_right pm__law_errors_right ct__law_errors_right : Value}
    {cd__law_errors_right : Value}
    {f_law : Addr}
    {od_law an_law : Option Addr} {sl_law : Array (Option Value)} {oc_law kV_law dc_law pm_law ct_law : Value}
    {cd_law : Value}
    (b0 : PySem.W.nsIn K mainGlobals "len" = some none)
    (b1 : PySem.W.nsIn K mainGlobals "int" = some none)
    (b2 : PySem.W.nsIn K mainGlobals "abs" = some none)
    (b3 : PySem.W.nsIn K mainGlobals "list" = some none)
    (b4 : PySem.W.nsIn K mainGlobals "str" = some none)
    (b5 : PySem.W.nsIn K mainGlobals "isinstance" = some none)
    (b6 : PySem.W.nsIn K mainGlobals "all" = some none)
    (b7 : PySem.W.nsIn K mainGlobals "range" = some none)
    (b8 : PySem.W.nsIn K mainGlobals "tuple" = some none)
    (b9 : PySem.W.nsIn K mainGlobals "super" = some none)
    (b10 : PySem.W.nsIn K mainGlobals "repr" = some none)
    (b11 : PySem.W.nsIn K mainGlobals "set" = some none)
    (b12 : PySem.W.nsIn K mainGlobals "sorted" = some none)
    (b13 : PySem.W.nsIn K mainGlobals "min" = some none)
    (b14 : PySem.W.nsIn K mainGlobals "ValueError" = some none)
    (b15 : PySem.W.nsIn K mainGlobals "LookupError" = some none)
    (b16 : PySem.W.nsIn K mainGlobals "ArithmeticError" = some none)
    (b17 : PySem.W.nsIn K mainGlobals "TypeError" = some none)
    (b18 : PySem.W.nsIn K mainGlobals "RuntimeError" = some none)
    (b19 : PySem.W.nsIn K mainGlobals "AttributeError" = some none)
    (gL : PySem.W.nsIn K mainGlobals "LETTERS" = some (some (.str zL tL)))
    (eL : zL = lettersS)
    (gN : PySem.W.nsIn K mainGlobals "LONGEST_NAME" = some (some (.int 6 tN)))
    (gMU : PySem.W.nsIn K mainGlobals "MOST_USED" = some (some (.int 3 tU)))
    (hn : PySem.W.specialIn K (.builtin "object.__class__") "__get__" = some (some (.builtin "getset_descriptor.__get__")))
    (htk : PySem.W.takesIn K (.builtin "object.__class__") = some true)
    (any_ : PySem.W.nsIn K cStatics "thirdparty.any" = some none)
    (top_ : (l.prog.main.scope.names.lookup ("super" : Str)).isSome = false)
    (gCE : PySem.W.nsIn K mainGlobals "StowError" = some (some (.ref CE)))
    (ceC : PySem.W.clsIn K CE = some cdCE)
    (ceT : PySem.W.typeIn K (.ref CE) = some (.type "type"))
    (g_BadName : PySem.W.nsIn K mainGlobals "BadName" = some (some (.ref C_BadName)))
    (e_BadName : ErrFx l.prog K CE C_BadName "BadName.__init__" s_BadName_init ["value"])
    (g_BadDeed : PySem.W.nsIn K mainGlobals "BadDeed" = some (some (.ref C_BadDeed)))
    (e_BadDeed : ErrFx l.prog K CE C_BadDeed "BadDeed.__init__" s_BadDeed_init ["value"])
    (g_BadMove : PySem.W.nsIn K mainGlobals "BadMove" = some (some (.ref C_BadMove)))
    (e_BadMove : ErrFx l.prog K CE C_BadMove "BadMove.__init__" s_BadMove_init ["value"])
    (g_BadNumber : PySem.W.nsIn K mainGlobals "BadNumber" = some (some (.ref C_BadNumber)))
    (e_BadNumber : ErrFx l.prog K CE C_BadNumber "BadNumber.__init__" s_BadNumber_init ["value"])
    (g_BadPrice : PySem.W.nsIn K mainGlobals "BadPrice" = some (some (.ref C_BadPrice)))
    (e_BadPrice : ErrFx l.prog K CE C_BadPrice "BadPrice.__init__" s_BadPrice_init ["value"])
    (g_BadPlace : PySem.W.nsIn K mainGlobals "BadPlace" = some (some (.ref C_BadPlace)))
    (e_BadPlace : ErrFx l.prog K CE C_BadPlace "BadPlace.__init__" s_BadPlace_init ["value"])
    (g_BadPart : PySem.W.nsIn K mainGlobals "BadPart" = some (some (.ref C_BadPart)))
    (e_BadPart : ErrFx l.prog K CE C_BadPart "BadPart.__init__" s_BadPart_init ["part"])
    (g_BadSlots : PySem.W.nsIn K mainGlobals "BadSlots" = some (some (.ref C_BadSlots)))
    (e_BadSlots : ErrFx l.prog K CE C_BadSlots "BadSlots.__init__" s_BadSlots_init ["value"])
    (g_BadStanding : PySem.W.nsIn K mainGlobals "BadStanding" = some (some (.ref C_BadStanding)))
    (e_BadStanding : ErrFx l.prog K CE C_BadStanding "BadStanding.__init__" s_BadStanding_init ["value"])
    (g_BadRule : PySem.W.nsIn K mainGlobals "BadRule" = some (some (.ref C_BadRule)))
    (e_BadRule : ErrFx l.prog K CE C_BadRule "BadRule.__init__" s_BadRule_init ["value"])
    (g_Twice : PySem.W.nsIn K mainGlobals "Twice" = some (some (.ref C_Twice)))
    (e_Twice : ErrFx l.prog K CE C_Twice "Twice.__init__" s_Twice_init ["name"])
    (g_TooMany : PySem.W.nsIn K mainGlobals "TooMany" = some (some (.ref C_TooMany)))
    (e_TooMany : ErrFx l.prog K CE C_TooMany "TooMany.__init__" s_TooMany_init ["most"])
    (g_Unmade : PySem.W.nsIn K mainGlobals "Unmade" = some (some (.ref C_Unmade)))
    (e_Unmade : ErrFx l.prog K CE C_Unmade "Unmade.__init__" s_Unmade_init ["place", "name"])
    (g_MadeAgain : PySem.W.nsIn K mainGlobals "MadeAgain" = some (some (.ref C_MadeAgain)))
    (e_MadeAgain : ErrFx l.prog K CE C_MadeAgain "MadeAgain.__init__" s_MadeAgain_init ["place", "name"])
    (g_NoRoom : PySem.W.nsIn K mainGlobals "NoRoom" = some (some (.ref C_NoRoom)))
    (e_NoRoom : ErrFx l.prog K CE C_NoRoom "NoRoom.__init__" s_NoRoom_init ["place"])
    (g_Crowded : PySem.W.nsIn K mainGlobals "Crowded" = some (some (.ref C_Crowded)))
    (e_Crowded : ErrFx l.prog K CE C_Crowded "Crowded.__init__" s_Crowded_init ["place"])
    (g_Barred : PySem.W.nsIn K mainGlobals "Barred" = some (some (.ref C_Barred)))
    (e_Barred : ErrFx l.prog K CE C_Barred "Barred.__init__" s_Barred_init ["word", "name"])
    (g_BadPlan : PySem.W.nsIn K mainGlobals "BadPlan" = some (some (.ref C_BadPlan)))
    (e_BadPlan : ErrFx l.prog K CE C_BadPlan "BadPlan.__init__" s_BadPlan_init ["at", "index", "word", "name"])
    (g_NoLoop : PySem.W.nsIn K mainGlobals "NoLoop" = some (some (.ref C_NoLoop)))
    (e_NoLoop : ErrF0 K CE C_NoLoop)
    (g_HasLoop : PySem.W.nsIn K mainGlobals "HasLoop" = some (some (.ref C_HasLoop)))
    (e_HasLoop : ErrF0 K CE C_HasLoop)
    (g_OneLoop : PySem.W.nsIn K mainGlobals "OneLoop" = some (some (.ref C_OneLoop)))
    (e_OneLoop : ErrF0 K CE C_OneLoop)
    (g_TwoLoops : PySem.W.nsIn K mainGlobals "TwoLoops" = some (some (.ref C_TwoLoops)))
    (e_TwoLoops : ErrF0 K CE C_TwoLoops)
    (g_Finished : PySem.W.nsIn K mainGlobals "Finished" = some (some (.ref C_Finished)))
    (e_Finished : ErrF0 K CE C_Finished)
    (g_BadText : PySem.W.nsIn K mainGlobals "BadText" = some (some (.ref C_BadText)))
    (e_BadText : ErrFx l.prog K CE C_BadText "BadText.__init__" s_BadText_init ["line", "word"])
    (g_BadLine : PySem.W.nsIn K mainGlobals "BadLine" = some (some (.ref C_BadLine)))
    (e_BadLine : ErrFx l.prog K CE C_BadLine "BadLine.__init__" s_BadLine_init ["word"])
    (ndE : ([CE, C_BadName, C_BadDeed, C_BadMove, C_BadNumber, C_BadPrice, C_BadPlace, C_BadPart, C_BadSlots, C_BadStanding, C_BadRule, C_Twice, C_TooMany, C_Unmade, C_MadeAgain, C_NoRoom, C_Crowded, C_Barred, C_BadPlan, C_NoLoop, C_HasLoop, C_OneLoop, C_TwoLoops, C_Finished, C_BadText, C_BadLine] : List Addr).Nodup)
    (gD_ : PySem.W.nsIn K mainGlobals "Deed" = some (some (.ref CD)))
    (tyM : PySem.W.typeIn K (.ref CD) = some mc)
    (rdM : PySem.W.readsIn K CD mc = true)
    (gaM : PySem.W.specialIn K (.ref CD) "__getattribute__" = some (some (.builtin "type.__getattribute__")))
    (atDI : PySem.W.findCls K (.ref CD) mc "__init__" = some (.val (.ref fDI)))
    (lDI : K.lookup fDI = some ⟨ocDI, odDI, .func (PySem.W.fnOf "__init__" "Deed.__init__" (defArgs s_Deed_init) (defBody s_Deed_init) (defScope s_Deed_init) .none kVDI dcDI pmDI anDI cdDI ctDI), slDI⟩)
    (cDI : PySem.W.codeIn K cdDI "Deed.__init__" = true)
    (kDI : PySem.W.keepIn K (.ref fDI) = true)
    (atR : PySem.W.findCls K (.ref CD) mc "read" = some (.get (.builtin "classmethod.__get__") (.ref pR) .none (.ref CD)))
    (rcR : PySem.W.recIn K pR "classmethod" = some (.ref fR :: restR))
    (fiR : PySem.W.fnIn K fR = true)
    (lR : K.lookup fR = some ⟨ocR, odR, .func (PySem.W.fnOf "read" "Deed.read" (defArgs s_Deed_read) (defBody s_Deed_read) (defScope s_Deed_read) .none kVR dcR pmR anR cdR ctR), slR⟩)
    (cR : PySem.W.codeIn K cdR "Deed.read" = true)
    (kR : PySem.W.keepIn K (.ref fR) = true)
    (aS : PySem.W.findIn K (.ref CD) "__str__" = some (some (.ref fS)))
    (lS : K.lookup fS = some ⟨ocS, odS, .func (PySem.W.fnOf "__str__" "Deed.__str__" (defArgs s_Deed_str) (defBody s_Deed_str) (defScope s_Deed_str) .none kVS dcS pmS anS cdS ctS), slS⟩)
    (cS : PySem.W.codeIn K cdS "Deed.__str__" = true)
    (kS : PySem.W.keepIn K (.ref fS) = true)
    (iS : PySem.W.isFn K (.ref fS) = true)
    (aE : PySem.W.findIn K (.ref CD) "__eq__" = some (some (.ref fE)))
    (lE : K.lookup fE = some ⟨ocE, odE, .func (PySem.W.fnOf "__eq__" "Deed.__eq__" (defArgs s_Deed_eq) (defBody s_Deed_eq) (defScope s_Deed_eq) .none kVE dcE pmE anE cdE ctE), slE⟩)
    (cE : PySem.W.codeIn K cdE "Deed.__eq__" = true)
    (kE : PySem.W.keepIn K (.ref fE) = true)
    (iE : PySem.W.isFn K (.ref fE) = true)
    (pa_uses : PySem.W.findIn K (.ref CD) "uses" = some (some (.ref p_uses)))
    (pg_uses : PySem.W.specialIn K (.ref p_uses) "__get__" = some (some (.builtin "property.__get__")))
    (pt_uses : PySem.W.takesIn K (.ref p_uses) = some true)
    (pr_uses : PySem.W.recIn K p_uses "property" = some (.ref g_uses :: rest_uses))
    (lPuses : K.lookup g_uses = some ⟨ocPuses, odPuses, .func (PySem.W.fnOf "uses" "Deed.uses" (defArgs s_Deed_uses) (defBody s_Deed_uses) (defScope s_Deed_uses) .none kVPuses dcPuses pmPuses anPuses cdPuses ctPuses), slPuses⟩)
    (cPuses : PySem.W.codeIn K cdPuses "Deed.uses" = true)
    (kPuses : PySem.W.keepIn K (.ref g_uses) = true)
    (pa_makes : PySem.W.findIn K (.ref CD) "makes" = some (some (.ref p_makes)))
    (pg_makes : PySem.W.specialIn K (.ref p_makes) "__get__" = some (some (.builtin "property.__get__")))
    (pt_makes : PySem.W.takesIn K (.ref p_makes) = some true)
    (pr_makes : PySem.W.recIn K p_makes "property" = some (.ref g_makes :: rest_makes))
    (lPmakes : K.lookup g_makes = some ⟨ocPmakes, odPmakes, .func (PySem.W.fnOf "makes" "Deed.makes" (defArgs s_Deed_makes) (defBody s_Deed_makes) (defScope s_Deed_makes) .none kVPmakes dcPmakes pmPmakes anPmakes cdPmakes ctPmakes), slPmakes⟩)
    (cPmakes : PySem.W.codeIn K cdPmakes "Deed.makes" = true)
    (kPmakes : PySem.W.keepIn K (.ref g_makes) = true)
    (pa_names : PySem.W.findIn K (.ref CD) "names" = some (some (.ref p_names)))
    (pg_names : PySem.W.specialIn K (.ref p_names) "__get__" = some (some (.builtin "property.__get__")))
    (pt_names : PySem.W.takesIn K (.ref p_names) = some true)
    (pr_names : PySem.W.recIn K p_names "property" = some (.ref g_names :: rest_names))
    (lPnames : K.lookup g_names = some ⟨ocPnames, odPnames, .func (PySem.W.fnOf "names" "Deed.names" (defArgs s_Deed_names) (defBody s_Deed_names) (defScope s_Deed_names) .none kVPnames dcPnames pmPnames anPnames cdPnames ctPnames), slPnames⟩)
    (cPnames : PySem.W.codeIn K cdPnames "Deed.names" = true)
    (kPnames : PySem.W.keepIn K (.ref g_names) = true)
    (pa_room : PySem.W.findIn K (.ref CD) "room" = some (some (.ref p_room)))
    (pg_room : PySem.W.specialIn K (.ref p_room) "__get__" = some (some (.builtin "property.__get__")))
    (pt_room : PySem.W.takesIn K (.ref p_room) = some true)
    (pr_room : PySem.W.recIn K p_room "property" = some (.ref g_room :: rest_room))
    (lProom : K.lookup g_room = some ⟨ocProom, odProom, .func (PySem.W.fnOf "room" "Deed.room" (defArgs s_Deed_room) (defBody s_Deed_room) (defScope s_Deed_room) .none kVProom dcProom pmProom anProom cdProom ctProom), slProom⟩)
    (cProom : PySem.W.codeIn K cdProom "Deed.room" = true)
    (kProom : PySem.W.keepIn K (.ref g_room) = true)
    (gU_ : PySem.W.nsIn K mainGlobals "Use" = some (some (.ref CU)))
    (pgU : PySem.W.plainGet K CU Str.empty = true)
    (hdU : PySem.W.hasDictIn K CU = true)
    (poU : PySem.W.plainOver K CU = true)
    (saU : PySem.W.findIn K (.ref CU) "__setattr__" = some (some (.builtin "object.__setattr__")))
    (nU_used_names : PySem.W.findIn K (.ref CU) "used_names" = some none)
    (nU_made_names : PySem.W.findIn K (.ref CU) "made_names" = some none)
    (haU : PySem.W.findIn K (.ref CU) "__class__" = some (some (.builtin "object.__class__")))
    (hmU : PySem.W.mroIn K CU (.type "object") = some true)
    (mkU : PySem.W.makesIn K CU = true)
    (inU : PySem.W.findIn K (.ref CU) "__init__" = some (some (.ref fU_)))
    (fnU : PySem.W.isFn K (.ref fU_) = true)
    (kpU : PySem.W.keepIn K (.ref CU) = true)
    (lIU : K.lookup fU_ = some ⟨ocIU, odIU, .func (PySem.W.fnOf "__init__" "Use.__init__" (defArgs s_Use_init) (defBody s_Use_init) (defScope s_Use_init) .none kVIU dcIU pmIU anIU cdIU ctIU), slIU⟩)
    (cIU : PySem.W.codeIn K cdIU "Use.__init__" = true)
    (kIU : PySem.W.keepIn K (.ref fU_) = true)
    (stU : PySem.W.findIn K (.ref CU) "__str__" = some (some (.ref fS)))
    (eqU : PySem.W.findIn K (.ref CU) "__eq__" = some (some (.ref fE)))
    (neU : PySem.W.findIn K (.ref CU) "__ne__" = some (some (.builtin "object.__ne__")))
    (pU_uses : PySem.W.findIn K (.ref CU) "uses" = some (some (.ref p_uses)))
    (pU_makes : PySem.W.findIn K (.ref CU) "makes" = some (some (.ref p_makes)))
    (pU_names : PySem.W.findIn K (.ref CU) "names" = some (some (.ref p_names)))
    (pU_room : PySem.W.findIn K (.ref CU) "room" = some (some (.ref p_room)))
    (nfsU : PySem.W.notFirst K CU (.type "str") = true)
    (nftU : PySem.W.notFirst K CU (.type "tuple") = true)
    (kDU : PySem.W.kitOne K (.ref CU) (.ref CD) = some true)
    (gM_ : PySem.W.nsIn K mainGlobals "Make" = some (some (.ref CM)))
    (pgM : PySem.W.plainGet K CM Str.empty = true)
    (hdM : PySem.W.hasDictIn K CM = true)
    (poM : PySem.W.plainOver K CM = true)
    (saM : PySem.W.findIn K (.ref CM) "__setattr__" = some (some (.builtin "object.__setattr__")))
    (nM_used_names : PySem.W.findIn K (.ref CM) "used_names" = some none)
    (nM_made_names : PySem.W.findIn K (.ref CM) "made_names" = some none)
    (haM : PySem.W.findIn K (.ref CM) "__class__" = some (some (.builtin "object.__class__")))
    (hmM : PySem.W.mroIn K CM (.type "object") = some true)
    (mkM : PySem.W.makesIn K CM = true)
    (inM : PySem.W.findIn K (.ref CM) "__init__" = some (some (.ref fM_)))
    (fnM : PySem.W.isFn K (.ref fM_) = true)
    (kpM : PySem.W.keepIn K (.ref CM) = true)
    (lIM : K.lookup fM_ = some ⟨ocIM, odIM, .func (PySem.W.fnOf "__init__" "Make.__init__" (defArgs s_Make_init) (defBody s_Make_init) (defScope s_Make_init) .none kVIM dcIM pmIM anIM cdIM ctIM), slIM⟩)
    (cIM : PySem.W.codeIn K cdIM "Make.__init__" = true)
    (kIM : PySem.W.keepIn K (.ref fM_) = true)
    (stM : PySem.W.findIn K (.ref CM) "__str__" = some (some (.ref fS)))
    (eqM : PySem.W.findIn K (.ref CM) "__eq__" = some (some (.ref fE)))
    (neM : PySem.W.findIn K (.ref CM) "__ne__" = some (some (.builtin "object.__ne__")))
    (pM_uses : PySem.W.findIn K (.ref CM) "uses" = some (some (.ref p_uses)))
    (pM_makes : PySem.W.findIn K (.ref CM) "makes" = some (some (.ref p_makes)))
    (pM_names : PySem.W.findIn K (.ref CM) "names" = some (some (.ref p_names)))
    (pM_room : PySem.W.findIn K (.ref CM) "room" = some (some (.ref p_room)))
    (nfsM : PySem.W.notFirst K CM (.type "str") = true)
    (nftM : PySem.W.notFirst K CM (.type "tuple") = true)
    (kDM : PySem.W.kitOne K (.ref CM) (.ref CD) = some true)
    (gO_ : PySem.W.nsIn K mainGlobals "Do" = some (some (.ref CO)))
    (pgO : PySem.W.plainGet K CO Str.empty = true)
    (hdO : PySem.W.hasDictIn K CO = true)
    (poO : PySem.W.plainOver K CO = true)
    (saO : PySem.W.findIn K (.ref CO) "__setattr__" = some (some (.builtin "object.__setattr__")))
    (nO_used_names : PySem.W.findIn K (.ref CO) "used_names" = some none)
    (nO_made_names : PySem.W.findIn K (.ref CO) "made_names" = some none)
    (haO : PySem.W.findIn K (.ref CO) "__class__" = some (some (.builtin "object.__class__")))
    (hmO : PySem.W.mroIn K CO (.type "object") = some true)
    (mkO : PySem.W.makesIn K CO = true)
    (inO : PySem.W.findIn K (.ref CO) "__init__" = some (some (.ref fO_)))
    (fnO : PySem.W.isFn K (.ref fO_) = true)
    (kpO : PySem.W.keepIn K (.ref CO) = true)
    (lIO : K.lookup fO_ = some ⟨ocIO, odIO, .func (PySem.W.fnOf "__init__" "Do.__init__" (defArgs s_Do_init) (defBody s_Do_init) (defScope s_Do_init) .none kVIO dcIO pmIO anIO cdIO ctIO), slIO⟩)
    (cIO : PySem.W.codeIn K cdIO "Do.__init__" = true)
    (kIO : PySem.W.keepIn K (.ref fO_) = true)
    (stO : PySem.W.findIn K (.ref CO) "__str__" = some (some (.ref fS)))
    (eqO : PySem.W.findIn K (.ref CO) "__eq__" = some (some (.ref fE)))
    (neO : PySem.W.findIn K (.ref CO) "__ne__" = some (some (.builtin "object.__ne__")))
    (pO_uses : PySem.W.findIn K (.ref CO) "uses" = some (some (.ref p_uses)))
    (pO_makes : PySem.W.findIn K (.ref CO) "makes" = some (some (.ref p_makes)))
    (pO_names : PySem.W.findIn K (.ref CO) "names" = some (some (.ref p_names)))
    (pO_room : PySem.W.findIn K (.ref CO) "room" = some (some (.ref p_room)))
    (nfsO : PySem.W.notFirst K CO (.type "str") = true)
    (nftO : PySem.W.notFirst K CO (.type "tuple") = true)
    (kDO : PySem.W.kitOne K (.ref CO) (.ref CD) = some true)
    (kUU_ : PySem.W.kitOne K (.ref CU) (.ref CU) = some true)
    (kUM_ : PySem.W.kitOne K (.ref CU) (.ref CM) = some false)
    (kUO_ : PySem.W.kitOne K (.ref CU) (.ref CO) = some false)
    (nfUU : PySem.W.notFirst K CU (.ref CU) = true)
    (nfUM : PySem.W.notFirst K CU (.ref CM) = true)
    (kMU_ : PySem.W.kitOne K (.ref CM) (.ref CU) = some false)
    (kMM_ : PySem.W.kitOne K (.ref CM) (.ref CM) = some true)
    (kMO_ : PySem.W.kitOne K (.ref CM) (.ref CO) = some false)
    (nfMU : PySem.W.notFirst K CM (.ref CU) = true)
    (nfMM : PySem.W.notFirst K CM (.ref CM) = true)
    (kOU_ : PySem.W.kitOne K (.ref CO) (.ref CU) = some true)
    (kOM_ : PySem.W.kitOne K (.ref CO) (.ref CM) = some true)
    (kOO_ : PySem.W.kitOne K (.ref CO) (.ref CO) = some true)
    (nfOU : PySem.W.notFirst K CO (.ref CU) = true)
    (nfOM : PySem.W.notFirst K CO (.ref CM) = true)
    (nfOO : PySem.W.notFirst K CO (.ref CO) = true)
    (sOU : PySem.W.subIn K (.ref CO) (.ref CU) = some true)
    (sOM : PySem.W.subIn K (.ref CO) (.ref CM) = some true)
    (dOU : CO ≠ CU)
    (dOM : CO ≠ CM)
    (kS_ : PySem.W.kitOne K (.type "str") (.ref CD) = some false)
    (kT_ : PySem.W.kitOne K (.type "tuple") (.ref CD) = some false)
    (ty_D : PySem.W.typeIn K (.ref CD) = some mk_D)
    (rd_D : PySem.W.readsIn K CD mk_D = true)
    (ga_D : PySem.W.specialIn K (.ref CD) "__getattribute__" = some (some (.builtin "type.__getattribute__")))
    (mo_D : PySem.W.findCls K (.ref CD) mk_D "MOST" = some (.val (.int 3 tk_D)))
    (ty_U : PySem.W.typeIn K (.ref CU) = some mk_U)
    (rd_U : PySem.W.readsIn K CU mk_U = true)
    (ga_U : PySem.W.specialIn K (.ref CU) "__getattribute__" = some (some (.builtin "type.__getattribute__")))
    (mo_U : PySem.W.findCls K (.ref CU) mk_U "MOST" = some (.val (.int 3 tk_U)))
    (ty_M : PySem.W.typeIn K (.ref CM) = some mk_M)
    (rd_M : PySem.W.readsIn K CM mk_M = true)
    (ga_M : PySem.W.specialIn K (.ref CM) "__getattribute__" = some (some (.builtin "type.__getattribute__")))
    (mo_M : PySem.W.findCls K (.ref CM) mk_M "MOST" = some (.val (.int 3 tk_M)))
    (ty_O : PySem.W.typeIn K (.ref CO) = some mk_O)
    (rd_O : PySem.W.readsIn K CO mk_O = true)
    (ga_O : PySem.W.specialIn K (.ref CO) "__getattribute__" = some (some (.builtin "type.__getattribute__")))
    (mo_O : PySem.W.findCls K (.ref CO) mk_O "MOST" = some (.val (.int 3 tk_O)))
    (a_is_name : PySem.W.nsIn K mainGlobals "is_name" = some (some (.ref f_is_name)))
    (l_is_name : K.lookup f_is_name = some ⟨oc_is_name, od_is_name, .func (PySem.W.fnOf "is_name" "is_name" (defArgs s_is_name) (defBody s_is_name) (defScope s_is_name) .none kV_is_name dc_is_name pm_is_name an_is_name cd_is_name ct_is_name), sl_is_name⟩)
    (c_is_name : PySem.W.codeIn K cd_is_name "is_name" = true)
    (k_is_name : PySem.W.keepIn K (.ref f_is_name) = true)
    (a_need_names : PySem.W.nsIn K mainGlobals "need_names" = some (some (.ref f_need_names)))
    (l_need_names : K.lookup f_need_names = some ⟨oc_need_names, od_need_names, .func (PySem.W.fnOf "need_names" "need_names" (defArgs s_need_names) (defBody s_need_names) (defScope s_need_names) .none kV_need_names dc_need_names pm_need_names an_need_names cd_need_names ct_need_names), sl_need_names⟩)
    (c_need_names : PySem.W.codeIn K cd_need_names "need_names" = true)
    (k_need_names : PySem.W.keepIn K (.ref f_need_names) = true)
    (a_need_used : PySem.W.nsIn K mainGlobals "need_used" = some (some (.ref f_need_used)))
    (l_need_used : K.lookup f_need_used = some ⟨oc_need_used, od_need_used, .func (PySem.W.fnOf "need_used" "need_used" (defArgs s_need_used) (defBody s_need_used) (defScope s_need_used) .none kV_need_used dc_need_used pm_need_used an_need_used cd_need_used ct_need_used), sl_need_used⟩)
    (c_need_used : PySem.W.codeIn K cd_need_used "need_used" = true)
    (k_need_used : PySem.W.keepIn K (.ref f_need_used) = true)
    (a_need_name : PySem.W.nsIn K mainGlobals "need_name" = some (some (.ref f_need_name)))
    (l_need_name : K.lookup f_need_name = some ⟨oc_need_name, od_need_name, .func (PySem.W.fnOf "need_name" "need_name" (defArgs s_need_name) (defBody s_need_name) (defScope s_need_name) .none kV_need_name dc_need_name pm_need_name an_need_name cd_need_name ct_need_name), sl_need_name⟩)
    (c_need_name : PySem.W.codeIn K cd_need_name "need_name" = true)
    (k_need_name : PySem.W.keepIn K (.ref f_need_name) = true)
    (a_ascending : PySem.W.nsIn K mainGlobals "ascending" = some (some (.ref f_ascending)))
    (l_ascending : K.lookup f_ascending = some ⟨oc_ascending, od_ascending, .func (PySem.W.fnOf "ascending" "ascending" (defArgs s_ascending) (defBody s_ascending) (defScope s_ascending) .none kV_ascending dc_ascending pm_ascending an_ascending cd_ascending ct_ascending), sl_ascending⟩)
    (c_ascending : PySem.W.codeIn K cd_ascending "ascending" = true)
    (k_ascending : PySem.W.keepIn K (.ref f_ascending) = true)
    (a_is_deed_row : PySem.W.nsIn K mainGlobals "is_deed_row" = some (some (.ref f_is_deed_row)))
    (l_is_deed_row : K.lookup f_is_deed_row = some ⟨oc_is_deed_row, od_is_deed_row, .func (PySem.W.fnOf "is_deed_row" "is_deed_row" (defArgs s_is_deed_row) (defBody s_is_deed_row) (defScope s_is_deed_row) .none kV_is_deed_row dc_is_deed_row pm_is_deed_row an_is_deed_row cd_is_deed_row ct_is_deed_row), sl_is_deed_row⟩)
    (c_is_deed_row : PySem.W.codeIn K cd_is_deed_row "is_deed_row" = true)
    (k_is_deed_row : PySem.W.keepIn K (.ref f_is_deed_row) = true)
    (a__law_pen : PySem.W.nsIn K mainGlobals "_law_pen" = some (some (.ref f__law_pen)))
    (l__law_pen : K.lookup f__law_pen = some ⟨oc__law_pen, od__law_pen, .func (PySem.W.fnOf "_law_pen" "_law_pen" (defArgs s__law_pen) (defBody s__law_pen) (defScope s__law_pen) .none kV__law_pen dc__law_pen pm__law_pen an__law_pen cd__law_pen ct__law_pen), sl__law_pen⟩)
    (c__law_pen : PySem.W.codeIn K cd__law_pen "_law_pen" = true)
    (k__law_pen : PySem.W.keepIn K (.ref f__law_pen) = true)
    (a__law_draw : PySem.W.nsIn K mainGlobals "_law_draw" = some (some (.ref f__law_draw)))
    (l__law_draw : K.lookup f__law_draw = some ⟨oc__law_draw, od__law_draw, .func (PySem.W.fnOf "_law_draw" "_law_draw" (defArgs s__law_draw) (defBody s__law_draw) (defScope s__law_draw) .none kV__law_draw dc__law_draw pm__law_draw an__law_draw cd__law_draw ct__law_draw), sl__law_draw⟩)
    (c__law_draw : PySem.W.codeIn K cd__law_draw "_law_draw" = true)
    (k__law_draw : PySem.W.keepIn K (.ref f__law_draw) = true)
    (a__law_pick : PySem.W.nsIn K mainGlobals "_law_pick" = some (some (.ref f__law_pick)))
    (l__law_pick : K.lookup f__law_pick = some ⟨oc__law_pick, od__law_pick, .func (PySem.W.fnOf "_law_pick" "_law_pick" (defArgs s__law_pick) (defBody s__law_pick) (defScope s__law_pick) .none kV__law_pick dc__law_pick pm__law_pick an__law_pick cd__law_pick ct__law_pick), sl__law_pick⟩)
    (c__law_pick : PySem.W.codeIn K cd__law_pick "_law_pick" = true)
    (k__law_pick : PySem.W.keepIn K (.ref f__law_pick) = true)
    (a__law_some : PySem.W.nsIn K mainGlobals "_law_some" = some (some (.ref f__law_some)))
    (l__law_some : K.lookup f__law_some = some ⟨oc__law_some, od__law_some, .func (PySem.W.fnOf "_law_some" "_law_some" (defArgs s__law_some) (defBody s__law_some) (defScope s__law_some) .none kV__law_some dc__law_some pm__law_some an__law_some cd__law_some ct__law_some), sl__law_some⟩)
    (c__law_some : PySem.W.codeIn K cd__law_some "_law_some" = true)
    (k__law_some : PySem.W.keepIn K (.ref f__law_some) = true)
    (a__law_names : PySem.W.nsIn K mainGlobals "_law_names" = some (some (.ref f__law_names)))
    (l__law_names : K.lookup f__law_names = some ⟨oc__law_names, od__law_names, .func (PySem.W.fnOf "_law_names" "_law_names" (defArgs s__law_names) (defBody s__law_names) (defScope s__law_names) .none kV__law_names dc__law_names pm__law_names an__law_names cd__law_names ct__law_names), sl__law_names⟩)
    (c__law_names : PySem.W.codeIn K cd__law_names "_law_names" = true)
    (k__law_names : PySem.W.keepIn K (.ref f__law_names) = true)
    (a__law_real_deed : PySem.W.nsIn K mainGlobals "_law_real_deed" = some (some (.ref f__law_real_deed)))
    (l__law_real_deed : K.lookup f__law_real_deed = some ⟨oc__law_real_deed, od__law_real_deed, .func (PySem.W.fnOf "_law_real_deed" "_law_real_deed" (defArgs s__law_real_deed) (defBody s__law_real_deed) (defScope s__law_real_deed) .none kV__law_real_deed dc__law_real_deed pm__law_real_deed an__law_real_deed cd__law_real_deed ct__law_real_deed), sl__law_real_deed⟩)
    (c__law_real_deed : PySem.W.codeIn K cd__law_real_deed "_law_real_deed" = true)
    (k__law_real_deed : PySem.W.keepIn K (.ref f__law_real_deed) = true)
    (a__law_lot : PySem.W.nsIn K mainGlobals "_law_lot" = some (some (.ref f__law_lot)))
    (l__law_lot : K.lookup f__law_lot = some ⟨oc__law_lot, od__law_lot, .func (PySem.W.fnOf "_law_lot" "_law_lot" (defArgs s__law_lot) (defBody s__law_lot) (defScope s__law_lot) .none kV__law_lot dc__law_lot pm__law_lot an__law_lot cd__law_lot ct__law_lot), sl__law_lot⟩)
    (c__law_lot : PySem.W.codeIn K cd__law_lot "_law_lot" = true)
    (k__law_lot : PySem.W.keepIn K (.ref f__law_lot) = true)
    (a__law_text : PySem.W.nsIn K mainGlobals "_law_text" = some (some (.ref f__law_text)))
    (l__law_text : K.lookup f__law_text = some ⟨oc__law_text, od__law_text, .func (PySem.W.fnOf "_law_text" "_law_text" (defArgs s__law_text) (defBody s__law_text) (defScope s__law_text) .none kV__law_text dc__law_text pm__law_text an__law_text cd__law_text ct__law_text), sl__law_text⟩)
    (c__law_text : PySem.W.codeIn K cd__law_text "_law_text" = true)
    (k__law_text : PySem.W.keepIn K (.ref f__law_text) = true)
    (a__law_right : PySem.W.nsIn K mainGlobals "_law_right" = some (some (.ref f__law_right)))
    (l__law_right : K.lookup f__law_right = some ⟨oc__law_right, od__law_right, .func (PySem.W.fnOf "_law_right" "_law_right" (defArgs s__law_right) (defBody s__law_right) (defScope s__law_right) .none kV__law_right dc__law_right pm__law_right an__law_right cd__law_right ct__law_right), sl__law_right⟩)
    (c__law_right : PySem.W.codeIn K cd__law_right "_law_right" = true)
    (k__law_right : PySem.W.keepIn K (.ref f__law_right) = true)
    (a__law_odd : PySem.W.nsIn K mainGlobals "_law_odd" = some (some (.ref f__law_odd)))
    (l__law_odd : K.lookup f__law_odd = some ⟨oc__law_odd, od__law_odd, .func (PySem.W.fnOf "_law_odd" "_law_odd" (defArgs s__law_odd) (defBody s__law_odd) (defScope s__law_odd) .none kV__law_odd dc__law_odd pm__law_odd an__law_odd cd__law_odd ct__law_odd), sl__law_odd⟩)
    (c__law_odd : PySem.W.codeIn K cd__law_odd "_law_odd" = true)
    (k__law_odd : PySem.W.keepIn K (.ref f__law_odd) = true)
    (a__law_errors : PySem.W.nsIn K mainGlobals "_law_errors" = some (some (.ref f__law_errors)))
    (l__law_errors : K.lookup f__law_errors = some ⟨oc__law_errors, od__law_errors, .func (PySem.W.fnOf "_law_errors" "_law_errors" (defArgs s__law_errors) (defBody s__law_errors) (defScope s__law_errors) .none kV__law_errors dc__law_errors pm__law_errors an__law_errors cd__law_errors ct__law_errors), sl__law_errors⟩)
    (c__law_errors : PySem.W.codeIn K cd__law_errors "_law_errors" = true)
    (k__law_errors : PySem.W.keepIn K (.ref f__law_errors) = true)
    (a__law_field : PySem.W.nsIn K mainGlobals "_law_field" = some (some (.ref f__law_field)))
    (l__law_field : K.lookup f__law_field = some ⟨oc__law_field, od__law_field, .func (PySem.W.fnOf "_law_field" "_law_field" (defArgs s__law_field) (defBody s__law_field) (defScope s__law_field) .none kV__law_field dc__law_field pm__law_field an__law_field cd__law_field ct__law_field), sl__law_field⟩)
    (c__law_field : PySem.W.codeIn K cd__law_field "_law_field" = true)
    (k__law_field : PySem.W.keepIn K (.ref f__law_field) = true)
    (a__law_kinds : PySem.W.nsIn K mainGlobals "_law_kinds" = some (some (.ref f__law_kinds)))
    (l__law_kinds : K.lookup f__law_kinds = some ⟨oc__law_kinds, od__law_kinds, .func (PySem.W.fnOf "_law_kinds" "_law_kinds" (defArgs s__law_kinds) (defBody s__law_kinds) (defScope s__law_kinds) .none kV__law_kinds dc__law_kinds pm__law_kinds an__law_kinds cd__law_kinds ct__law_kinds), sl__law_kinds⟩)
    (c__law_kinds : PySem.W.codeIn K cd__law_kinds "_law_kinds" = true)
    (k__law_kinds : PySem.W.keepIn K (.ref f__law_kinds) = true)
    (a__law_errors_right : PySem.W.nsIn K mainGlobals "_law_errors_right" = some (some (.ref f__law_errors_right)))
    (l__law_errors_right : K.lookup f__law_errors_right = some ⟨oc__law_errors_right, od__law_errors_right, .func (PySem.W.fnOf "_law_errors_right" "_law_errors_right" (defArgs s__law_errors_right) (defBody s__law_errors_right) (defScope s__law_errors_right) .none kV__law_errors_right dc__law_errors_right pm__law_errors_right an__law_errors_right cd__law_errors_right ct__law_errors_right), sl__law_errors_right⟩)
    (c__law_errors_right : PySem.W.codeIn K cd__law_errors_right "_law_errors_right" = true)
    (k__law_errors_right : PySem.W.keepIn K (.ref f__law_errors_right) = true)
    (a_law : PySem.W.nsIn K mainGlobals "law" = some (some (.ref f_law)))
    (l_law : K.lookup f_law = some ⟨oc_law, od_law, .func (PySem.W.fnOf "law" "law" (defArgs s_law) (defBody s_law) (defScope s_law) .none kV_law dc_law pm_law an_law cd_law ct_law), sl_law⟩)
    (c_law : PySem.W.codeIn K cd_law "law" = true)
    (k_law : PySem.W.keepIn K (.ref f_law) = true) :
    LawG l w K CX0 11 63 "_law_script" mg fa h := by
  have e := hfa.symm.trans (PySem.W.mg_of X G a_law)
  cases e
  have CL_U : Cls K CU := ⟨pgU, hdU, poU, saU⟩
  have CL_M : Cls K CM := ⟨pgM, hdM, poM, saM⟩
  have CL_O : Cls K CO := ⟨pgO, hdO, poO, saO⟩
  subst eL
  have T : Tx K mg (ecOf (mkL C_BadName C_BadDeed C_BadMove C_BadNumber C_BadPrice C_BadPlace C_BadPart C_BadSlots C_BadStanding C_BadRule C_Twice C_TooMany C_Unmade C_MadeAgain C_NoRoom C_Crowded C_Barred C_BadPlan C_NoLoop C_HasLoop C_OneLoop C_TwoLoops C_Finished C_BadText C_BadLine)) CE CD CU CM CO tL tN tU := ⟨by
    intro x hx
    simp only [bns, List.mem_cons, List.not_mem_nil, or_false] at hx
    rcases hx with rfl | rfl | rfl | rfl | rfl | rfl | rfl | rfl | rfl | rfl | rfl | rfl | rfl | rfl | rfl | rfl | rfl | rfl | rfl | rfl
    · exact PySem.W.mg_none_of X G b0
    · exact PySem.W.mg_none_of X G b1
    · exact PySem.W.mg_none_of X G b2
    · exact PySem.W.mg_none_of X G b3
    · exact PySem.W.mg_none_of X G b4
    · exact PySem.W.mg_none_of X G b5
    · exact PySem.W.mg_none_of X G b6
    · exact PySem.W.mg_none_of X G b7
    · exact PySem.W.mg_none_of X G b8
    · exact PySem.W.mg_none_of X G b9
    · exact PySem.W.mg_none_of X G b10
    · exact PySem.W.mg_none_of X G b11
    · exact PySem.W.mg_none_of X G b12
    · exact PySem.W.mg_none_of X G b13
    · exact PySem.W.mg_none_of X G b14
    · exact PySem.W.mg_none_of X G b15
    · exact PySem.W.mg_none_of X G b16
    · exact PySem.W.mg_none_of X G b17
    · exact PySem.W.mg_none_of X G b18
    · exact PySem.W.mg_none_of X G b19, PySem.W.mg_of X G gL, PySem.W.mg_of X G gN, PySem.W.mg_of X G gMU, PySem.W.mg_of X G gCE, PySem.W.mg_of X G gD_, PySem.W.mg_of X G gU_, PySem.W.mg_of X G gM_, PySem.W.mg_of X G gO_, (by rw [ec_BadName]; exact PySem.W.mg_of X G g_BadName), (by rw [ec_BadDeed]; exact PySem.W.mg_of X G g_BadDeed), (by rw [ec_BadMove]; exact PySem.W.mg_of X G g_BadMove), (by rw [ec_BadNumber]; exact PySem.W.mg_of X G g_BadNumber), (by rw [ec_BadPrice]; exact PySem.W.mg_of X G g_BadPrice), (by rw [ec_BadPlace]; exact PySem.W.mg_of X G g_BadPlace), (by rw [ec_BadPart]; exact PySem.W.mg_of X G g_BadPart), (by rw [ec_BadSlots]; exact PySem.W.mg_of X G g_BadSlots), (by rw [ec_BadStanding]; exact PySem.W.mg_of X G g_BadStanding), (by rw [ec_BadRule]; exact PySem.W.mg_of X G g_BadRule), (by rw [ec_Twice]; exact PySem.W.mg_of X G g_Twice), (by rw [ec_TooMany]; exact PySem.W.mg_of X G g_TooMany), (by rw [ec_Unmade]; exact PySem.W.mg_of X G g_Unmade), (by rw [ec_MadeAgain]; exact PySem.W.mg_of X G g_MadeAgain), (by rw [ec_NoRoom]; exact PySem.W.mg_of X G g_NoRoom), (by rw [ec_Crowded]; exact PySem.W.mg_of X G g_Crowded), (by rw [ec_Barred]; exact PySem.W.mg_of X G g_Barred), (by rw [ec_BadPlan]; exact PySem.W.mg_of X G g_BadPlan), (by rw [ec_NoLoop]; exact PySem.W.mg_of X G g_NoLoop), (by rw [ec_HasLoop]; exact PySem.W.mg_of X G g_HasLoop), (by rw [ec_OneLoop]; exact PySem.W.mg_of X G g_OneLoop), (by rw [ec_TwoLoops]; exact PySem.W.mg_of X G g_TwoLoops), (by rw [ec_Finished]; exact PySem.W.mg_of X G g_Finished), (by rw [ec_BadText]; exact PySem.W.mg_of X G g_BadText), (by rw [ec_BadLine]; exact PySem.W.mg_of X G g_BadLine)⟩
  have hAll : ∀ c ∈ errNms, ErrC K CE ((ecOf (mkL C_BadName C_BadDeed C_BadMove C_BadNumber C_BadPrice C_BadPlace C_BadPart C_BadSlots C_BadStanding C_BadRule C_Twice C_TooMany C_Unmade C_MadeAgain C_NoRoom C_Crowded C_Barred C_BadPlan C_NoLoop C_HasLoop C_OneLoop C_TwoLoops C_Finished C_BadText C_BadLine)) c) := by
    intro c hc
    simp only [errNms, List.mem_cons, List.not_mem_nil, or_false] at hc
    rcases hc with rfl | rfl | rfl | rfl | rfl | rfl | rfl | rfl | rfl | rfl | rfl | rfl | rfl | rfl | rfl | rfl | rfl | rfl | rfl | rfl | rfl | rfl | rfl | rfl | rfl
    · rw [ec_BadName]
      exact ⟨e_BadName.mro, e_BadName.ty, e_BadName.exc hn htk⟩
    · rw [ec_BadDeed]
      exact ⟨e_BadDeed.mro, e_BadDeed.ty, e_BadDeed.exc hn htk⟩
    · rw [ec_BadMove]
      exact ⟨e_BadMove.mro, e_BadMove.ty, e_BadMove.exc hn htk⟩
    · rw [ec_BadNumber]
      exact ⟨e_BadNumber.mro, e_BadNumber.ty, e_BadNumber.exc hn htk⟩
    · rw [ec_BadPrice]
      exact ⟨e_BadPrice.mro, e_BadPrice.ty, e_BadPrice.exc hn htk⟩
    · rw [ec_BadPlace]
      exact ⟨e_BadPlace.mro, e_BadPlace.ty, e_BadPlace.exc hn htk⟩
    · rw [ec_BadPart]
      exact ⟨e_BadPart.mro, e_BadPart.ty, e_BadPart.exc hn htk⟩
    · rw [ec_BadSlots]
      exact ⟨e_BadSlots.mro, e_BadSlots.ty, e_BadSlots.exc hn htk⟩
    · rw [ec_BadStanding]
      exact ⟨e_BadStanding.mro, e_BadStanding.ty, e_BadStanding.exc hn htk⟩
    · rw [ec_BadRule]
      exact ⟨e_BadRule.mro, e_BadRule.ty, e_BadRule.exc hn htk⟩
    · rw [ec_Twice]
      exact ⟨e_Twice.mro, e_Twice.ty, e_Twice.exc hn htk⟩
    · rw [ec_TooMany]
      exact ⟨e_TooMany.mro, e_TooMany.ty, e_TooMany.exc hn htk⟩
    · rw [ec_Unmade]
      exact ⟨e_Unmade.mro, e_Unmade.ty, e_Unmade.exc hn htk⟩
    · rw [ec_MadeAgain]
      exact ⟨e_MadeAgain.mro, e_MadeAgain.ty, e_MadeAgain.exc hn htk⟩
    · rw [ec_NoRoom]
      exact ⟨e_NoRoom.mro, e_NoRoom.ty, e_NoRoom.exc hn htk⟩
    · rw [ec_Crowded]
      exact ⟨e_Crowded.mro, e_Crowded.ty, e_Crowded.exc hn htk⟩
    · rw [ec_Barred]
      exact ⟨e_Barred.mro, e_Barred.ty, e_Barred.exc hn htk⟩
    · rw [ec_BadPlan]
      exact ⟨e_BadPlan.mro, e_BadPlan.ty, e_BadPlan.exc hn htk⟩
    · rw [ec_NoLoop]
      exact ⟨e_NoLoop.mro, e_NoLoop.ty, e_NoLoop.exc hn htk⟩
    · rw [ec_HasLoop]
      exact ⟨e_HasLoop.mro, e_HasLoop.ty, e_HasLoop.exc hn htk⟩
    · rw [ec_OneLoop]
      exact ⟨e_OneLoop.mro, e_OneLoop.ty, e_OneLoop.exc hn htk⟩
    · rw [ec_TwoLoops]
      exact ⟨e_TwoLoops.mro, e_TwoLoops.ty, e_TwoLoops.exc hn htk⟩
    · rw [ec_Finished]
      exact ⟨e_Finished.mro, e_Finished.ty, e_Finished.exc hn htk⟩
    · rw [ec_BadText]
      exact ⟨e_BadText.mro, e_BadText.ty, e_BadText.exc hn htk⟩
    · rw [ec_BadLine]
      exact ⟨e_BadLine.mro, e_BadLine.ty, e_BadLine.exc hn htk⟩
  obtain ⟨nd1, nd2⟩ := List.nodup_cons.mp ndE
  have ecne : ∀ c ∈ errNms, (ecOf (mkL C_BadName C_BadDeed C_BadMove C_BadNumber C_BadPrice C_BadPlace C_BadPart C_BadSlots C_BadStanding C_BadRule C_Twice C_TooMany C_Unmade C_MadeAgain C_NoRoom C_Crowded C_Barred C_BadPlan C_NoLoop C_HasLoop C_OneLoop C_TwoLoops C_Finished C_BadText C_BadLine)) c ≠ CE := fun c hc z => nd1 (by rw [← z]; exact (show _ ∈ (mkL C_BadName C_BadDeed C_BadMove C_BadNumber C_BadPrice C_BadPlace C_BadPart C_BadSlots C_BadStanding C_BadRule C_Twice C_TooMany C_Unmade C_MadeAgain C_NoRoom C_Crowded C_Barred C_BadPlan C_NoLoop C_HasLoop C_OneLoop C_TwoLoops C_Finished C_BadText C_BadLine).map (·.2) from List.mem_map.mpr ⟨(c, _), ec_mem (by rw [ec_nms]; exact hc), rfl⟩))
  have ecinj : ∀ c ∈ errNms, ∀ n ∈ errNms, (ecOf (mkL C_BadName C_BadDeed C_BadMove C_BadNumber C_BadPrice C_BadPlace C_BadPart C_BadSlots C_BadStanding C_BadRule C_Twice C_TooMany C_Unmade C_MadeAgain C_NoRoom C_Crowded C_Barred C_BadPlan C_NoLoop C_HasLoop C_OneLoop C_TwoLoops C_Finished C_BadText C_BadLine)) c = (ecOf (mkL C_BadName C_BadDeed C_BadMove C_BadNumber C_BadPrice C_BadPlace C_BadPart C_BadSlots C_BadStanding C_BadRule C_Twice C_TooMany C_Unmade C_MadeAgain C_NoRoom C_Crowded C_Barred C_BadPlan C_NoLoop C_HasLoop C_OneLoop C_TwoLoops C_Finished C_BadText C_BadLine)) n → c = n := fun c hc n hm z => ec_one (L := mkL C_BadName C_BadDeed C_BadMove C_BadNumber C_BadPrice C_BadPlace C_BadPart C_BadSlots C_BadStanding C_BadRule C_Twice C_TooMany C_Unmade C_MadeAgain C_NoRoom C_Crowded C_Barred C_BadPlan C_NoLoop C_HasLoop C_OneLoop C_TwoLoops C_Finished C_BadText C_BadLine) nd2 (ec_mem (by rw [ec_nms]; exact hc)) (by rw [z]; exact ec_mem (by rw [ec_nms]; exact hm))
  have kEE : ∀ c ∈ errN, ∀ n ∈ errN, PySem.W.kitOne K (.ref ((ecOf (mkL C_BadName C_BadDeed C_BadMove C_BadNumber C_BadPrice C_BadPlace C_BadPart C_BadSlots C_BadStanding C_BadRule C_Twice C_TooMany C_Unmade C_MadeAgain C_NoRoom C_Crowded C_Barred C_BadPlan C_NoLoop C_HasLoop C_OneLoop C_TwoLoops C_Finished C_BadText C_BadLine)) c)) (.ref ((ecOf (mkL C_BadName C_BadDeed C_BadMove C_BadNumber C_BadPrice C_BadPlace C_BadPart C_BadSlots C_BadStanding C_BadRule C_Twice C_TooMany C_Unmade C_MadeAgain C_NoRoom C_Crowded C_Barred C_BadPlan C_NoLoop C_HasLoop C_OneLoop C_TwoLoops C_Finished C_BadText C_BadLine)) n)) = some (decide (c = n)) := fun c hc n hm => by
    rw [kit_own (hAll c (err_sub hc)).mro (hAll n (err_sub hm)).mro (hAll n (err_sub hm)).ty (ecne n (err_sub hm))]
    by_cases e : c = n
    · subst e
      rw [decide_eq_true rfl, decide_eq_true rfl]
    · rw [decide_eq_false e, decide_eq_false fun z => e (ecinj c (err_sub hc) n (err_sub hm) z)]
  have hEc : ∀ c ∈ errN, ExcC K ((ecOf (mkL C_BadName C_BadDeed C_BadMove C_BadNumber C_BadPrice C_BadPlace C_BadPart C_BadSlots C_BadStanding C_BadRule C_Twice C_TooMany C_Unmade C_MadeAgain C_NoRoom C_Crowded C_Barred C_BadPlan C_NoLoop C_HasLoop C_OneLoop C_TwoLoops C_Finished C_BadText C_BadLine)) c) := fun c hc => (hAll c (err_sub hc)).ex
  have ceS : (PySem.W.clsIn K CE).isSome = true := by rw [ceC]; rfl
  have hE : ∀ x ∈ errL, EcK K CE ((ecOf (mkL C_BadName C_BadDeed C_BadMove C_BadNumber C_BadPrice C_BadPlace C_BadPart C_BadSlots C_BadStanding C_BadRule C_Twice C_TooMany C_Unmade C_MadeAgain C_NoRoom C_Crowded C_Barred C_BadPlan C_NoLoop C_HasLoop C_OneLoop C_TwoLoops C_Finished C_BadText C_BadLine)) x.1) (x.2.map (·.1)) := by
    intro x hx
    have hc : x.1 ∈ errNms := err_sub (List.mem_map.mpr ⟨x, hx, rfl⟩)
    have h1 := hAll _ hc
    have h2 := ecne _ hc
    simp only [errL, List.mem_cons, List.not_mem_nil, or_false] at hx
    rcases hx with rfl | rfl | rfl | rfl | rfl | rfl | rfl | rfl | rfl | rfl | rfl | rfl | rfl | rfl | rfl | rfl | rfl | rfl | rfl | rfl | rfl | rfl | rfl | rfl | rfl
    · exact ecK_of h1 (fun _ => by dsimp only; rw [ec_BadName]; exact e_BadName.xf) (by dsimp only; rw [ec_BadName]; exact e_BadName.no) ceS ceT h2
    · exact ecK_of h1 (fun _ => by dsimp only; rw [ec_BadDeed]; exact e_BadDeed.xf) (by dsimp only; rw [ec_BadDeed]; exact e_BadDeed.no) ceS ceT h2
    · exact ecK_of h1 (fun _ => by dsimp only; rw [ec_BadMove]; exact e_BadMove.xf) (by dsimp only; rw [ec_BadMove]; exact e_BadMove.no) ceS ceT h2
    · exact ecK_of h1 (fun _ => by dsimp only; rw [ec_BadNumber]; exact e_BadNumber.xf) (by dsimp only; rw [ec_BadNumber]; exact e_BadNumber.no) ceS ceT h2
    · exact ecK_of h1 (fun _ => by dsimp only; rw [ec_BadPrice]; exact e_BadPrice.xf) (by dsimp only; rw [ec_BadPrice]; exact e_BadPrice.no) ceS ceT h2
    · exact ecK_of h1 (fun _ => by dsimp only; rw [ec_BadPlace]; exact e_BadPlace.xf) (by dsimp only; rw [ec_BadPlace]; exact e_BadPlace.no) ceS ceT h2
    · exact ecK_of h1 (fun _ => by dsimp only; rw [ec_BadPart]; exact e_BadPart.xf) (by dsimp only; rw [ec_BadPart]; exact e_BadPart.no) ceS ceT h2
    · exact ecK_of h1 (fun _ => by dsimp only; rw [ec_BadSlots]; exact e_BadSlots.xf) (by dsimp only; rw [ec_BadSlots]; exact e_BadSlots.no) ceS ceT h2
    · exact ecK_of h1 (fun _ => by dsimp only; rw [ec_BadStanding]; exact e_BadStanding.xf) (by dsimp only; rw [ec_BadStanding]; exact e_BadStanding.no) ceS ceT h2
    · exact ecK_of h1 (fun _ => by dsimp only; rw [ec_BadRule]; exact e_BadRule.xf) (by dsimp only; rw [ec_BadRule]; exact e_BadRule.no) ceS ceT h2
    · exact ecK_of h1 (fun _ => by dsimp only; rw [ec_Twice]; exact e_Twice.xf) (by dsimp only; rw [ec_Twice]; exact e_Twice.no) ceS ceT h2
    · exact ecK_of h1 (fun _ => by dsimp only; rw [ec_TooMany]; exact e_TooMany.xf) (by dsimp only; rw [ec_TooMany]; exact e_TooMany.no) ceS ceT h2
    · exact ecK_of h1 (fun _ => by dsimp only; rw [ec_Unmade]; exact e_Unmade.xf) (by dsimp only; rw [ec_Unmade]; exact e_Unmade.no) ceS ceT h2
    · exact ecK_of h1 (fun _ => by dsimp only; rw [ec_NoRoom]; exact e_NoRoom.xf) (by dsimp only; rw [ec_NoRoom]; exact e_NoRoom.no) ceS ceT h2
    · exact ecK_of h1 (fun _ => by dsimp only; rw [ec_MadeAgain]; exact e_MadeAgain.xf) (by dsimp only; rw [ec_MadeAgain]; exact e_MadeAgain.no) ceS ceT h2
    · exact ecK_of h1 (fun _ => by dsimp only; rw [ec_Crowded]; exact e_Crowded.xf) (by dsimp only; rw [ec_Crowded]; exact e_Crowded.no) ceS ceT h2
    · exact ecK_of h1 (fun _ => by dsimp only; rw [ec_Barred]; exact e_Barred.xf) (by dsimp only; rw [ec_Barred]; exact e_Barred.no) ceS ceT h2
    · exact ecK_of h1 (fun _ => by dsimp only; rw [ec_BadLine]; exact e_BadLine.xf) (by dsimp only; rw [ec_BadLine]; exact e_BadLine.no) ceS ceT h2
    · exact ecK_of h1 (fun _ => by dsimp only; rw [ec_BadPlan]; exact e_BadPlan.xf) (by dsimp only; rw [ec_BadPlan]; exact e_BadPlan.no) ceS ceT h2
    · exact ecK_of h1 (fun z => absurd rfl z) (fun _ z => nomatch z) ceS ceT h2
    · exact ecK_of h1 (fun z => absurd rfl z) (fun _ z => nomatch z) ceS ceT h2
    · exact ecK_of h1 (fun z => absurd rfl z) (fun _ z => nomatch z) ceS ceT h2
    · exact ecK_of h1 (fun z => absurd rfl z) (fun _ z => nomatch z) ceS ceT h2
    · exact ecK_of h1 (fun z => absurd rfl z) (fun _ z => nomatch z) ceS ceT h2
    · exact ecK_of h1 (fun _ => by dsimp only; rw [ec_BadText]; exact e_BadText.xf) (by dsimp only; rw [ec_BadText]; exact e_BadText.no) ceS ceT h2
  have CD_U : ClD K CU := ⟨CL_U, nU_used_names, nU_made_names⟩
  have CT_U : ClT K CD fS fE CU := ⟨CD_U, haU, hn, htk, hmU, kDU, stU, eqU⟩
  have FIU := fun_mk (st := s_Use_init) lIU cIU kIU
  have CD_M : ClD K CM := ⟨CL_M, nM_used_names, nM_made_names⟩
  have CT_M : ClT K CD fS fE CM := ⟨CD_M, haM, hn, htk, hmM, kDM, stM, eqM⟩
  have FIM := fun_mk (st := s_Make_init) lIM cIM kIM
  have CD_O : ClD K CO := ⟨CL_O, nO_used_names, nO_made_names⟩
  have CT_O : ClT K CD fS fE CO := ⟨CD_O, haO, hn, htk, hmO, kDO, stO, eqO⟩
  have FIO := fun_mk (st := s_Do_init) lIO cIO kIO
  have TC : ∀ d, ClT K CD fS fE (clsD CU CM CO d) := fun d => by
    obtain ⟨m, us⟩ := d
    cases m with
    | none => exact CT_U
    | some z => cases us with
      | nil => exact CT_M
      | cons u r => exact CT_O
  have TCd : ∀ d, ClD K (clsD CU CM CO d) := fun d => (TC d).cd
  have TK : ∀ d, Good d → KinT K CU CM CO (clsD CU CM CO d) d := fun d g => by
    obtain ⟨m, us⟩ := d
    cases m with
    | none => cases us with
      | nil => exact absurd rfl (g.ne rfl)
      | cons u r => exact ⟨kUU_, kUM_, kUO_, neU, nfUU, nfsU, nftU⟩
    | some z => cases us with
      | nil => exact ⟨kMU_, kMM_, kMO_, neM, nfMM, nfsM, nftM⟩
      | cons u r => exact ⟨kOU_, kOM_, kOO_, neO, nfOO, nfsO, nftO⟩
  have PK : PairK K CU CM CO := ⟨sOU, sOM, dOU, dOM, nfUM, nfMU, nfOU, nfOM⟩
  have hM : ∀ C ∈ [CD, CU, CM, CO], Most K C := by
    intro C hC
    simp only [List.mem_cons, List.not_mem_nil, or_false] at hC
    rcases hC with rfl | rfl | rfl | rfl
    · exact ⟨_, _, ⟨rd_D, ga_D⟩, ⟨mo_D, ⟨_, rfl⟩⟩⟩
    · exact ⟨_, _, ⟨rd_U, ga_U⟩, ⟨mo_U, ⟨_, rfl⟩⟩⟩
    · exact ⟨_, _, ⟨rd_M, ga_M⟩, ⟨mo_M, ⟨_, rfl⟩⟩⟩
    · exact ⟨_, _, ⟨rd_O, ga_O⟩, ⟨mo_O, ⟨_, rfl⟩⟩⟩
  have TP : ∀ C, InC CU CM CO C → Cls K C ∧ PropOf K C "uses" p_uses g_uses ∧ PropOf K C "makes" p_makes g_makes ∧ PropOf K C "names" p_names g_names ∧ PropOf K C "room" p_room g_room := by
    intro C hC
    rcases hC with rfl | rfl | rfl
    · exact ⟨CL_U, ⟨pU_uses, pg_uses, pt_uses, _, pr_uses⟩, ⟨pU_makes, pg_makes, pt_makes, _, pr_makes⟩, ⟨pU_names, pg_names, pt_names, _, pr_names⟩, ⟨pU_room, pg_room, pt_room, _, pr_room⟩⟩
    · exact ⟨CL_M, ⟨pM_uses, pg_uses, pt_uses, _, pr_uses⟩, ⟨pM_makes, pg_makes, pt_makes, _, pr_makes⟩, ⟨pM_names, pg_names, pt_names, _, pr_names⟩, ⟨pM_room, pg_room, pt_room, _, pr_room⟩⟩
    · exact ⟨CL_O, ⟨pO_uses, pg_uses, pt_uses, _, pr_uses⟩, ⟨pO_makes, pg_makes, pt_makes, _, pr_makes⟩, ⟨pO_names, pg_names, pt_names, _, pr_names⟩, ⟨pO_room, pg_room, pt_room, _, pr_room⟩⟩
  have FDI := fun_mk (st := s_Deed_init) lDI cDI kDI
  have BDI := FDI.binds (ps := ["self", "used", "made"]) fun _ _ _ _ _ _ us hl => match us, hl with | [_, _, _], _ => rfl
  have FR := fun_mk (st := s_Deed_read) lR cR kR
  have BR := FR.binds (ps := ["cls", "text"]) fun _ _ _ _ _ _ us hl => match us, hl with | [_, _], _ => rfl
  have FS := fun_mk (st := s_Deed_str) lS cS kS
  have BS := FS.binds (ps := ["self"]) fun _ _ _ _ _ _ us hl => match us, hl with | [_], _ => rfl
  have FE := fun_mk (st := s_Deed_eq) lE cE kE
  have BE := FE.binds (ps := ["self", "other"]) fun _ _ _ _ _ _ us hl => match us, hl with | [_, _], _ => rfl
  have FPuses := fun_mk (st := s_Deed_uses) lPuses cPuses kPuses
  have BPuses := FPuses.binds (ps := ["self"]) fun _ _ _ _ _ _ us hl => match us, hl with | [_], _ => rfl
  have FPmakes := fun_mk (st := s_Deed_makes) lPmakes cPmakes kPmakes
  have BPmakes := FPmakes.binds (ps := ["self"]) fun _ _ _ _ _ _ us hl => match us, hl with | [_], _ => rfl
  have FPnames := fun_mk (st := s_Deed_names) lPnames cPnames kPnames
  have BPnames := FPnames.binds (ps := ["self"]) fun _ _ _ _ _ _ us hl => match us, hl with | [_], _ => rfl
  have FProom := fun_mk (st := s_Deed_room) lProom cProom kProom
  have BProom := FProom.binds (ps := ["self"]) fun _ _ _ _ _ _ us hl => match us, hl with | [_], _ => rfl
  have BIM := FIM.binds (ps := ["self", "name"]) fun _ _ _ _ _ _ us hl => match us, hl with | [_, _], _ => rfl
  have F_is_name := fun_mk (st := s_is_name) l_is_name c_is_name k_is_name
  have B_is_name := F_is_name.binds (ps := ["value"]) fun _ _ _ _ _ _ us hl => match us, hl with | [_], _ => rfl
  have F_need_names := fun_mk (st := s_need_names) l_need_names c_need_names k_need_names
  have B_need_names := F_need_names.binds (ps := ["values"]) fun _ _ _ _ _ _ us hl => match us, hl with | [_], _ => rfl
  have F_need_used := fun_mk (st := s_need_used) l_need_used c_need_used k_need_used
  have B_need_used := F_need_used.binds (ps := ["names"]) fun _ _ _ _ _ _ us hl => match us, hl with | [_], _ => rfl
  have F_need_name := fun_mk (st := s_need_name) l_need_name c_need_name k_need_name
  have B_need_name := F_need_name.binds (ps := ["value"]) fun _ _ _ _ _ _ us hl => match us, hl with | [_], _ => rfl
  have F_ascending := fun_mk (st := s_ascending) l_ascending c_ascending k_ascending
  have B_ascending := F_ascending.binds (ps := ["names"]) fun _ _ _ _ _ _ us hl => match us, hl with | [_], _ => rfl
  have F_is_deed_row := fun_mk (st := s_is_deed_row) l_is_deed_row c_is_deed_row k_is_deed_row
  have B_is_deed_row := F_is_deed_row.binds (ps := ["words"]) fun _ _ _ _ _ _ us hl => match us, hl with | [_], _ => rfl
  have F__law_pen := fun_mk (st := s__law_pen) l__law_pen c__law_pen k__law_pen
  have B__law_pen := F__law_pen.binds (ps := ["_law_script"]) fun _ _ _ _ _ _ us hl => match us, hl with | [_], _ => rfl
  have F__law_draw := fun_mk (st := s__law_draw) l__law_draw c__law_draw k__law_draw
  have B__law_draw := F__law_draw.binds (ps := ["_law_pen_here", "_law_many"]) fun _ _ _ _ _ _ us hl => match us, hl with | [_, _], _ => rfl
  have F__law_pick := fun_mk (st := s__law_pick) l__law_pick c__law_pick k__law_pick
  have B__law_pick := F__law_pick.binds (ps := ["_law_pen_here", "_law_some_here"]) fun _ _ _ _ _ _ us hl => match us, hl with | [_, _], _ => rfl
  have F__law_some := fun_mk (st := s__law_some) l__law_some c__law_some k__law_some
  have B__law_some := F__law_some.binds (ps := ["_law_pen_here", "_law_pool", "_law_least", "_law_most"]) fun _ _ _ _ _ _ us hl => match us, hl with | [_, _, _, _], _ => rfl
  have F__law_names := fun_mk (st := s__law_names) l__law_names c__law_names k__law_names
  have B__law_names := F__law_names.binds (ps := ["_law_pen_here", "_law_many"]) fun _ _ _ _ _ _ us hl => match us, hl with | [_, _], _ => rfl
  have F__law_real_deed := fun_mk (st := s__law_real_deed) l__law_real_deed c__law_real_deed k__law_real_deed
  have B__law_real_deed := F__law_real_deed.binds (ps := ["_law_made", "_law_used"]) fun _ _ _ _ _ _ us hl => match us, hl with | [_, _], _ => rfl
  have F__law_lot := fun_mk (st := s__law_lot) l__law_lot c__law_lot k__law_lot
  have B__law_lot := F__law_lot.binds (ps := ["_law_pen_here", "_law_known"]) fun _ _ _ _ _ _ us hl => match us, hl with | [_, _], _ => rfl
  have F__law_text := fun_mk (st := s__law_text) l__law_text c__law_text k__law_text
  have B__law_text := F__law_text.binds (ps := ["_law_made", "_law_used"]) fun _ _ _ _ _ _ us hl => match us, hl with | [_, _], _ => rfl
  have F__law_right := fun_mk (st := s__law_right) l__law_right c__law_right k__law_right
  have B__law_right := F__law_right.binds (ps := ["_law_made", "_law_used"]) fun _ _ _ _ _ _ us hl => match us, hl with | [_, _], _ => rfl
  have F__law_odd := fun_mk (st := s__law_odd) l__law_odd c__law_odd k__law_odd
  have B__law_odd := F__law_odd.binds (ps := ["_law_pen_here"]) fun _ _ _ _ _ _ us hl => match us, hl with | [_], _ => rfl
  have F__law_errors := fun_mk (st := s__law_errors) l__law_errors c__law_errors k__law_errors
  have B__law_errors := F__law_errors.binds (ps := ["_law_a", "_law_b", "_law_c", "_law_d"]) fun _ _ _ _ _ _ us hl => match us, hl with | [_, _, _, _], _ => rfl
  have F__law_field := fun_mk (st := s__law_field) l__law_field c__law_field k__law_field
  have B__law_field := F__law_field.binds (ps := ["_law_error", "_law_sort"]) fun _ _ _ _ _ _ us hl => match us, hl with | [_, _], _ => rfl
  have F__law_kinds := fun_mk (st := s__law_kinds) l__law_kinds c__law_kinds k__law_kinds
  have B__law_kinds := F__law_kinds.binds (ps := ["_law_error"]) fun _ _ _ _ _ _ us hl => match us, hl with | [_], _ => rfl
  have F__law_errors_right := fun_mk (st := s__law_errors_right) l__law_errors_right c__law_errors_right k__law_errors_right
  have B__law_errors_right := F__law_errors_right.binds (ps := ["_law_pen_here"]) fun _ _ _ _ _ _ us hl => match us, hl with | [_], _ => rfl
  have F_law := fun_mk (st := s_law) l_law c_law k_law
  refine ⟨_, [], spLaw K, ?_, ?_, ?_, fun s u => .of_eq (fd := PySem.W.fnOf "law" "law" (defArgs s_law) (defBody s_law) (defScope s_law) .none kV_law dc_law pm_law an_law cd_law ct_law) rfl, ?_, ?_⟩
  · intro p hp
    cases hp
  · intro p hp
    cases hp
  · intro p hp
    cases hp
  · intro H a ns hl _ hH hS
    exact ⟨a, ns, rfl, hS, hl, fun _ => rfl⟩
  intro base _ _ TBs hsys
  have raw : ∀ {CX : CXT} {k : Nat} {f : Addr} {fd : FuncData} {ps : List Str} {sp : Sp}, FnOk l.prog w K mg base CX k f fd ps sp → Binds K fd ps [] → FnR l.prog w K mg base CX k f sp := fun {CX k f fd ps sp} F b => (F.raw b .nil).imp fun vs H Q E h => by rw [List.append_nil]; exact h
  have x_BadName : Xer l.prog w K mg base ((ecOf (mkL C_BadName C_BadDeed C_BadMove C_BadNumber C_BadPrice C_BadPlace C_BadPart C_BadSlots C_BadStanding C_BadRule C_Twice C_TooMany C_Unmade C_MadeAgain C_NoRoom C_Crowded C_Barred C_BadPlan C_NoLoop C_HasLoop C_OneLoop C_TwoLoops C_Finished C_BadText C_BadLine)) "BadName") "BadName" ["value"] := by
    rw [ec_BadName]
    obtain ⟨fI, cda, cc, fd, h1, h2, h3, h4, h5, h6⟩ := e_BadName.ex
    obtain ⟨oc, od, kV, doc, pm, an, ct, osl, rfl, lk, hcd⟩ := id h3.ex
    exact ⟨PySem.W.mg_of X G g_BadName, e_BadName.oex, fI, _, _, h1, h2, ok_BadName_init h3 (e_BadName.sup h4 h5 h6 (T.bn _ (by decide +kernel)) top_ any_) e_BadName.no, Binds.all fun us hl => match us, hl with | [_, _], _ => rfl⟩
  have x_BadDeed : Xer l.prog w K mg base ((ecOf (mkL C_BadName C_BadDeed C_BadMove C_BadNumber C_BadPrice C_BadPlace C_BadPart C_BadSlots C_BadStanding C_BadRule C_Twice C_TooMany C_Unmade C_MadeAgain C_NoRoom C_Crowded C_Barred C_BadPlan C_NoLoop C_HasLoop C_OneLoop C_TwoLoops C_Finished C_BadText C_BadLine)) "BadDeed") "BadDeed" ["value"] := by
    rw [ec_BadDeed]
    obtain ⟨fI, cda, cc, fd, h1, h2, h3, h4, h5, h6⟩ := e_BadDeed.ex
    obtain ⟨oc, od, kV, doc, pm, an, ct, osl, rfl, lk, hcd⟩ := id h3.ex
    exact ⟨PySem.W.mg_of X G g_BadDeed, e_BadDeed.oex, fI, _, _, h1, h2, ok_BadDeed_init h3 (e_BadDeed.sup h4 h5 h6 (T.bn _ (by decide +kernel)) top_ any_) e_BadDeed.no, Binds.all fun us hl => match us, hl with | [_, _], _ => rfl⟩
  have x_BadMove : Xer l.prog w K mg base ((ecOf (mkL C_BadName C_BadDeed C_BadMove C_BadNumber C_BadPrice C_BadPlace C_BadPart C_BadSlots C_BadStanding C_BadRule C_Twice C_TooMany C_Unmade C_MadeAgain C_NoRoom C_Crowded C_Barred C_BadPlan C_NoLoop C_HasLoop C_OneLoop C_TwoLoops C_Finished C_BadText C_BadLine)) "BadMove") "BadMove" ["value"] := by
    rw [ec_BadMove]
    obtain ⟨fI, cda, cc, fd, h1, h2, h3, h4, h5, h6⟩ := e_BadMove.ex
    obtain ⟨oc, od, kV, doc, pm, an, ct, osl, rfl, lk, hcd⟩ := id h3.ex
    exact ⟨PySem.W.mg_of X G g_BadMove, e_BadMove.oex, fI, _, _, h1, h2, ok_BadMove_init h3 (e_BadMove.sup h4 h5 h6 (T.bn _ (by decide +kernel)) top_ any_) e_BadMove.no, Binds.all fun us hl => match us, hl with | [_, _], _ => rfl⟩
  have x_BadNumber : Xer l.prog w K mg base ((ecOf (mkL C_BadName C_BadDeed C_BadMove C_BadNumber C_BadPrice C_BadPlace C_BadPart C_BadSlots C_BadStanding C_BadRule C_Twice C_TooMany C_Unmade C_MadeAgain C_NoRoom C_Crowded C_Barred C_BadPlan C_NoLoop C_HasLoop C_OneLoop C_TwoLoops C_Finished C_BadText C_BadLine)) "BadNumber") "BadNumber" ["value"] := by
    rw [ec_BadNumber]
    obtain ⟨fI, cda, cc, fd, h1, h2, h3, h4, h5, h6⟩ := e_BadNumber.ex
    obtain ⟨oc, od, kV, doc, pm, an, ct, osl, rfl, lk, hcd⟩ := id h3.ex
    exact ⟨PySem.W.mg_of X G g_BadNumber, e_BadNumber.oex, fI, _, _, h1, h2, ok_BadNumber_init h3 (e_BadNumber.sup h4 h5 h6 (T.bn _ (by decide +kernel)) top_ any_) e_BadNumber.no, Binds.all fun us hl => match us, hl with | [_, _], _ => rfl⟩
  have x_BadPrice : Xer l.prog w K mg base ((ecOf (mkL C_BadName C_BadDeed C_BadMove C_BadNumber C_BadPrice C_BadPlace C_BadPart C_BadSlots C_BadStanding C_BadRule C_Twice C_TooMany C_Unmade C_MadeAgain C_NoRoom C_Crowded C_Barred C_BadPlan C_NoLoop C_HasLoop C_OneLoop C_TwoLoops C_Finished C_BadText C_BadLine)) "BadPrice") "BadPrice" ["value"] := by
    rw [ec_BadPrice]
    obtain ⟨fI, cda, cc, fd, h1, h2, h3, h4, h5, h6⟩ := e_BadPrice.ex
    obtain ⟨oc, od, kV, doc, pm, an, ct, osl, rfl, lk, hcd⟩ := id h3.ex
    exact ⟨PySem.W.mg_of X G g_BadPrice, e_BadPrice.oex, fI, _, _, h1, h2, ok_BadPrice_init h3 (e_BadPrice.sup h4 h5 h6 (T.bn _ (by decide +kernel)) top_ any_) e_BadPrice.no, Binds.all fun us hl => match us, hl with | [_, _], _ => rfl⟩
  have x_BadPlace : Xer l.prog w K mg base ((ecOf (mkL C_BadName C_BadDeed C_BadMove C_BadNumber C_BadPrice C_BadPlace C_BadPart C_BadSlots C_BadStanding C_BadRule C_Twice C_TooMany C_Unmade C_MadeAgain C_NoRoom C_Crowded C_Barred C_BadPlan C_NoLoop C_HasLoop C_OneLoop C_TwoLoops C_Finished C_BadText C_BadLine)) "BadPlace") "BadPlace" ["value"] := by
    rw [ec_BadPlace]
    obtain ⟨fI, cda, cc, fd, h1, h2, h3, h4, h5, h6⟩ := e_BadPlace.ex
    obtain ⟨oc, od, kV, doc, pm, an, ct, osl, rfl, lk, hcd⟩ := id h3.ex
    exact ⟨PySem.W.mg_of X G g_BadPlace, e_BadPlace.oex, fI, _, _, h1, h2, ok_BadPlace_init h3 (e_BadPlace.sup h4 h5 h6 (T.bn _ (by decide +kernel)) top_ any_) e_BadPlace.no, Binds.all fun us hl => match us, hl with | [_, _], _ => rfl⟩
  have x_BadPart : Xer l.prog w K mg base ((ecOf (mkL C_BadName C_BadDeed C_BadMove C_BadNumber C_BadPrice C_BadPlace C_BadPart C_BadSlots C_BadStanding C_BadRule C_Twice C_TooMany C_Unmade C_MadeAgain C_NoRoom C_Crowded C_Barred C_BadPlan C_NoLoop C_HasLoop C_OneLoop C_TwoLoops C_Finished C_BadText C_BadLine)) "BadPart") "BadPart" ["part"] := by
    rw [ec_BadPart]
    obtain ⟨fI, cda, cc, fd, h1, h2, h3, h4, h5, h6⟩ := e_BadPart.ex
    obtain ⟨oc, od, kV, doc, pm, an, ct, osl, rfl, lk, hcd⟩ := id h3.ex
    exact ⟨PySem.W.mg_of X G g_BadPart, e_BadPart.oex, fI, _, _, h1, h2, ok_BadPart_init h3 (e_BadPart.sup h4 h5 h6 (T.bn _ (by decide +kernel)) top_ any_) e_BadPart.no, Binds.all fun us hl => match us, hl with | [_, _], _ => rfl⟩
  have x_BadSlots : Xer l.prog w K mg base ((ecOf (mkL C_BadName C_BadDeed C_BadMove C_BadNumber C_BadPrice C_BadPlace C_BadPart C_BadSlots C_BadStanding C_BadRule C_Twice C_TooMany C_Unmade C_MadeAgain C_NoRoom C_Crowded C_Barred C_BadPlan C_NoLoop C_HasLoop C_OneLoop C_TwoLoops C_Finished C_BadText C_BadLine)) "BadSlots") "BadSlots" ["value"] := by
    rw [ec_BadSlots]
    obtain ⟨fI, cda, cc, fd, h1, h2, h3, h4, h5, h6⟩ := e_BadSlots.ex
    obtain ⟨oc, od, kV, doc, pm, an, ct, osl, rfl, lk, hcd⟩ := id h3.ex
    exact ⟨PySem.W.mg_of X G g_BadSlots, e_BadSlots.oex, fI, _, _, h1, h2, ok_BadSlots_init h3 (e_BadSlots.sup h4 h5 h6 (T.bn _ (by decide +kernel)) top_ any_) e_BadSlots.no, Binds.all fun us hl => match us, hl with | [_, _], _ => rfl⟩
  have x_BadStanding : Xer l.prog w K mg base ((ecOf (mkL C_BadName C_BadDeed C_BadMove C_BadNumber C_BadPrice C_BadPlace C_BadPart C_BadSlots C_BadStanding C_BadRule C_Twice C_TooMany C_Unmade C_MadeAgain C_NoRoom C_Crowded C_Barred C_BadPlan C_NoLoop C_HasLoop C_OneLoop C_TwoLoops C_Finished C_BadText C_BadLine)) "BadStanding") "BadStanding" ["value"] := by
    rw [ec_BadStanding]
    obtain ⟨fI, cda, cc, fd, h1, h2, h3, h4, h5, h6⟩ := e_BadStanding.ex
    obtain ⟨oc, od, kV, doc, pm, an, ct, osl, rfl, lk, hcd⟩ := id h3.ex
    exact ⟨PySem.W.mg_of X G g_BadStanding, e_BadStanding.oex, fI, _, _, h1, h2, ok_BadStanding_init h3 (e_BadStanding.sup h4 h5 h6 (T.bn _ (by decide +kernel)) top_ any_) e_BadStanding.no, Binds.all fun us hl => match us, hl with | [_, _], _ => rfl⟩
  have x_BadRule : Xer l.prog w K mg base ((ecOf (mkL C_BadName C_BadDeed C_BadMove C_BadNumber C_BadPrice C_BadPlace C_BadPart C_BadSlots C_BadStanding C_BadRule C_Twice C_TooMany C_Unmade C_MadeAgain C_NoRoom C_Crowded C_Barred C_BadPlan C_NoLoop C_HasLoop C_OneLoop C_TwoLoops C_Finished C_BadText C_BadLine)) "BadRule") "BadRule" ["value"] := by
    rw [ec_BadRule]
    obtain ⟨fI, cda, cc, fd, h1, h2, h3, h4, h5, h6⟩ := e_BadRule.ex
    obtain ⟨oc, od, kV, doc, pm, an, ct, osl, rfl, lk, hcd⟩ := id h3.ex
    exact ⟨PySem.W.mg_of X G g_BadRule, e_BadRule.oex, fI, _, _, h1, h2, ok_BadRule_init h3 (e_BadRule.sup h4 h5 h6 (T.bn _ (by decide +kernel)) top_ any_) e_BadRule.no, Binds.all fun us hl => match us, hl with | [_, _], _ => rfl⟩
  have x_Twice : Xer l.prog w K mg base ((ecOf (mkL C_BadName C_BadDeed C_BadMove C_BadNumber C_BadPrice C_BadPlace C_BadPart C_BadSlots C_BadStanding C_BadRule C_Twice C_TooMany C_Unmade C_MadeAgain C_NoRoom C_Crowded C_Barred C_BadPlan C_NoLoop C_HasLoop C_OneLoop C_TwoLoops C_Finished C_BadText C_BadLine)) "Twice") "Twice" ["name"] := by
    rw [ec_Twice]
    obtain ⟨fI, cda, cc, fd, h1, h2, h3, h4, h5, h6⟩ := e_Twice.ex
    obtain ⟨oc, od, kV, doc, pm, an, ct, osl, rfl, lk, hcd⟩ := id h3.ex
    exact ⟨PySem.W.mg_of X G g_Twice, e_Twice.oex, fI, _, _, h1, h2, ok_Twice_init h3 (e_Twice.sup h4 h5 h6 (T.bn _ (by decide +kernel)) top_ any_) e_Twice.no, Binds.all fun us hl => match us, hl with | [_, _], _ => rfl⟩
  have x_TooMany : Xer l.prog w K mg base ((ecOf (mkL C_BadName C_BadDeed C_BadMove C_BadNumber C_BadPrice C_BadPlace C_BadPart C_BadSlots C_BadStanding C_BadRule C_Twice C_TooMany C_Unmade C_MadeAgain C_NoRoom C_Crowded C_Barred C_BadPlan C_NoLoop C_HasLoop C_OneLoop C_TwoLoops C_Finished C_BadText C_BadLine)) "TooMany") "TooMany" ["most"] := by
    rw [ec_TooMany]
    obtain ⟨fI, cda, cc, fd, h1, h2, h3, h4, h5, h6⟩ := e_TooMany.ex
    obtain ⟨oc, od, kV, doc, pm, an, ct, osl, rfl, lk, hcd⟩ := id h3.ex
    exact ⟨PySem.W.mg_of X G g_TooMany, e_TooMany.oex, fI, _, _, h1, h2, ok_TooMany_init h3 (e_TooMany.sup h4 h5 h6 (T.bn _ (by decide +kernel)) top_ any_) e_TooMany.no, Binds.all fun us hl => match us, hl with | [_, _], _ => rfl⟩
  have x_Unmade : Xer l.prog w K mg base ((ecOf (mkL C_BadName C_BadDeed C_BadMove C_BadNumber C_BadPrice C_BadPlace C_BadPart C_BadSlots C_BadStanding C_BadRule C_Twice C_TooMany C_Unmade C_MadeAgain C_NoRoom C_Crowded C_Barred C_BadPlan C_NoLoop C_HasLoop C_OneLoop C_TwoLoops C_Finished C_BadText C_BadLine)) "Unmade") "Unmade" ["place", "name"] := by
    rw [ec_Unmade]
    obtain ⟨fI, cda, cc, fd, h1, h2, h3, h4, h5, h6⟩ := e_Unmade.ex
    obtain ⟨oc, od, kV, doc, pm, an, ct, osl, rfl, lk, hcd⟩ := id h3.ex
    exact ⟨PySem.W.mg_of X G g_Unmade, e_Unmade.oex, fI, _, _, h1, h2, ok_Unmade_init h3 (e_Unmade.sup h4 h5 h6 (T.bn _ (by decide +kernel)) top_ any_) e_Unmade.no, Binds.all fun us hl => match us, hl with | [_, _, _], _ => rfl⟩
  have x_MadeAgain : Xer l.prog w K mg base ((ecOf (mkL C_BadName C_BadDeed C_BadMove C_BadNumber C_BadPrice C_BadPlace C_BadPart C_BadSlots C_BadStanding C_BadRule C_Twice C_TooMany C_Unmade C_MadeAgain C_NoRoom C_Crowded C_Barred C_BadPlan C_NoLoop C_HasLoop C_OneLoop C_TwoLoops C_Finished C_BadText C_BadLine)) "MadeAgain") "MadeAgain" ["place", "name"] := by
    rw [ec_MadeAgain]
    obtain ⟨fI, cda, cc, fd, h1, h2, h3, h4, h5, h6⟩ := e_MadeAgain.ex
    obtain ⟨oc, od, kV, doc, pm, an, ct, osl, rfl, lk, hcd⟩ := id h3.ex
    exact ⟨PySem.W.mg_of X G g_MadeAgain, e_MadeAgain.oex, fI, _, _, h1, h2, ok_MadeAgain_init h3 (e_MadeAgain.sup h4 h5 h6 (T.bn _ (by decide +kernel)) top_ any_) e_MadeAgain.no, Binds.all fun us hl => match us, hl with | [_, _, _], _ => rfl⟩
  have x_NoRoom : Xer l.prog w K mg base ((ecOf (mkL C_BadName C_BadDeed C_BadMove C_BadNumber C_BadPrice C_BadPlace C_BadPart C_BadSlots C_BadStanding C_BadRule C_Twice C_TooMany C_Unmade C_MadeAgain C_NoRoom C_Crowded C_Barred C_BadPlan C_NoLoop C_HasLoop C_OneLoop C_TwoLoops C_Finished C_BadText C_BadLine)) "NoRoom") "NoRoom" ["place"] := by
    rw [ec_NoRoom]
    obtain ⟨fI, cda, cc, fd, h1, h2, h3, h4, h5, h6⟩ := e_NoRoom.ex
    obtain ⟨oc, od, kV, doc, pm, an, ct, osl, rfl, lk, hcd⟩ := id h3.ex
    exact ⟨PySem.W.mg_of X G g_NoRoom, e_NoRoom.oex, fI, _, _, h1, h2, ok_NoRoom_init h3 (e_NoRoom.sup h4 h5 h6 (T.bn _ (by decide +kernel)) top_ any_) e_NoRoom.no, Binds.all fun us hl => match us, hl with | [_, _], _ => rfl⟩
  have x_Crowded : Xer l.prog w K mg base ((ecOf (mkL C_BadName C_BadDeed C_BadMove C_BadNumber C_BadPrice C_BadPlace C_BadPart C_BadSlots C_BadStanding C_BadRule C_Twice C_TooMany C_Unmade C_MadeAgain C_NoRoom C_Crowded C_Barred C_BadPlan C_NoLoop C_HasLoop C_OneLoop C_TwoLoops C_Finished C_BadText C_BadLine)) "Crowded") "Crowded" ["place"] := by
    rw [ec_Crowded]
    obtain ⟨fI, cda, cc, fd, h1, h2, h3, h4, h5, h6⟩ := e_Crowded.ex
    obtain ⟨oc, od, kV, doc, pm, an, ct, osl, rfl, lk, hcd⟩ := id h3.ex
    exact ⟨PySem.W.mg_of X G g_Crowded, e_Crowded.oex, fI, _, _, h1, h2, ok_Crowded_init h3 (e_Crowded.sup h4 h5 h6 (T.bn _ (by decide +kernel)) top_ any_) e_Crowded.no, Binds.all fun us hl => match us, hl with | [_, _], _ => rfl⟩
  have x_Barred : Xer l.prog w K mg base ((ecOf (mkL C_BadName C_BadDeed C_BadMove C_BadNumber C_BadPrice C_BadPlace C_BadPart C_BadSlots C_BadStanding C_BadRule C_Twice C_TooMany C_Unmade C_MadeAgain C_NoRoom C_Crowded C_Barred C_BadPlan C_NoLoop C_HasLoop C_OneLoop C_TwoLoops C_Finished C_BadText C_BadLine)) "Barred") "Barred" ["word", "name"] := by
    rw [ec_Barred]
    obtain ⟨fI, cda, cc, fd, h1, h2, h3, h4, h5, h6⟩ := e_Barred.ex
    obtain ⟨oc, od, kV, doc, pm, an, ct, osl, rfl, lk, hcd⟩ := id h3.ex
    exact ⟨PySem.W.mg_of X G g_Barred, e_Barred.oex, fI, _, _, h1, h2, ok_Barred_init h3 (e_Barred.sup h4 h5 h6 (T.bn _ (by decide +kernel)) top_ any_) e_Barred.no, Binds.all fun us hl => match us, hl with | [_, _, _], _ => rfl⟩
  have x_BadPlan : Xer l.prog w K mg base ((ecOf (mkL C_BadName C_BadDeed C_BadMove C_BadNumber C_BadPrice C_BadPlace C_BadPart C_BadSlots C_BadStanding C_BadRule C_Twice C_TooMany C_Unmade C_MadeAgain C_NoRoom C_Crowded C_Barred C_BadPlan C_NoLoop C_HasLoop C_OneLoop C_TwoLoops C_Finished C_BadText C_BadLine)) "BadPlan") "BadPlan" ["at", "index", "word", "name"] := by
    rw [ec_BadPlan]
    obtain ⟨fI, cda, cc, fd, h1, h2, h3, h4, h5, h6⟩ := e_BadPlan.ex
    obtain ⟨oc, od, kV, doc, pm, an, ct, osl, rfl, lk, hcd⟩ := id h3.ex
    exact ⟨PySem.W.mg_of X G g_BadPlan, e_BadPlan.oex, fI, _, _, h1, h2, ok_BadPlan_init h3 (e_BadPlan.sup h4 h5 h6 (T.bn _ (by decide +kernel)) top_ any_) e_BadPlan.no, Binds.all fun us hl => match us, hl with | [_, _, _, _, _], _ => rfl⟩
  have o_NoLoop : Xe0 K mg ((ecOf (mkL C_BadName C_BadDeed C_BadMove C_BadNumber C_BadPrice C_BadPlace C_BadPart C_BadSlots C_BadStanding C_BadRule C_Twice C_TooMany C_Unmade C_MadeAgain C_NoRoom C_Crowded C_Barred C_BadPlan C_NoLoop C_HasLoop C_OneLoop C_TwoLoops C_Finished C_BadText C_BadLine)) "NoLoop") "NoLoop" := by
    rw [ec_NoLoop]
    exact ⟨PySem.W.mg_of X G g_NoLoop, e_NoLoop.x, e_NoLoop.kp, e_NoLoop.mro.has _, e_NoLoop.ty⟩
  have o_HasLoop : Xe0 K mg ((ecOf (mkL C_BadName C_BadDeed C_BadMove C_BadNumber C_BadPrice C_BadPlace C_BadPart C_BadSlots C_BadStanding C_BadRule C_Twice C_TooMany C_Unmade C_MadeAgain C_NoRoom C_Crowded C_Barred C_BadPlan C_NoLoop C_HasLoop C_OneLoop C_TwoLoops C_Finished C_BadText C_BadLine)) "HasLoop") "HasLoop" := by
    rw [ec_HasLoop]
    exact ⟨PySem.W.mg_of X G g_HasLoop, e_HasLoop.x, e_HasLoop.kp, e_HasLoop.mro.has _, e_HasLoop.ty⟩
  have o_OneLoop : Xe0 K mg ((ecOf (mkL C_BadName C_BadDeed C_BadMove C_BadNumber C_BadPrice C_BadPlace C_BadPart C_BadSlots C_BadStanding C_BadRule C_Twice C_TooMany C_Unmade C_MadeAgain C_NoRoom C_Crowded C_Barred C_BadPlan C_NoLoop C_HasLoop C_OneLoop C_TwoLoops C_Finished C_BadText C_BadLine)) "OneLoop") "OneLoop" := by
    rw [ec_OneLoop]
    exact ⟨PySem.W.mg_of X G g_OneLoop, e_OneLoop.x, e_OneLoop.kp, e_OneLoop.mro.has _, e_OneLoop.ty⟩
  have o_TwoLoops : Xe0 K mg ((ecOf (mkL C_BadName C_BadDeed C_BadMove C_BadNumber C_BadPrice C_BadPlace C_BadPart C_BadSlots C_BadStanding C_BadRule C_Twice C_TooMany C_Unmade C_MadeAgain C_NoRoom C_Crowded C_Barred C_BadPlan C_NoLoop C_HasLoop C_OneLoop C_TwoLoops C_Finished C_BadText C_BadLine)) "TwoLoops") "TwoLoops" := by
    rw [ec_TwoLoops]
    exact ⟨PySem.W.mg_of X G g_TwoLoops, e_TwoLoops.x, e_TwoLoops.kp, e_TwoLoops.mro.has _, e_TwoLoops.ty⟩
  have o_Finished : Xe0 K mg ((ecOf (mkL C_BadName C_BadDeed C_BadMove C_BadNumber C_BadPrice C_BadPlace C_BadPart C_BadSlots C_BadStanding C_BadRule C_Twice C_TooMany C_Unmade C_MadeAgain C_NoRoom C_Crowded C_Barred C_BadPlan C_NoLoop C_HasLoop C_OneLoop C_TwoLoops C_Finished C_BadText C_BadLine)) "Finished") "Finished" := by
    rw [ec_Finished]
    exact ⟨PySem.W.mg_of X G g_Finished, e_Finished.x, e_Finished.kp, e_Finished.mro.has _, e_Finished.ty⟩
  have x_BadText : Xer l.prog w K mg base ((ecOf (mkL C_BadName C_BadDeed C_BadMove C_BadNumber C_BadPrice C_BadPlace C_BadPart C_BadSlots C_BadStanding C_BadRule C_Twice C_TooMany C_Unmade C_MadeAgain C_NoRoom C_Crowded C_Barred C_BadPlan C_NoLoop C_HasLoop C_OneLoop C_TwoLoops C_Finished C_BadText C_BadLine)) "BadText") "BadText" ["line", "word"] := by
    rw [ec_BadText]
    obtain ⟨fI, cda, cc, fd, h1, h2, h3, h4, h5, h6⟩ := e_BadText.ex
    obtain ⟨oc, od, kV, doc, pm, an, ct, osl, rfl, lk, hcd⟩ := id h3.ex
    exact ⟨PySem.W.mg_of X G g_BadText, e_BadText.oex, fI, _, _, h1, h2, ok_BadText_init h3 (e_BadText.sup h4 h5 h6 (T.bn _ (by decide +kernel)) top_ any_) e_BadText.no, Binds.all fun us hl => match us, hl with | [_, _, _], _ => rfl⟩
  have x_BadLine : Xer l.prog w K mg base ((ecOf (mkL C_BadName C_BadDeed C_BadMove C_BadNumber C_BadPrice C_BadPlace C_BadPart C_BadSlots C_BadStanding C_BadRule C_Twice C_TooMany C_Unmade C_MadeAgain C_NoRoom C_Crowded C_Barred C_BadPlan C_NoLoop C_HasLoop C_OneLoop C_TwoLoops C_Finished C_BadText C_BadLine)) "BadLine") "BadLine" ["word"] := by
    rw [ec_BadLine]
    obtain ⟨fI, cda, cc, fd, h1, h2, h3, h4, h5, h6⟩ := e_BadLine.ex
    obtain ⟨oc, od, kV, doc, pm, an, ct, osl, rfl, lk, hcd⟩ := id h3.ex
    exact ⟨PySem.W.mg_of X G g_BadLine, e_BadLine.oex, fI, _, _, h1, h2, ok_BadLine_init h3 (e_BadLine.sup h4 h5 h6 (T.bn _ (by decide +kernel)) top_ any_) e_BadLine.no, Binds.all fun us hl => match us, hl with | [_, _], _ => rfl⟩
  have c_is_name : Cal l.prog w K mg base CX0 1 "is_name" spName := ⟨_, PySem.W.mg_of X G a_is_name, k_is_name, raw (ok_name F_is_name T) B_is_name⟩
  have c_need_names : Cal l.prog w K mg base CX0 3 "need_names" (spNN K) := ⟨_, PySem.W.mg_of X G a_need_names, k_need_names, raw (ok_nn F_need_names T c_is_name) B_need_names⟩
  have c_need_used : Cal l.prog w K mg base CX0 4 "need_used" (spNU K) := ⟨_, PySem.W.mg_of X G a_need_used, k_need_used, raw (ok_nu F_need_used T c_need_names) B_need_used⟩
  have c_need_name : Cal l.prog w K mg base CX0 3 "need_name" spN1 := ⟨_, PySem.W.mg_of X G a_need_name, k_need_name, raw (ok_n1 F_need_name T c_is_name) B_need_name⟩
  have c_ascending : Cal l.prog w K mg base CX0 1 "ascending" spAsc := ⟨_, PySem.W.mg_of X G a_ascending, k_ascending, raw (ok_asc F_ascending T) B_ascending⟩
  have c_is_deed_row : Cal l.prog w K mg base CX0 2 "is_deed_row" spRow := ⟨_, PySem.W.mg_of X G a_is_deed_row, k_is_deed_row, raw (ok_drow F_is_deed_row T c_is_name) B_is_deed_row⟩
  have c_Deed_init : Clf l.prog w K mg base CX0 1 CD "__init__" (spDI K) := ⟨mc, fDI, ⟨rdM, gaM⟩, atDI, kDI, raw (ok_DI FDI T) BDI⟩
  have c_Use : Mkc l.prog w K mg base CX0 5 CU "Use" (spUse CU) := ⟨fU_, T.m_Use, ⟨mkU, inU, fnU, kpU⟩, ok_Use_init FIU T CD_U c_need_used c_Deed_init⟩
  have okM := ok_Make_init FIM T CD_M c_need_name c_Deed_init
  have c_Make : Mkc l.prog w K mg base CX0 5 CM "Make" (spMake CM) := ⟨fM_, T.m_Make, ⟨mkM, inM, fnM, kpM⟩, raw okM BIM⟩
  have c_Make_kw : MkcK l.prog w K mg base CX0 5 CM "Make" "name" (spMake CM) := ⟨fM_, _, T.m_Make, ⟨mkM, inM, fnM, kpM⟩, okM, kbn_self FIM fun _ _ _ _ _ _ _ _ => rfl⟩
  have c_Do : Mkc l.prog w K mg base CX0 5 CO "Do" (spDo CO) := ⟨fO_, T.m_Do, ⟨mkO, inO, fnO, kpO⟩, ok_Do_init FIO T CD_O c_need_name c_need_used⟩
  have okR := ok_read FR T c_is_deed_row c_Use c_Make c_Do
  have c_Deed_read : Clm l.prog w K mg base CX0 7 CD "read" (spRead (clsD CU CM CO)) := ⟨mc, pR, fR, ⟨rdM, gaM⟩, ⟨atR, ⟨_, rcR⟩, fiR⟩, raw okR BR⟩
  have c_Deed_read_kw : ClmK l.prog w K mg base CX0 7 CD "read" "text" (spRead (clsD CU CM CO)) := ⟨mc, pR, fR, _, _, ⟨rdM, gaM⟩, ⟨atR, ⟨_, rcR⟩, fiR⟩, okR, fun s u => .of_eq rfl⟩
  have rS : FnR l.prog w K mg base CX0 1 fS (spStr (clsD CU CM CO)) := raw (ok_str FS T TCd) BS
  have rE : FnR l.prog w K mg base CX0 4 fE (spEq (clsD CU CM CO) K CD) := raw (ok_eq FE T TC iS rS) BE
  have c_uses : Prp l.prog w K mg base CX0 1 (InC CU CM CO) "uses" (spUses (clsD CU CM CO)) := ⟨p_uses, g_uses, _, fun C h => ⟨(TP C h).1, (TP C h).2.1⟩, ok_uses FPuses T TCd, BPuses⟩
  have c_makes : Prp l.prog w K mg base CX0 1 (InC CU CM CO) "makes" (spMakes (clsD CU CM CO)) := ⟨p_makes, g_makes, _, fun C h => ⟨(TP C h).1, (TP C h).2.2.1⟩, ok_makes FPmakes T TCd, BPmakes⟩
  have c_names : Prp l.prog w K mg base CX0 2 (InC CU CM CO) "names" (spNames (clsD CU CM CO)) := ⟨p_names, g_names, _, fun C h => ⟨(TP C h).1, (TP C h).2.2.2.1⟩, ok_names FPnames T TCd c_ascending, BPnames⟩
  have c_room : Prp l.prog w K mg base CX0 2 (InC CU CM CO) "room" (spRoom (clsD CU CM CO)) := ⟨p_room, g_room, _, fun C h => ⟨(TP C h).1, (TP C h).2.2.2.2⟩, ok_room FProom T TCd c_ascending, BProom⟩
  have c__law_pen : Cal l.prog w K mg base CX0 1 "_law_pen" (spPen K) := ⟨_, PySem.W.mg_of X G a__law_pen, k__law_pen, raw (ok_pen F__law_pen T) B__law_pen⟩
  have c__law_draw : Cal l.prog w K mg base CX0 1 "_law_draw" spDraw := ⟨_, PySem.W.mg_of X G a__law_draw, k__law_draw, raw (ok_draw F__law_draw T) B__law_draw⟩
  have c__law_pick : Cal l.prog w K mg base CX0 2 "_law_pick" (spPick K) := ⟨_, PySem.W.mg_of X G a__law_pick, k__law_pick, raw (ok_pick F__law_pick T c__law_draw) B__law_pick⟩
  have c__law_some : Cal l.prog w K mg base CX0 2 "_law_some" spSome := ⟨_, PySem.W.mg_of X G a__law_some, k__law_some, raw (ok_some F__law_some T c__law_draw) B__law_some⟩
  have c__law_names : Cal l.prog w K mg base CX0 3 "_law_names" spLNames := ⟨_, PySem.W.mg_of X G a__law_names, k__law_names, raw (ok_lnames F__law_names T c__law_pick c__law_some) B__law_names⟩
  have c__law_real_deed : Cal l.prog w K mg base CX0 7 "_law_real_deed" (spReal (clsD CU CM CO)) := ⟨_, PySem.W.mg_of X G a__law_real_deed, k__law_real_deed, raw (ok_real F__law_real_deed T c_Use c_Make c_Do) B__law_real_deed⟩
  have c__law_lot : Cal l.prog w K mg base CX0 3 "_law_lot" spLot := ⟨_, PySem.W.mg_of X G a__law_lot, k__law_lot, raw (ok_lot F__law_lot T c__law_draw c__law_pick c__law_some) B__law_lot⟩
  have c__law_text : Cal l.prog w K mg base CX0 1 "_law_text" spLText := ⟨_, PySem.W.mg_of X G a__law_text, k__law_text, raw (ok_ltext F__law_text T) B__law_text⟩
  have c__law_right : CalG l.prog w K mg base CX0 10 "_law_right" spRight := ⟨_, _, _, PySem.W.mg_of X G a__law_right, k__law_right, B__law_right, ok_right F__law_right T TC TK kS_ kT_ hsys iS rS iE rE c_uses c_makes c_names c_room c_Deed_read c_Deed_read_kw c__law_real_deed c__law_text⟩
  have c__law_odd : Cal l.prog w K mg base CX0 3 "_law_odd" spOdd := ⟨_, PySem.W.mg_of X G a__law_odd, k__law_odd, raw (ok_odd F__law_odd T c__law_draw c__law_pick) B__law_odd⟩
  have c__law_errors : Cal l.prog w K mg base CX0 3 "_law_errors" (spErrs (ecOf (mkL C_BadName C_BadDeed C_BadMove C_BadNumber C_BadPrice C_BadPlace C_BadPart C_BadSlots C_BadStanding C_BadRule C_Twice C_TooMany C_Unmade C_MadeAgain C_NoRoom C_Crowded C_Barred C_BadPlan C_NoLoop C_HasLoop C_OneLoop C_TwoLoops C_Finished C_BadText C_BadLine))) := ⟨_, PySem.W.mg_of X G a__law_errors, k__law_errors, raw (ok_errs F__law_errors T x_BadName x_BadDeed x_BadMove x_BadNumber x_BadPrice x_BadPlace x_BadPart x_BadSlots x_BadStanding x_BadRule x_Twice x_TooMany x_Unmade x_MadeAgain x_NoRoom x_Crowded x_Barred x_BadPlan x_BadText x_BadLine o_NoLoop o_HasLoop o_OneLoop o_TwoLoops o_Finished) B__law_errors⟩
  have c__law_field : Cal l.prog w K mg base CX0 1 "_law_field" (spField K) := ⟨_, PySem.W.mg_of X G a__law_field, k__law_field, raw (ok_field F__law_field T) B__law_field⟩
  have c__law_kinds : Cal l.prog w K mg base CX0 1 "_law_kinds" (spKinds K (ecOf (mkL C_BadName C_BadDeed C_BadMove C_BadNumber C_BadPrice C_BadPlace C_BadPart C_BadSlots C_BadStanding C_BadRule C_Twice C_TooMany C_Unmade C_MadeAgain C_NoRoom C_Crowded C_Barred C_BadPlan C_NoLoop C_HasLoop C_OneLoop C_TwoLoops C_Finished C_BadText C_BadLine))) := ⟨_, PySem.W.mg_of X G a__law_kinds, k__law_kinds, raw (ok_kinds F__law_kinds T hEc kEE) B__law_kinds⟩
  have c__law_errors_right : CalG l.prog w K mg base CX0 5 "_law_errors_right" spER := ⟨_, _, _, PySem.W.mg_of X G a__law_errors_right, k__law_errors_right, B__law_errors_right, ok_er F__law_errors_right T hE hsys c__law_odd c__law_errors c__law_kinds c__law_field⟩
  exact ok_law F_law T TC TK PK hM hsys iE rE c_room c_Make c_Make_kw c_Do c__law_pen c__law_names c__law_lot c__law_real_deed c__law_right c__law_errors_right
theorem walk {l : PySem.W.OpenLaw} {q : Program} {loose : List Str} {XP : (Str → Option Value) → Heap → Prop} {YP : World → Heap → Prop} {d : DefRec} {K : Params → PySem.W.Frag} (hn : l.most = some 63) (hdf : d.params.defaults = []) (him : importsNone q = true)
    (hY : ∀ (w : World) (h : Heap), YP w h → (K w.params).In h)
    (F : ∀ (w : World) (mg : Str → Option Value) (fa : Addr) (h : Heap), (K w.params).In h → h.Ns mainGlobals mg → mg d.name = some (.ref fa) → (∀ (x : Str) (fx : Addr), ((recsOf q).any fun e => e.name == x) = true → mg x = some (.ref fx) → LamX.OwnTab (K w.params) fx h) → LawG l w (K w.params) CX0 11 63 "_law_script" mg fa h) :
    PySem.W.WalkO q loose XP YP l.row.toRowW d [] (fun f vs => PySem.call f vs) :=
  walk_G (n := 63) (k := 11) (x := "_law_script") (CX := fun _ => CX0) hn (by decide) hdf ⟨rfl, by decide, by decide⟩ him hY (fun w mg fa h _ => F w mg fa h) fun _ _ _ _ _ z => z
end K01
end
section
set_option Elab.async false
set_option linter.all false
set_option maxRecDepth 100000
set_option maxHeartbeats 8000000
namespace HeadH
open PySem PySem.W PySem.Calls PyProof.Rows
def nms0 : List PySem.Str := ["StowError", "BadName", "BadDeed", "BadMove", "BadNumber", "BadPrice", "BadPlace", "BadPart", "BadSlots", "BadStanding", "BadRule", "Twice", "TooMany", "Unmade", "MadeAgain", "NoRoom", "Crowded", "Barred", "BadPlan", "NoLoop", "HasLoop", "OneLoop", "TwoLoops", "Finished", "BadText", "BadLine", "LETTERS", "LONGEST_NAME", "MOST_USED", "is_name"]
def nms1 : List PySem.Str := ["need_names", "ascending", "need_used", "need_name", "Deed", "Use", "Make", "Do", "is_deed_row", "_law_pen", "_law_draw", "_law_pick", "_law_some", "_law_names", "_law_real_deed", "_law_lot", "_law_text", "_law_right", "_law_odd", "_law_errors", "_law_field", "_law_kinds", "_law_errors_right"]
def nms : List PySem.Str := nms0 ++ nms1
end HeadH
open PySem PySem.W PySem.Calls PyProof.Rows
local macro_rules
  | `(tactic| o_head $H) => do
    let a := H.raw[1][1]
    let as : Lean.TSyntax `term := ⟨a[1]⟩
    let ob ← `(fun s => List.map (HandSHeadRun.getT s) $as)
    let (ho, run, hw, hc) := (Lean.mkIdent `ho, Lean.mkIdent `run, Lean.mkIdent `hw, Lean.mkIdent `hc)
    `(tactic| refine HandSHeadRun.head_any (r := OpenLaw.row PySem.Challenge.rw_loopstow_k01_deeds) (q := view (OpenLaw.row PySem.Challenge.rw_loopstow_k01_deeds).prog [56]) (H := $H) (ob := $ob) (M := 9000) (loose := HeadH.nms) (d := HandSHeadRun.topDef (OpenLaw.row PySem.Challenge.rw_loopstow_k01_deeds).prog 56) (kwd := []) ?$ho (by kernel_rfl) (fun s => by kernel_rfl) ?$run (by kernel_rfl) (by kernel_rfl) (by kernel_rfl) (by rfl) (by first | assumption | decide +kernel) (by decide +kernel) ⟨rfl, rfl, rfl, rfl, rfl, by decide +kernel⟩ ?$hw ?$hc)
set_option maxRecDepth 100000 in
set_option maxHeartbeats 0 in
theorem PySem.Challenge.cw_loopstow_k01_deeds_holds : PySem.Challenge.rw_loopstow_k01_deeds.Holds := by
  w_on; o_law; k_head; (case ho => intro s; exact congrArg (fun f => List.map f _) (funext fun a => HandSHeadRun.getT_eq s a)); (case run => intro w os; kernel_rfl); (case hw => w_witness2)
  k_fill
  refine K01.walk (l := PySem.Challenge.rw_loopstow_k01_deeds) rfl rfl (by decide +kernel) (fun w h Y => PySem.W.kIn_of Y) ?F
  case F =>
    intro w mg fa h KX G hmg ow
    refine' K01.all_mk KX G hmg ow ?b0 ?b1 ?b2 ?b3 ?b4 ?b5 ?b6 ?b7 ?b8 ?b9 ?b10 ?b11 ?b12 ?b13 ?b14 ?b15 ?b16 ?b17 ?b18 ?b19 ?gL ?eL ?gN ?gMU ?hn ?htk ?any_ ?top_ ?gCE ?ceC ?ceT ?g_BadName ?e_BadName ?g_BadDeed ?e_BadDeed ?g_BadMove ?e_BadMove ?g_BadNumber ?e_BadNumber ?g_BadPrice ?e_BadPrice ?g_BadPlace ?e_BadPlace ?g_BadPart ?e_BadPart ?g_BadSlots ?e_BadSlots ?g_BadStanding ?e_BadStanding ?g_BadRule ?e_BadRule ?g_Twice ?e_Twice ?g_TooMany ?e_TooMany ?g_Unmade ?e_Unmade ?g_MadeAgain ?e_MadeAgain ?g_NoRoom ?e_NoRoom ?g_Crowded ?e_Crowded ?g_Barred ?e_Barred ?g_BadPlan ?e_BadPlan ?g_NoLoop ?e_NoLoop ?g_HasLoop ?e_HasLoop ?g_OneLoop ?e_OneLoop ?g_TwoLoops ?e_TwoLoops ?g_Finished ?e_Finished ?g_BadText ?e_BadText ?g_BadLine ?e_BadLine ?ndE ?gD_ ?tyM ?rdM ?gaM ?atDI ?lDI ?cDI ?kDI ?atR ?rcR ?fiR ?lR ?cR ?kR ?aS ?lS ?cS ?kS ?iS ?aE ?lE ?cE ?kE ?iE ?pa_uses ?pg_uses ?pt_uses ?pr_uses ?lPuses ?cPuses ?kPuses ?pa_makes ?pg_makes ?pt_makes ?pr_makes ?lPmakes ?cPmakes ?kPmakes ?pa_names ?pg_names ?pt_names ?pr_names ?lPnames ?cPnames ?kPnames ?pa_room ?pg_room ?pt_room ?pr_room ?lProom ?cProom ?kProom ?gU_ ?pgU ?hdU ?poU ?saU ?nU_used_names ?nU_made_names ?haU ?hmU ?mkU ?inU ?fnU ?kpU ?lIU ?cIU ?kIU ?stU ?eqU ?neU ?pU_uses ?pU_makes ?pU_names ?pU_room ?nfsU ?nftU ?kDU ?gM_ ?pgM ?hdM ?poM ?saM ?nM_used_names ?nM_made_names ?haM ?hmM ?mkM ?inM ?fnM ?kpM ?lIM ?cIM ?kIM ?stM ?eqM ?neM ?pM_uses ?pM_makes ?pM_names ?pM_room ?nfsM ?nftM ?kDM ?gO_ ?pgO ?hdO ?poO ?saO ?nO_used_names ?nO_made_names ?haO ?hmO ?mkO ?inO ?fnO ?kpO ?lIO ?cIO ?kIO ?stO ?eqO ?neO ?pO_uses ?pO_makes ?pO_names ?pO_room ?nfsO ?nftO ?kDO ?kUU_ ?kUM_ ?kUO_ ?nfUU ?nfUM ?kMU_ ?kMM_ ?kMO_ ?nfMU ?nfMM ?kOU_ ?kOM_ ?kOO_ ?nfOU ?nfOM ?nfOO ?sOU ?sOM ?dOU ?dOM ?kS_ ?kT_ ?ty_D ?rd_D ?ga_D ?mo_D ?ty_U ?rd_U ?ga_U ?mo_U ?ty_M ?rd_M ?ga_M ?mo_M ?ty_O ?rd_O ?ga_O ?mo_O ?a_is_name ?l_is_name ?c_is_name ?k_is_name ?a_need_names ?l_need_names ?c_need_names ?k_need_names ?a_need_used ?l_need_used ?c_need_used ?k_need_used ?a_need_name ?l_need_name ?c_need_name ?k_need_name ?a_ascending ?l_ascending ?c_ascending ?k_ascending ?a_is_deed_row ?l_is_deed_row ?c_is_deed_row ?k_is_deed_row ?a__law_pen ?l__law_pen ?c__law_pen ?k__law_pen ?a__law_draw ?l__law_draw ?c__law_draw ?k__law_draw ?a__law_pick ?l__law_pick ?c__law_pick ?k__law_pick ?a__law_some ?l__law_some ?c__law_some ?k__law_some ?a__law_names ?l__law_names ?c__law_names ?k__law_names ?a__law_real_deed ?l__law_real_deed ?c__law_real_deed ?k__law_real_deed ?a__law_lot ?l__law_lot ?c__law_lot ?k__law_lot ?a__law_text ?l__law_text ?c__law_text ?k__law_text ?a__law_right ?l__law_right ?c__law_right ?k__law_right ?a__law_odd ?l__law_odd ?c__law_odd ?k__law_odd ?a__law_errors ?l__law_errors ?c__law_errors ?k__law_errors ?a__law_field ?l__law_field ?c__law_field ?k__law_field ?a__law_kinds ?l__law_kinds ?c__law_kinds ?k__law_kinds ?a__law_errors_right ?l__law_errors_right ?c__law_errors_right ?k__law_errors_right ?a_law ?l_law ?c_law ?k_law
    (case b0 => k_is)
    (case b1 => k_is)
    (case b2 => k_is)
    (case b3 => k_is)
    (case b4 => k_is)
    (case b5 => k_is)
    (case b6 => k_is)
    (case b7 => k_is)
    (case b8 => k_is)
    (case b9 => k_is)
    (case b10 => k_is)
    (case b11 => k_is)
    (case b12 => k_is)
    (case b13 => k_is)
    (case b14 => k_is)
    (case b15 => k_is)
    (case b16 => k_is)
    (case b17 => k_is)
    (case b18 => k_is)
    (case b19 => k_is)
    (case gL => k_is)
    (case eL => decide +kernel)
    (case gN => k_is)
    (case gMU => k_is)
    (case hn => k_is)
    (case htk => k_is)
    (case any_ => k_is)
    (case top_ => decide +kernel)
    (case gCE => k_is)
    (case ceC => k_is)
    (case ceT => k_is)
    (case g_BadName => k_is)
    (case e_BadName => refine' K01.errFx_mk ?e_in ?e_tf ?e_l ?e_c ?e_k ?e_ce ?e_co ?e_v2 ?e_fl ?e_fd ?e_xo ?e_xr ?e_sa ?e_ty ?e_kp ?e_mr ?e_me ?e_xg ?e_xk ?e_hd ?e_ha ?e_no; (case e_in => k_is); (case e_tf => k_is); (case e_l => k_is); (case e_c => k_is); (case e_k => k_is); (case e_ce => k_is); (case e_co => k_is); (case e_v2 => rfl); (case e_fl => decide +kernel); (case e_fd => ks_is); (case e_xo => k_is); (case e_xr => rfl); (case e_sa => k_is); (case e_ty => k_is); (case e_kp => k_is); (case e_mr => k_is); (case e_me => rfl); (case e_xg => k_is); (case e_xk => k_is); (case e_hd => k_is); (case e_ha => k_is); (case e_no => intro f hf; simp only [List.mem_cons, List.not_mem_nil, or_false] at hf; (rcases hf with rfl) <;> k_is))
    (case g_BadDeed => k_is)
    (case e_BadDeed => refine' K01.errFx_mk ?e_in ?e_tf ?e_l ?e_c ?e_k ?e_ce ?e_co ?e_v2 ?e_fl ?e_fd ?e_xo ?e_xr ?e_sa ?e_ty ?e_kp ?e_mr ?e_me ?e_xg ?e_xk ?e_hd ?e_ha ?e_no; (case e_in => k_is); (case e_tf => k_is); (case e_l => k_is); (case e_c => k_is); (case e_k => k_is); (case e_ce => k_is); (case e_co => k_is); (case e_v2 => rfl); (case e_fl => decide +kernel); (case e_fd => ks_is); (case e_xo => k_is); (case e_xr => rfl); (case e_sa => k_is); (case e_ty => k_is); (case e_kp => k_is); (case e_mr => k_is); (case e_me => rfl); (case e_xg => k_is); (case e_xk => k_is); (case e_hd => k_is); (case e_ha => k_is); (case e_no => intro f hf; simp only [List.mem_cons, List.not_mem_nil, or_false] at hf; (rcases hf with rfl) <;> k_is))
    (case g_BadMove => k_is)
    (case e_BadMove => refine' K01.errFx_mk ?e_in ?e_tf ?e_l ?e_c ?e_k ?e_ce ?e_co ?e_v2 ?e_fl ?e_fd ?e_xo ?e_xr ?e_sa ?e_ty ?e_kp ?e_mr ?e_me ?e_xg ?e_xk ?e_hd ?e_ha ?e_no; (case e_in => k_is); (case e_tf => k_is); (case e_l => k_is); (case e_c => k_is); (case e_k => k_is); (case e_ce => k_is); (case e_co => k_is); (case e_v2 => rfl); (case e_fl => decide +kernel); (case e_fd => ks_is); (case e_xo => k_is); (case e_xr => rfl); (case e_sa => k_is); (case e_ty => k_is); (case e_kp => k_is); (case e_mr => k_is); (case e_me => rfl); (case e_xg => k_is); (case e_xk => k_is); (case e_hd => k_is); (case e_ha => k_is); (case e_no => intro f hf; simp only [List.mem_cons, List.not_mem_nil, or_false] at hf; (rcases hf with rfl) <;> k_is))
    (case g_BadNumber => k_is)
    (case e_BadNumber => refine' K01.errFx_mk ?e_in ?e_tf ?e_l ?e_c ?e_k ?e_ce ?e_co ?e_v2 ?e_fl ?e_fd ?e_xo ?e_xr ?e_sa ?e_ty ?e_kp ?e_mr ?e_me ?e_xg ?e_xk ?e_hd ?e_ha ?e_no; (case e_in => k_is); (case e_tf => k_is); (case e_l => k_is); (case e_c => k_is); (case e_k => k_is); (case e_ce => k_is); (case e_co => k_is); (case e_v2 => rfl); (case e_fl => decide +kernel); (case e_fd => ks_is); (case e_xo => k_is); (case e_xr => rfl); (case e_sa => k_is); (case e_ty => k_is); (case e_kp => k_is); (case e_mr => k_is); (case e_me => rfl); (case e_xg => k_is); (case e_xk => k_is); (case e_hd => k_is); (case e_ha => k_is); (case e_no => intro f hf; simp only [List.mem_cons, List.not_mem_nil, or_false] at hf; (rcases hf with rfl) <;> k_is))
    (case g_BadPrice => k_is)
    (case e_BadPrice => refine' K01.errFx_mk ?e_in ?e_tf ?e_l ?e_c ?e_k ?e_ce ?e_co ?e_v2 ?e_fl ?e_fd ?e_xo ?e_xr ?e_sa ?e_ty ?e_kp ?e_mr ?e_me ?e_xg ?e_xk ?e_hd ?e_ha ?e_no; (case e_in => k_is); (case e_tf => k_is); (case e_l => k_is); (case e_c => k_is); (case e_k => k_is); (case e_ce => k_is); (case e_co => k_is); (case e_v2 => rfl); (case e_fl => decide +kernel); (case e_fd => ks_is); (case e_xo => k_is); (case e_xr => rfl); (case e_sa => k_is); (case e_ty => k_is); (case e_kp => k_is); (case e_mr => k_is); (case e_me => rfl); (case e_xg => k_is); (case e_xk => k_is); (case e_hd => k_is); (case e_ha => k_is); (case e_no => intro f hf; simp only [List.mem_cons, List.not_mem_nil, or_false] at hf; (rcases hf with rfl) <;> k_is))
    (case g_BadPlace => k_is)
    (case e_BadPlace => refine' K01.errFx_mk ?e_in ?e_tf ?e_l ?e_c ?e_k ?e_ce ?e_co ?e_v2 ?e_fl ?e_fd ?e_xo ?e_xr ?e_sa ?e_ty ?e_kp ?e_mr ?e_me ?e_xg ?e_xk ?e_hd ?e_ha ?e_no; (case e_in => k_is); (case e_tf => k_is); (case e_l => k_is); (case e_c => k_is); (case e_k => k_is); (case e_ce => k_is); (case e_co => k_is); (case e_v2 => rfl); (case e_fl => decide +kernel); (case e_fd => ks_is); (case e_xo => k_is); (case e_xr => rfl); (case e_sa => k_is); (case e_ty => k_is); (case e_kp => k_is); (case e_mr => k_is); (case e_me => rfl); (case e_xg => k_is); (case e_xk => k_is); (case e_hd => k_is); (case e_ha => k_is); (case e_no => intro f hf; simp only [List.mem_cons, List.not_mem_nil, or_false] at hf; (rcases hf with rfl) <;> k_is))
    (case g_BadPart => k_is)
    (case e_BadPart => refine' K01.errFx_mk ?e_in ?e_tf ?e_l ?e_c ?e_k ?e_ce ?e_co ?e_v2 ?e_fl ?e_fd ?e_xo ?e_xr ?e_sa ?e_ty ?e_kp ?e_mr ?e_me ?e_xg ?e_xk ?e_hd ?e_ha ?e_no; (case e_in => k_is); (case e_tf => k_is); (case e_l => k_is); (case e_c => k_is); (case e_k => k_is); (case e_ce => k_is); (case e_co => k_is); (case e_v2 => rfl); (case e_fl => decide +kernel); (case e_fd => ks_is); (case e_xo => k_is); (case e_xr => rfl); (case e_sa => k_is); (case e_ty => k_is); (case e_kp => k_is); (case e_mr => k_is); (case e_me => rfl); (case e_xg => k_is); (case e_xk => k_is); (case e_hd => k_is); (case e_ha => k_is); (case e_no => intro f hf; simp only [List.mem_cons, List.not_mem_nil, or_false] at hf; (rcases hf with rfl) <;> k_is))
    (case g_BadSlots => k_is)
    (case e_BadSlots => refine' K01.errFx_mk ?e_in ?e_tf ?e_l ?e_c ?e_k ?e_ce ?e_co ?e_v2 ?e_fl ?e_fd ?e_xo ?e_xr ?e_sa ?e_ty ?e_kp ?e_mr ?e_me ?e_xg ?e_xk ?e_hd ?e_ha ?e_no; (case e_in => k_is); (case e_tf => k_is); (case e_l => k_is); (case e_c => k_is); (case e_k => k_is); (case e_ce => k_is); (case e_co => k_is); (case e_v2 => rfl); (case e_fl => decide +kernel); (case e_fd => ks_is); (case e_xo => k_is); (case e_xr => rfl); (case e_sa => k_is); (case e_ty => k_is); (case e_kp => k_is); (case e_mr => k_is); (case e_me => rfl); (case e_xg => k_is); (case e_xk => k_is); (case e_hd => k_is); (case e_ha => k_is); (case e_no => intro f hf; simp only [List.mem_cons, List.not_mem_nil, or_false] at hf; (rcases hf with rfl) <;> k_is))
    (case g_BadStanding => k_is)
    (case e_BadStanding => refine' K01.errFx_mk ?e_in ?e_tf ?e_l ?e_c ?e_k ?e_ce ?e_co ?e_v2 ?e_fl ?e_fd ?e_xo ?e_xr ?e_sa ?e_ty ?e_kp ?e_mr ?e_me ?e_xg ?e_xk ?e_hd ?e_ha ?e_no; (case e_in => k_is); (case e_tf => k_is); (case e_l => k_is); (case e_c => k_is); (case e_k => k_is); (case e_ce => k_is); (case e_co => k_is); (case e_v2 => rfl); (case e_fl => decide +kernel); (case e_fd => ks_is); (case e_xo => k_is); (case e_xr => rfl); (case e_sa => k_is); (case e_ty => k_is); (case e_kp => k_is); (case e_mr => k_is); (case e_me => rfl); (case e_xg => k_is); (case e_xk => k_is); (case e_hd => k_is); (case e_ha => k_is); (case e_no => intro f hf; simp only [List.mem_cons, List.not_mem_nil, or_false] at hf; (rcases hf with rfl) <;> k_is))
    (case g_BadRule => k_is)
    (case e_BadRule => refine' K01.errFx_mk ?e_in ?e_tf ?e_l ?e_c ?e_k ?e_ce ?e_co ?e_v2 ?e_fl ?e_fd ?e_xo ?e_xr ?e_sa ?e_ty ?e_kp ?e_mr ?e_me ?e_xg ?e_xk ?e_hd ?e_ha ?e_no; (case e_in => k_is); (case e_tf => k_is); (case e_l => k_is); (case e_c => k_is); (case e_k => k_is); (case e_ce => k_is); (case e_co => k_is); (case e_v2 => rfl); (case e_fl => decide +kernel); (case e_fd => ks_is); (case e_xo => k_is); (case e_xr => rfl); (case e_sa => k_is); (case e_ty => k_is); (case e_kp => k_is); (case e_mr => k_is); (case e_me => rfl); (case e_xg => k_is); (case e_xk => k_is); (case e_hd => k_is); (case e_ha => k_is); (case e_no => intro f hf; simp only [List.mem_cons, List.not_mem_nil, or_false] at hf; (rcases hf with rfl) <;> k_is))
    (case g_Twice => k_is)
    (case e_Twice => refine' K01.errFx_mk ?e_in ?e_tf ?e_l ?e_c ?e_k ?e_ce ?e_co ?e_v2 ?e_fl ?e_fd ?e_xo ?e_xr ?e_sa ?e_ty ?e_kp ?e_mr ?e_me ?e_xg ?e_xk ?e_hd ?e_ha ?e_no; (case e_in => k_is); (case e_tf => k_is); (case e_l => k_is); (case e_c => k_is); (case e_k => k_is); (case e_ce => k_is); (case e_co => k_is); (case e_v2 => rfl); (case e_fl => decide +kernel); (case e_fd => ks_is); (case e_xo => k_is); (case e_xr => rfl); (case e_sa => k_is); (case e_ty => k_is); (case e_kp => k_is); (case e_mr => k_is); (case e_me => rfl); (case e_xg => k_is); (case e_xk => k_is); (case e_hd => k_is); (case e_ha => k_is); (case e_no => intro f hf; simp only [List.mem_cons, List.not_mem_nil, or_false] at hf; (rcases hf with rfl) <;> k_is))
    (case g_TooMany => k_is)
    (case e_TooMany => refine' K01.errFx_mk ?e_in ?e_tf ?e_l ?e_c ?e_k ?e_ce ?e_co ?e_v2 ?e_fl ?e_fd ?e_xo ?e_xr ?e_sa ?e_ty ?e_kp ?e_mr ?e_me ?e_xg ?e_xk ?e_hd ?e_ha ?e_no; (case e_in => k_is); (case e_tf => k_is); (case e_l => k_is); (case e_c => k_is); (case e_k => k_is); (case e_ce => k_is); (case e_co => k_is); (case e_v2 => rfl); (case e_fl => decide +kernel); (case e_fd => ks_is); (case e_xo => k_is); (case e_xr => rfl); (case e_sa => k_is); (case e_ty => k_is); (case e_kp => k_is); (case e_mr => k_is); (case e_me => rfl); (case e_xg => k_is); (case e_xk => k_is); (case e_hd => k_is); (case e_ha => k_is); (case e_no => intro f hf; simp only [List.mem_cons, List.not_mem_nil, or_false] at hf; (rcases hf with rfl) <;> k_is))
    (case g_Unmade => k_is)
    (case e_Unmade => refine' K01.errFx_mk ?e_in ?e_tf ?e_l ?e_c ?e_k ?e_ce ?e_co ?e_v2 ?e_fl ?e_fd ?e_xo ?e_xr ?e_sa ?e_ty ?e_kp ?e_mr ?e_me ?e_xg ?e_xk ?e_hd ?e_ha ?e_no; (case e_in => k_is); (case e_tf => k_is); (case e_l => k_is); (case e_c => k_is); (case e_k => k_is); (case e_ce => k_is); (case e_co => k_is); (case e_v2 => rfl); (case e_fl => decide +kernel); (case e_fd => ks_is); (case e_xo => k_is); (case e_xr => rfl); (case e_sa => k_is); (case e_ty => k_is); (case e_kp => k_is); (case e_mr => k_is); (case e_me => rfl); (case e_xg => k_is); (case e_xk => k_is); (case e_hd => k_is); (case e_ha => k_is); (case e_no => intro f hf; simp only [List.mem_cons, List.not_mem_nil, or_false] at hf; (rcases hf with rfl | rfl) <;> k_is))
    (case g_MadeAgain => k_is)
    (case e_MadeAgain => refine' K01.errFx_mk ?e_in ?e_tf ?e_l ?e_c ?e_k ?e_ce ?e_co ?e_v2 ?e_fl ?e_fd ?e_xo ?e_xr ?e_sa ?e_ty ?e_kp ?e_mr ?e_me ?e_xg ?e_xk ?e_hd ?e_ha ?e_no; (case e_in => k_is); (case e_tf => k_is); (case e_l => k_is); (case e_c => k_is); (case e_k => k_is); (case e_ce => k_is); (case e_co => k_is); (case e_v2 => rfl); (case e_fl => decide +kernel); (case e_fd => ks_is); (case e_xo => k_is); (case e_xr => rfl); (case e_sa => k_is); (case e_ty => k_is); (case e_kp => k_is); (case e_mr => k_is); (case e_me => rfl); (case e_xg => k_is); (case e_xk => k_is); (case e_hd => k_is); (case e_ha => k_is); (case e_no => intro f hf; simp only [List.mem_cons, List.not_mem_nil, or_false] at hf; (rcases hf with rfl | rfl) <;> k_is))
    (case g_NoRoom => k_is)
    (case e_NoRoom => refine' K01.errFx_mk ?e_in ?e_tf ?e_l ?e_c ?e_k ?e_ce ?e_co ?e_v2 ?e_fl ?e_fd ?e_xo ?e_xr ?e_sa ?e_ty ?e_kp ?e_mr ?e_me ?e_xg ?e_xk ?e_hd ?e_ha ?e_no; (case e_in => k_is); (case e_tf => k_is); (case e_l => k_is); (case e_c => k_is); (case e_k => k_is); (case e_ce => k_is); (case e_co => k_is); (case e_v2 => rfl); (case e_fl => decide +kernel); (case e_fd => ks_is); (case e_xo => k_is); (case e_xr => rfl); (case e_sa => k_is); (case e_ty => k_is); (case e_kp => k_is); (case e_mr => k_is); (case e_me => rfl); (case e_xg => k_is); (case e_xk => k_is); (case e_hd => k_is); (case e_ha => k_is); (case e_no => intro f hf; simp only [List.mem_cons, List.not_mem_nil, or_false] at hf; (rcases hf with rfl) <;> k_is))
    (case g_Crowded => k_is)
    (case e_Crowded => refine' K01.errFx_mk ?e_in ?e_tf ?e_l ?e_c ?e_k ?e_ce ?e_co ?e_v2 ?e_fl ?e_fd ?e_xo ?e_xr ?e_sa ?e_ty ?e_kp ?e_mr ?e_me ?e_xg ?e_xk ?e_hd ?e_ha ?e_no; (case e_in => k_is); (case e_tf => k_is); (case e_l => k_is); (case e_c => k_is); (case e_k => k_is); (case e_ce => k_is); (case e_co => k_is); (case e_v2 => rfl); (case e_fl => decide +kernel); (case e_fd => ks_is); (case e_xo => k_is); (case e_xr => rfl); (case e_sa => k_is); (case e_ty => k_is); (case e_kp => k_is); (case e_mr => k_is); (case e_me => rfl); (case e_xg => k_is); (case e_xk => k_is); (case e_hd => k_is); (case e_ha => k_is); (case e_no => intro f hf; simp only [List.mem_cons, List.not_mem_nil, or_false] at hf; (rcases hf with rfl) <;> k_is))
    (case g_Barred => k_is)
    (case e_Barred => refine' K01.errFx_mk ?e_in ?e_tf ?e_l ?e_c ?e_k ?e_ce ?e_co ?e_v2 ?e_fl ?e_fd ?e_xo ?e_xr ?e_sa ?e_ty ?e_kp ?e_mr ?e_me ?e_xg ?e_xk ?e_hd ?e_ha ?e_no; (case e_in => k_is); (case e_tf => k_is); (case e_l => k_is); (case e_c => k_is); (case e_k => k_is); (case e_ce => k_is); (case e_co => k_is); (case e_v2 => rfl); (case e_fl => decide +kernel); (case e_fd => ks_is); (case e_xo => k_is); (case e_xr => rfl); (case e_sa => k_is); (case e_ty => k_is); (case e_kp => k_is); (case e_mr => k_is); (case e_me => rfl); (case e_xg => k_is); (case e_xk => k_is); (case e_hd => k_is); (case e_ha => k_is); (case e_no => intro f hf; simp only [List.mem_cons, List.not_mem_nil, or_false] at hf; (rcases hf with rfl | rfl) <;> k_is))
    (case g_BadPlan => k_is)
    (case e_BadPlan => refine' K01.errFx_mk ?e_in ?e_tf ?e_l ?e_c ?e_k ?e_ce ?e_co ?e_v2 ?e_fl ?e_fd ?e_xo ?e_xr ?e_sa ?e_ty ?e_kp ?e_mr ?e_me ?e_xg ?e_xk ?e_hd ?e_ha ?e_no; (case e_in => k_is); (case e_tf => k_is); (case e_l => k_is); (case e_c => k_is); (case e_k => k_is); (case e_ce => k_is); (case e_co => k_is); (case e_v2 => rfl); (case e_fl => decide +kernel); (case e_fd => ks_is); (case e_xo => k_is); (case e_xr => rfl); (case e_sa => k_is); (case e_ty => k_is); (case e_kp => k_is); (case e_mr => k_is); (case e_me => rfl); (case e_xg => k_is); (case e_xk => k_is); (case e_hd => k_is); (case e_ha => k_is); (case e_no => intro f hf; simp only [List.mem_cons, List.not_mem_nil, or_false] at hf; (rcases hf with rfl | rfl | rfl | rfl) <;> k_is))
    (case g_NoLoop => k_is)
    (case e_NoLoop => refine' K01.errF0_mk ?e_x ?e_ty ?e_kp ?e_mr ?e_me ?e_xg ?e_xk ?e_hd ?e_ha; (case e_x => k_exc); (case e_ty => k_is); (case e_kp => k_is); (case e_mr => k_is); (case e_me => rfl); (case e_xg => k_is); (case e_xk => k_is); (case e_hd => k_is); (case e_ha => k_is))
    (case g_HasLoop => k_is)
    (case e_HasLoop => refine' K01.errF0_mk ?e_x ?e_ty ?e_kp ?e_mr ?e_me ?e_xg ?e_xk ?e_hd ?e_ha; (case e_x => k_exc); (case e_ty => k_is); (case e_kp => k_is); (case e_mr => k_is); (case e_me => rfl); (case e_xg => k_is); (case e_xk => k_is); (case e_hd => k_is); (case e_ha => k_is))
    (case g_OneLoop => k_is)
    (case e_OneLoop => refine' K01.errF0_mk ?e_x ?e_ty ?e_kp ?e_mr ?e_me ?e_xg ?e_xk ?e_hd ?e_ha; (case e_x => k_exc); (case e_ty => k_is); (case e_kp => k_is); (case e_mr => k_is); (case e_me => rfl); (case e_xg => k_is); (case e_xk => k_is); (case e_hd => k_is); (case e_ha => k_is))
    (case g_TwoLoops => k_is)
    (case e_TwoLoops => refine' K01.errF0_mk ?e_x ?e_ty ?e_kp ?e_mr ?e_me ?e_xg ?e_xk ?e_hd ?e_ha; (case e_x => k_exc); (case e_ty => k_is); (case e_kp => k_is); (case e_mr => k_is); (case e_me => rfl); (case e_xg => k_is); (case e_xk => k_is); (case e_hd => k_is); (case e_ha => k_is))
    (case g_Finished => k_is)
    (case e_Finished => refine' K01.errF0_mk ?e_x ?e_ty ?e_kp ?e_mr ?e_me ?e_xg ?e_xk ?e_hd ?e_ha; (case e_x => k_exc); (case e_ty => k_is); (case e_kp => k_is); (case e_mr => k_is); (case e_me => rfl); (case e_xg => k_is); (case e_xk => k_is); (case e_hd => k_is); (case e_ha => k_is))
    (case g_BadText => k_is)
    (case e_BadText => refine' K01.errFx_mk ?e_in ?e_tf ?e_l ?e_c ?e_k ?e_ce ?e_co ?e_v2 ?e_fl ?e_fd ?e_xo ?e_xr ?e_sa ?e_ty ?e_kp ?e_mr ?e_me ?e_xg ?e_xk ?e_hd ?e_ha ?e_no; (case e_in => k_is); (case e_tf => k_is); (case e_l => k_is); (case e_c => k_is); (case e_k => k_is); (case e_ce => k_is); (case e_co => k_is); (case e_v2 => rfl); (case e_fl => decide +kernel); (case e_fd => ks_is); (case e_xo => k_is); (case e_xr => rfl); (case e_sa => k_is); (case e_ty => k_is); (case e_kp => k_is); (case e_mr => k_is); (case e_me => rfl); (case e_xg => k_is); (case e_xk => k_is); (case e_hd => k_is); (case e_ha => k_is); (case e_no => intro f hf; simp only [List.mem_cons, List.not_mem_nil, or_false] at hf; (rcases hf with rfl | rfl) <;> k_is))
    (case g_BadLine => k_is)
    (case e_BadLine => refine' K01.errFx_mk ?e_in ?e_tf ?e_l ?e_c ?e_k ?e_ce ?e_co ?e_v2 ?e_fl ?e_fd ?e_xo ?e_xr ?e_sa ?e_ty ?e_kp ?e_mr ?e_me ?e_xg ?e_xk ?e_hd ?e_ha ?e_no; (case e_in => k_is); (case e_tf => k_is); (case e_l => k_is); (case e_c => k_is); (case e_k => k_is); (case e_ce => k_is); (case e_co => k_is); (case e_v2 => rfl); (case e_fl => decide +kernel); (case e_fd => ks_is); (case e_xo => k_is); (case e_xr => rfl); (case e_sa => k_is); (case e_ty => k_is); (case e_kp => k_is); (case e_mr => k_is); (case e_me => rfl); (case e_xg => k_is); (case e_xk => k_is); (case e_hd => k_is); (case e_ha => k_is); (case e_no => intro f hf; simp only [List.mem_cons, List.not_mem_nil, or_false] at hf; (rcases hf with rfl) <;> k_is))
    (case ndE => decide +kernel)
    (case gD_ => k_is)
    (case tyM => k_is)
    (case rdM => k_is)
    (case gaM => k_is)
    (case atDI => k_is)
    (case lDI => k_is)
    (case cDI => k_is)
    (case kDI => k_is)
    (case atR => k_is)
    (case rcR => k_is)
    (case fiR => k_is)
    (case lR => k_is)
    (case cR => k_is)
    (case kR => k_is)
    (case aS => k_is)
    (case lS => k_is)
    (case cS => k_is)
    (case kS => k_is)
    (case iS => k_is)
    (case aE => k_is)
    (case lE => k_is)
    (case cE => k_is)
    (case kE => k_is)
    (case iE => k_is)
    (case pa_uses => k_is)
    (case pg_uses => k_is)
    (case pt_uses => k_is)
    (case pr_uses => k_is)
    (case lPuses => k_is)
    (case cPuses => k_is)
    (case kPuses => k_is)
    (case pa_makes => k_is)
    (case pg_makes => k_is)
    (case pt_makes => k_is)
    (case pr_makes => k_is)
    (case lPmakes => k_is)
    (case cPmakes => k_is)
    (case kPmakes => k_is)
    (case pa_names => k_is)
    (case pg_names => k_is)
    (case pt_names => k_is)
    (case pr_names => k_is)
    (case lPnames => k_is)
    (case cPnames => k_is)
    (case kPnames => k_is)
    (case pa_room => k_is)
    (case pg_room => k_is)
    (case pt_room => k_is)
    (case pr_room => k_is)
    (case lProom => k_is)
    (case cProom => k_is)
    (case kProom => k_is)
    (case gU_ => k_is)
    (case pgU => k_is)
    (case hdU => k_is)
    (case poU => k_is)
    (case saU => k_is)
    (case nU_used_names => k_is)
    (case nU_made_names => k_is)
    (case haU => k_is)
    (case hmU => k_is)
    (case mkU => k_is)
    (case inU => k_is)
    (case fnU => k_is)
    (case kpU => k_is)
    (case lIU => k_is)
    (case cIU => k_is)
    (case kIU => k_is)
    (case stU => k_is)
    (case eqU => k_is)
    (case neU => k_is)
    (case pU_uses => k_is)
    (case pU_makes => k_is)
    (case pU_names => k_is)
    (case pU_room => k_is)
    (case nfsU => k_is)
    (case nftU => k_is)
    (case kDU => kit_is)
    (case gM_ => k_is)
    (case pgM => k_is)
    (case hdM => k_is)
    (case poM => k_is)
    (case saM => k_is)
    (case nM_used_names => k_is)
    (case nM_made_names => k_is)
    (case haM => k_is)
    (case hmM => k_is)
    (case mkM => k_is)
    (case inM => k_is)
    (case fnM => k_is)
    (case kpM => k_is)
    (case lIM => k_is)
    (case cIM => k_is)
    (case kIM => k_is)
    (case stM => k_is)
    (case eqM => k_is)
    (case neM => k_is)
    (case pM_uses => k_is)
    (case pM_makes => k_is)
    (case pM_names => k_is)
    (case pM_room => k_is)
    (case nfsM => k_is)
    (case nftM => k_is)
    (case kDM => kit_is)
    (case gO_ => k_is)
    (case pgO => k_is)
    (case hdO => k_is)
    (case poO => k_is)
    (case saO => k_is)
    (case nO_used_names => k_is)
    (case nO_made_names => k_is)
    (case haO => k_is)
    (case hmO => k_is)
    (case mkO => k_is)
    (case inO => k_is)
    (case fnO => k_is)
    (case kpO => k_is)
    (case lIO => k_is)
    (case cIO => k_is)
    (case kIO => k_is)
    (case stO => k_is)
    (case eqO => k_is)
    (case neO => k_is)
    (case pO_uses => k_is)
    (case pO_makes => k_is)
    (case pO_names => k_is)
    (case pO_room => k_is)
    (case nfsO => k_is)
    (case nftO => k_is)
    (case kDO => kit_is)
    (case kUU_ => kit_is)
    (case kUM_ => kit_is)
    (case kUO_ => kit_is)
    (case nfUU => k_is)
    (case nfUM => k_is)
    (case kMU_ => kit_is)
    (case kMM_ => kit_is)
    (case kMO_ => kit_is)
    (case nfMU => k_is)
    (case nfMM => k_is)
    (case kOU_ => kit_is)
    (case kOM_ => kit_is)
    (case kOO_ => kit_is)
    (case nfOU => k_is)
    (case nfOM => k_is)
    (case nfOO => k_is)
    (case sOU => k_is)
    (case sOM => k_is)
    (case dOU => decide)
    (case dOM => decide)
    (case kS_ => kit_is)
    (case kT_ => kit_is)
    (case ty_D => k_is)
    (case rd_D => k_is)
    (case ga_D => k_is)
    (case mo_D => k_is)
    (case ty_U => k_is)
    (case rd_U => k_is)
    (case ga_U => k_is)
    (case mo_U => k_is)
    (case ty_M => k_is)
    (case rd_M => k_is)
    (case ga_M => k_is)
    (case mo_M => k_is)
    (case ty_O => k_is)
    (case rd_O => k_is)
    (case ga_O => k_is)
    (case mo_O => k_is)
    (case a_is_name => k_is)
    (case l_is_name => k_is)
    (case c_is_name => k_is)
    (case k_is_name => k_is)
    (case a_need_names => k_is)
    (case l_need_names => k_is)
    (case c_need_names => k_is)
    (case k_need_names => k_is)
    (case a_need_used => k_is)
    (case l_need_used => k_is)
    (case c_need_used => k_is)
    (case k_need_used => k_is)
    (case a_need_name => k_is)
    (case l_need_name => k_is)
    (case c_need_name => k_is)
    (case k_need_name => k_is)
    (case a_ascending => k_is)
    (case l_ascending => k_is)
    (case c_ascending => k_is)
    (case k_ascending => k_is)
    (case a_is_deed_row => k_is)
    (case l_is_deed_row => k_is)
    (case c_is_deed_row => k_is)
    (case k_is_deed_row => k_is)
    (case a__law_pen => k_is)
    (case l__law_pen => k_is)
    (case c__law_pen => k_is)
    (case k__law_pen => k_is)
    (case a__law_draw => k_is)
    (case l__law_draw => k_is)
    (case c__law_draw => k_is)
    (case k__law_draw => k_is)
    (case a__law_pick => k_is)
    (case l__law_pick => k_is)
    (case c__law_pick => k_is)
    (case k__law_pick => k_is)
    (case a__law_some => k_is)
    (case l__law_some => k_is)
    (case c__law_some => k_is)
    (case k__law_some => k_is)
    (case a__law_names => k_is)
    (case l__law_names => k_is)
    (case c__law_names => k_is)
    (case k__law_names => k_is)
    (case a__law_real_deed => k_is)
    (case l__law_real_deed => k_is)
    (case c__law_real_deed => k_is)
    (case k__law_real_deed => k_is)
    (case a__law_lot => k_is)
    (case l__law_lot => k_is)
    (case c__law_lot => k_is)
    (case k__law_lot => k_is)
    (case a__law_text => k_is)
    (case l__law_text => k_is)
    (case c__law_text => k_is)
    (case k__law_text => k_is)
    (case a__law_right => k_is)
    (case l__law_right => k_is)
    (case c__law_right => k_is)
    (case k__law_right => k_is)
    (case a__law_odd => k_is)
    (case l__law_odd => k_is)
    (case c__law_odd => k_is)
    (case k__law_odd => k_is)
    (case a__law_errors => k_is)
    (case l__law_errors => k_is)
    (case c__law_errors => k_is)
    (case k__law_errors => k_is)
    (case a__law_field => k_is)
    (case l__law_field => k_is)
    (case c__law_field => k_is)
    (case k__law_field => k_is)
    (case a__law_kinds => k_is)
    (case l__law_kinds => k_is)
    (case c__law_kinds => k_is)
    (case k__law_kinds => k_is)
    (case a__law_errors_right => k_is)
    (case l__law_errors_right => k_is)
    (case c__law_errors_right => k_is)
    (case k__law_errors_right => k_is)
    (case a_law => k_is)
    (case l_law => k_is)
    (case c_law => k_is)
    (case k_law => k_is)
end
