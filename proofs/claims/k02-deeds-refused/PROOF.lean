import PyProof.Rows.All
import Wide.All
import OpenK.AllK
import Wide.FinOn
import KE.KSuper
import KE.KCallOwn
import HandS.ForMost
import HandS.ClsMeth
import HandS.OwnEq
import HandS.FStr
import HandS.IsInst
import HandS.Star
import HandS.SlotsOwn
import HandS.Defaults
import HandS.RaiseMore
import PyProof.NeKinds
import HandS.Walk
import KE.KFromBytes
import HandS.Exc
import HandS.ExcInit
import HandS.ExcSuper
import HandS.ExcIs
import KE.KExcIs
import HandS.ExcField
import HandS.ExcValue
import HandS.Lambda
import HandS.EndTab
import HandS.EndOwn
import HandS.Words
import HandS.WordsExc
import HandS.Dict
import HandS.Text
import PyProof.InstNe
import PyProof.ReprLen
import KE.KRevSl
import HandS.SetFor
import HandS.Style
import HandS.Set
import HandS.Strs
import HandS.SetKeys
import HandS.More
import HandS.Codes
import PySem.Challenge.RW_loopstow_k02_deeds_refused
import KE.RegKSuper
import KE.RegKIsAll
section
set_option Elab.async false
set_option linter.all false
set_option maxRecDepth 100000
set_option maxHeartbeats 4000000
/-! Own rules over the hand layer. -/
namespace Ls
open PySem PySem.Spec PyProof.Rows L2

/-! ### what a for walks: one of two kinds -/
theorem PI.or {X : Cx} {tg iter : Expr} {w1 w2 : TI} (h1 : PI X tg iter w1) (h2 : PI X tg iter w2) : PI X tg iter (fun σ H R => w1 σ H R ∨ w2 σ H R) :=
  ⟨fun pins s σ H R I h => h.elim (fun h => h1.run pins s σ H R I h) (fun h => h2.run pins s σ H R I h)⟩
/-- a list or a tuple -/
theorem pi_seq {X : Cx} {tg l : Expr} {tl : TE} (hl : PE X l tl) : PI X tg l (fun σ H R => iList X.K tl σ H R ∨ iTup X.K tl σ H R) := PI.or (pi_list hl) (pi_tup hl)

/-! ### f(k = v, ..), no positional argument -/
section
variable {X : Cx} {CX : CXT} {k : Nat} {f : Addr} {fd : FuncData} {ps ks : List Str} {sp : Sp} {E : XK} {x : Str} {p pos : Pos} {kws : List Keyword} {tk : TA} {g : List Value → List Value → List Value} {gV : List V → List V → List V}
theorem pe_callK0 (F : FnOk X.prog X.w X.K X.mg X.base CX k f fd ps sp) (hr : Room k X.A) (hg : Gl X x) (hm : X.mg x = some (.ref f)) (hk : PySem.W.keepIn X.K (.ref f) = true) (hb : KBn X.K fd ps 0 ks g gV) (hx : Passes CX X E)
    (hkw : PK X kws tk) (hall : (backToKw pos (keywordEach kws X.env)).all (·.1.isSome) = true := by rfl) (hks : (backToKw pos (keywordEach kws X.env)).filterMap (·.1) = ks := by rfl)
    (hdb : (x == ("__debug__" : Str)) = false := by decide)
    (hpl : ((backTo pos (starEach [] X.env)).any (·.1) || (backToKw pos (keywordEach kws X.env)).any (·.1.isNone)) = false := by rfl) :
    PE X (.Call (.Name x p) [] kws pos) (tCallN 0 ks.length sp gV E tNil tk) := by
  refine ⟨fun pins s σ H Q I h => ?_⟩
  refine wpAny_Call_Name_kw (ld_glob I hg hm ?_ hdb)
  refine PySem.W.callWith_KW0 (h₀ := X.base) I.ok.mod.kin hk hall ?_ hpl
  refine thn (hkw.run pos pins s σ H _ I h) fun ws s2 ⟨zs, H2, I2, rz, l1, l2, q2⟩ => ⟨I2.kIn, ?_⟩
  rw [hks]
  exact run_fnN (us := []) (vs := []) F hr hb hx I2 .nil rz l1 l2 q2
/-- one parameter, given by its name -/
theorem kbn_one {K : PySem.W.Frag} {x qual : Str} {st : Stmt} {f : Addr} {fd : FuncData} {a : Str} (F : Fun K x qual st f fd)
    (h : ∀ (kV doc pm : Value) (an : Option Addr) (cdv ct u : Value), bindArgs (PySem.W.fnOf x qual (defArgs st) (defBody st) (defScope st) .none kV doc pm an cdv ct) ⟨[], [(a, u)]⟩ = pure [(a, u)]) :
    KBn K fd [a] 0 [a] (fun _ ws => ws) (fun _ zs => zs) := by
  obtain ⟨oc, od, kV, doc, pm, an, cdv, ct, osl, rfl, lk, hcd⟩ := F.ex
  refine ⟨fun s us ws _ l1 l2 => ?_, fun _ r => r⟩
  match us, ws, l1, l2 with
  | [], [u], _, _ => exact .of_eq (h kV doc pm an cdv ct u)
end

/-! ### str(x), x an instance whose class has the text's own __str__ -/
def rStrOwn (K : PySem.W.Frag) (g : Addr) (sp : Sp) (E : XK) : List V → Hp → VK → Prop := fun xs H Q => ∃ a C dx fs, xs = [V.ref a] ∧ H a = some (.ins C dx fs) ∧ PySem.W.findIn K (.ref C) "__str__" = some (some (.ref g)) ∧ sp [.ref a] H (fun z H' => ∃ y, z = .str y ∧ Q z H') E
section
variable {X : Cx} {CX : CXT} {g : Addr} {n : Nat} {sp : Sp} {E : XK}
theorem call_strOwn (hf : PySem.W.isFn X.K (.ref g) = true) (F : FnR X.prog X.w X.K X.mg X.base CX n g sp) (hr : Room (n + 2) X.A) (hx : Passes CX X E) : CallR X (.type "str") (rStrOwn X.K g sp E) := by
  intro pins s σ H xs us Q I r h
  obtain ⟨a, C, dx, fs, rfl, ha, hs, q⟩ := h
  obtain ⟨u, rfl, ru⟩ := r.one
  cases (show u = Value.ref a from ru)
  obtain ⟨mA, O, _⟩ := ins_get I.hok ha
  obtain ⟨od, J, _⟩ := O.look
  have hr2 : Room n X.A.in1.in1 := (show Room (n + 1) X.A.in1 from Room.in1 hr).in1
  refine PySem.W.kso_call hr2.units0 I.kIn J hs hf (wpAny_mono (wpAny_call (SlX.run_at (us := [.ref a]) (ws := [.ref a]) F hr2 I.env0.in1.in1 hx I (.cons rfl .nil) q)) (fun w s' z => ?_) fun _ _ x => x)
  obtain ⟨z', H', I', rz, y, ey, qz⟩ := z
  subst ey
  obtain ⟨t, e⟩ := (show ∃ t, w = Value.str y t from rz)
  cases e
  exact ⟨.str y, H', I', ⟨t, rfl⟩, qz⟩
/-- .. the written part by its own name (for a block) -/
theorem call_strOwnK {P : Program} {w : World} {K : PySem.W.Frag} {mg : Str → Option Value} {base : Heap} (hf : PySem.W.isFn K (.ref g) = true) (F : FnR P w K mg base CX n g sp) {A : Around} (hr : Room (n + 2) A) (hP : X.prog = P) (hw : X.w = w) (hK : X.K = K) (hmg : X.mg = mg) (hb : X.base = base) (hA : X.A = A) (hx : Passes CX X E) :
    CallR X (.type "str") (rStrOwn K g sp E) := by
  subst hP hw hK hmg hb hA
  exact call_strOwn hf F hr hx
end
end Ls
end
section
set_option Elab.async false
set_option linter.all false
set_option maxRecDepth 100000
set_option maxHeartbeats 4000000
namespace Ls
open PySem PySem.Spec PyProof.Rows L2

/-! ### a def that closes over __class__, its first statement super().__init__(..) -/
structure ScS (N ps : List Str) (sc : Scope) : Prop where
  kind : sc.kind = .function
  co : sc.isCoroutine = false
  gen : sc.isGenerator = false
  nd : N.Nodup
  pre : N.take ps.length = ps
  par : ∀ x ∈ ps, sc.names.lookup x = some .local
  nocell : ∀ y ∈ sc.names, y.2 ≠ .cell
  free : ∀ y ∈ sc.names, y.2 = .free → y.1 = "__class__"

def cxS (CX : CXT) (P : Program) (w : World) (K : PySem.W.Frag) (mg : Str → Option Value) (base : Heap) (N : List Str) (qual : Str) (scope : Scope) (f : Addr) (cd : Value) (cc : Addr) (A : Around) (outer : List Env) (s : Shared) (H : Hp) (E : XK) : Cx where
  prog := P
  w := w
  K := K
  mg := mg
  base := base
  A := A.deeper (PySem.W.ksEnv qual scope s.heap.objs.size f cd cc)
  N := N
  s_0 := s
  H_0 := H
  env := PySem.W.ksEnv qual scope s.heap.objs.size f cd cc
  outer := outer
  stack := PySem.W.ksEnv qual scope s.heap.objs.size f cd cc :: outer
  ex := []
  calm := true
  fn := fun x => !(x == ("__class__" : Str))
  pn := []
  xe := fun e s' => wpAny (model P w) (A.deeper (PySem.W.ksEnv qual scope s.heap.objs.size f cd cc)) (leaving (PySem.W.ksEnv qual scope s.heap.objs.size f cd cc) e) (fun _ s'' => CX outer H s E e s'') (fun e' s'' => CX outer H s E e' s'') s'

theorem rev_lookup {x : Str} {v : Value} : ∀ {ps : List Str} {us : List Value} {i : Nat}, ps.Nodup → ps[i]? = some x → us[i]? = some v → (ps.zip us).reverse.lookup x = some v
  | [], _, _, _, h, _ => by simp at h
  | _ :: _, [], _, _, _, h => by simp at h
  | p :: ps, u :: us, 0, nd, h1, h2 => by
    simp at h1 h2
    subst h1; subst h2
    rw [List.zip_cons_cons, List.reverse_cons, List.lookup_append]
    have : (ps.zip us).reverse.lookup p = none := by
      rw [List.lookup_eq_none_iff]
      rintro ⟨a, b⟩ hm
      have hm' := List.mem_reverse.mp hm
      have ha := (List.of_mem_zip hm').1
      have : p ≠ a := fun e => (List.nodup_cons.mp nd).1 (e ▸ ha)
      simpa using this
    rw [this]
    simp [List.lookup]
  | p :: ps, u :: us, i + 1, nd, h1, h2 => by
    rw [List.zip_cons_cons, List.reverse_cons, List.lookup_append, rev_lookup (i := i) (List.nodup_cons.mp nd).2 (by simpa using h1) (by simpa using h2)]
    rfl

section
variable {CX : CXT} {P : Program} {w : World} {K : PySem.W.Frag} {mg : Str → Option Value} {base : Heap} {N ps : List Str} {qual : Str} {scope : Scope} {f cc : Addr} {cd : Value} {A : Around} {outer : List Env} {s : Shared} {H : Hp} {E : XK} {us : List Value} {vs : List V}

theorem inv_startS {h1 : Heap} {tk : Nat} {ocell : Obj} {vc : Option Value} (S : ScS N ps scope) (hd : A.handled = none) (e0 : Env0 P w K mg base A outer s H) (hl : vs.length = ps.length) (r : Vals vs us)
    (hcell : K.lookup cc = some ocell) (hcd : ocell.data = .cell vc)
    (hns : h1.Ns s.heap.objs.size (fun x => (ps.zip us).reverse.lookup x)) (hk : ∀ b o, s.heap.get? b = some o → h1.get? b = some o) :
    Inv (cxS CX P w K mg base N qual scope f cd cc A outer s H E) [] (start N vs) H { s with heap := h1, toks := tk } := by
  have hpl : ps.length ≤ N.length := by have := congrArg List.length S.pre; rw [List.length_take] at this; omega
  have hccb : base.get? cc = some ocell := e0.mod.kin _ _ hcell
  have lkc : ∀ x c, List.lookup x [(("__class__" : Str), cc)] = some c → x = "__class__" ∧ c = cc := fun x c e => by
    by_cases hx : x = "__class__"
    · subst hx
      simp [List.lookup] at e
      exact ⟨rfl, e.symm⟩
    · have : (x == ("__class__" : Str)) = false := by simpa using hx
      simp [List.lookup, this] at e
  have noA : ∀ b : Addr, b ∉ (cxS CX P w K mg base N qual scope f cd cc A outer s H E).ex := fun b z => absurd (show b ∈ ([] : List Addr) from z) (by simp)
  refine ⟨⟨e0.mod, S.kind, rfl, rfl, Nat.le_refl _, fun y z c q1 q2 => ?_, fun y hy => ?_, fun y c hfn h => ?_, fun _ => hd, Around.frames_deeper e0.frames, .inr ⟨rfl, rfl⟩, fun b z => absurd z (noA b), e0.bs, e0.bsz, fun b _ _ => noA b, fun b z => absurd z (noA b), e0.funs, e0.frf⟩,
    rfl, e0.bare, Un.kept hk, ⟨_, hns, fun i y v q1 q2 q3 => ?_⟩, fun y c h => ?_, e0.hok.fresh (Nat.le_refl _), fun y c h => ?_, fun p hp => absurd (show p ∈ ([] : List (Addr × Obj)) from hp) (by simp), e0.hok.kept hk, ?_⟩
  · rw [(lkc y c q1).1, (lkc z c q2).1]
  · have hy : scope.names.lookup y = some .cell ∨ scope.names.lookup y = some .free := hy
    rcases hy with hy | hy
    · exact absurd rfl (S.nocell _ (PySem.mem_of_lookup hy))
    · have e := S.free _ (PySem.mem_of_lookup hy) rfl
      have e' : y = "__class__" := e
      subst e'
      exact ⟨cc, by show List.lookup _ [_] = _; simp [List.lookup]⟩
  · have e := (lkc y c h).1
    subst e
    exact absurd (show (!(("__class__" : Str) == ("__class__" : Str))) = true from hfn) (by simp)
  · have hi : i < vs.length := by
      unfold L2.start at q2
      by_cases hi : i < vs.length
      · exact hi
      · rw [List.getElem?_append_right (by simpa using hi)] at q2
        rw [List.getElem?_replicate] at q2
        split at q2 <;> cases q2
    have ha : vs[i]? = some v := by
      unfold L2.start at q2
      rw [List.getElem?_append_left (by simpa using hi), List.getElem?_map] at q2
      cases e : vs[i]? with
      | none => rw [e] at q2; cases q2
      | some a => rw [e] at q2; cases q2; rfl
    obtain ⟨u, hu, rv⟩ := r.get ha
    have hp : ps[i]? = some y := by
      rw [← S.pre, List.getElem?_take_of_lt (by omega)]; exact q1
    have ndP : ps.Nodup := by rw [← S.pre]; exact S.nd.sublist (List.take_sublist _ _)
    exact ⟨u, rv, .inl ⟨S.par y (List.mem_of_getElem? hp), rev_lookup ndP hp hu⟩⟩
  · obtain ⟨_, e⟩ := lkc y c h
    subst e
    exact ⟨vc, ocell, hk _ _ (e0.bs _ _ hccb).1, hcd⟩
  · obtain ⟨_, e⟩ := lkc y c h
    subst e
    exact (e0.bs _ _ hccb).2
  · unfold L2.start
    show _ = N.length
    rw [List.length_append, List.length_map, List.length_replicate]
    omega
end

/-- what the written part says for super().__init__ in a def of the class at D, of an instance of the class at C -/
structure SupT (P : Program) (K : PySem.W.Frag) (mg : Str → Option Value) (C D cc cda : Addr) (m : Str) (f2 : Addr) : Prop where
  cell : ∃ cl cld csl, K.lookup cc = some ⟨cl, cld, .cell (some (.ref D)), csl⟩
  code : ∃ ccl cdd vs ccs file tf, K.lookup cda = some ⟨ccl, cdd, .fields vs, ccs⟩ ∧ vs[2]? = some (.str file tf) ∧ ((P.main.file : Str) == file) = true
  clD : ∃ cdD, PySem.W.clsIn K D = some cdD
  sub : PySem.W.mroIn K C (.ref D) = some true
  sup : mg "super" = none
  top : (P.main.scope.names.lookup ("super" : Str)).isSome = false
  any : PySem.W.nsIn K cStatics "thirdparty.any" = some none
  fnd : PySem.W.ks_superIn K C D m = some (some (.ref f2))
  ty : PySem.W.typeIn K (.ref f2) = some (.type "function")
  fi : PySem.W.fnIn K f2 = true

section
variable {CX : CXT} {P : Program} {w : World} {K : PySem.W.Frag} {mg : Str → Option Value} {base : Heap} {k : Nat} {f cc cda : Addr} {name qual : Str} {params : Arguments} {scope : Scope} {dV kV doc pm ct oc : Value} {an od : Option Addr}
    {osl : Array (Option Value)} {N ps : List Str} {sp : Sp} {e : PySem.Expr} {es : List PySem.Expr} {rest : List Stmt} {m : Str} {p0 p1 apos pos epos : Pos} {pl : Sem Bool}
theorem fn_super (lk : K.lookup f = some ⟨oc, od, .func (PySem.W.ksFn name qual params (.Expr (.Call (.Attribute (.Call (.Name "super" p0) [] [] p1) m apos) (e :: es) [] pos) epos :: rest) scope dV kV doc pm an (.ref cda) ct cc), osl⟩)
    (hcd : PySem.W.codeIn K (.ref cda) qual = true) (S : ScS N ps scope)
    {ar : Arg} (hp0 : (params.posonlyargs ++ params.args).head? = some ar) (hps : ps.head? = some ar.arg) (hN0 : N.head? = some ar.arg) (har : scope.names.lookup ar.arg = some .local)
    (hks : scope.names.lookup ("super" : Str) = some .globalImplicit) (hkc : scope.names.lookup ("__class__" : Str) = some .free) (hmc : (m == ("__class__" : Str)) = false)
    (len : ∀ vs H Q E, sp vs H Q E → vs.length = ps.length)
    (hbody : ∀ (A : Around) (outer : List Env) (s : Shared) (H : Hp) (vs : List V) (Q : VK) (E : XK), Room k (A.deeper (PySem.W.ksEnv qual scope s.heap.objs.size f (.ref cda) cc)) → sp vs H Q E →
      ∃ (x C D dx f2 : Addr) (fs : List (Str × V)) (vs' : List V) (ta : TA) (u : TS) (spM : Sp) (CX' : CXT) (E' : XK), vs = .ref x :: vs' ∧ H x = some (.ins C dx fs) ∧ SupT P K mg C D cc cda m f2 ∧
        PA (cxS CX P w K mg base N qual scope f (.ref cda) cc A outer s H E) (e :: es) ta ∧ FnR P w K mg base CX' k f2 spM ∧ Passes CX' (cxS CX P w K mg base N qual scope f (.ref cda) cc A outer s H E) E' ∧
        PSs (cxS CX P w K mg base N qual scope f (.ref cda) cc A outer s H E) rest u ∧
        ta (start N vs) H (fun ws H1 => spM (.ref x :: ws) H1 (fun _ H2 => u { nx := fun _ H' => Q .non H', rt := Q } (start N vs) H2) E'))
    (hi : ∀ L, interactive (PySem.W.ksEnv qual scope L f (.ref cda) cc) = false) (hsw : ∀ L, swapsWith (.Call (.Attribute (.Call (.Name "super" p0) [] [] p1) m apos) (e :: es) [] pos) none epos.line (PySem.W.ksEnv qual scope L f (.ref cda) cc) = pure false)
    (he : ∀ L, eval (.Call (.Attribute (.Call (.Name "super" p0) [] [] p1) m apos) (e :: es) [] pos) (PySem.W.ksEnv qual scope L f (.ref cda) cc) = (do
      let ov ← attributeBase (.Call (.Name "super" p0) [] [] p1) m (PySem.W.ksEnv qual scope L f (.ref cda) cc) (eval (.Call (.Name "super" p0) [] [] p1) (PySem.W.ksEnv qual scope L f (.ref cda) cc))
      standAt apos.atName
      let (fn, first) ← holding [ov] (getMethod ov m pl)
      callWith pos fn first (backTo pos (starEach (e :: es) (PySem.W.ksEnv qual scope L f (.ref cda) cc))) []))
    (hst : ∀ L, starEach (e :: es) (PySem.W.ksEnv qual scope L f (.ref cda) cc) = (false, eval e (PySem.W.ksEnv qual scope L f (.ref cda) cc)) :: starEach es (PySem.W.ksEnv qual scope L f (.ref cda) cc))
    (hpl : ∀ L, (backTo pos (starEach es (PySem.W.ksEnv qual scope L f (.ref cda) cc))).any (·.1) = false) :
    FnOk P w K mg base CX (k + 1) f (PySem.W.ksFn name qual params (.Expr (.Call (.Attribute (.Call (.Name "super" p0) [] [] p1) m apos) (e :: es) [] pos) epos :: rest) scope dV kV doc pm an (.ref cda) ct cc) ps sp := by
  refine ⟨len, fun A outer s H args us vs Q E hr e0 hb r hsp => ?_⟩
  have hl := len _ _ _ _ hsp
  have KX : K.In s.heap := e0.mod.kin.keeps fun b o e => (e0.bs b o e).1
  have lim : s.heap.NoLimit := e0.mod.nolimit.keeps fun b o e => (e0.bs b o e).1
  obtain ⟨x, C, D, dx, f2, fs, vs', ta, u, spM, CX', E', rfl, hx, T, hta, FM, hpx, hrest, hq⟩ := hbody A outer s H vs Q E (hr.deeper _) hsp
  obtain ⟨cl, cld, csl, hcell⟩ := T.cell
  obtain ⟨ccl, cdd, cvs, ccs, file, tf, hcode, hvs, hfile⟩ := T.code
  obtain ⟨cdD, hD⟩ := T.clD
  refine PySem.ks_codeAny_call_defAt (binds := ps.zip us) hr.depth (KX _ _ lk) rfl lim (PySem.W.codeRec_of KX hcd) rfl hb S.nocell (fun y hy => S.par y.1 (List.of_mem_zip hy).1) (fun h1 hns hk => ?_) S.co S.gen S.kind
  have I : Inv (cxS CX P w K mg base N qual scope f (.ref cda) cc A outer s H E) [] (start N (.ref x :: vs')) H { s with heap := h1, toks := s.toks + (ps.zip us).length } :=
    inv_startS (vs := .ref x :: vs') S hr.hd e0 hl r hcell rfl hns hk
  have hX : K.In h1 := I.kIn
  obtain ⟨mA, O, _⟩ := ins_get I.hok hx
  obtain ⟨odx, J, _⟩ := O.look
  obtain ⟨oD, hD1, hD2⟩ : ∃ oD, h1.get? D = some oD ∧ oD.data = .cls cdD := by
    unfold PySem.W.clsIn at hD
    split at hD
    · rename_i c d cd' sl ho
      cases hD
      exact ⟨_, hX _ _ ho, rfl⟩
    · cases hD
  have hbase : ∀ b o, s.heap.get? b = some o → h1.get? b = some o := hk
  refine PySem.ks_wpAt_execs_cons (PySem.ks_wpAt_Expr_any (PySem.ks_wpAt_MethodCall (pl := pl) ?_ (he _)) (hi _) (hsw _))
  refine PySem.ks_wpAt_super_base (env := PySem.W.ksEnv qual scope s.heap.objs.size f (.ref cda) cc) hks hkc hmc rfl (hX _ _ lk) rfl hp0 rfl (hX _ _ hcode) rfl hvs hfile T.top ?_
  obtain ⟨mb, hb1, hb2⟩ := I.mod.blt
  refine PySem.W.ks_loadName_global S.kind hks (Calls.loadGlobal_builtin (env := PySem.W.ksEnv qual scope s.heap.objs.size f (.ref cda) cc) (I.mod.glob.keeps I.bk) T.sup (hb1.keeps I.bk) ((hb2 _ (by decide +kernel)).trans (show bootBuiltins "super" = some (.type "super") by first | rfl | kernel_rfl)) ⟨rfl, ?_⟩)
  refine wpAny_loadName_free S.kind hkc (by show List.lookup _ [_] = _; simp [List.lookup]) ⟨_, hX _ _ hcell, rfl⟩ ?_
  have hself : (ps.zip us).reverse.lookup ar.arg = some (.ref x) := by
    match ps, us, hps, r with
    | p :: ps', u' :: us', hp', .cons ru _ =>
      have hp'' : p = ar.arg := by simpa using hp'
      subst hp''
      cases (show u' = Value.ref x from ru)
      have ndP : (ar.arg :: ps').Nodup := by
        have := S.pre
        rw [← this]
        exact S.nd.sublist (List.take_sublist _ _)
      exact rev_lookup (i := 0) ndP rfl rfl
  refine wpAny_loadName_local S.kind har hns hself ?_
  refine PySem.ks_wpAny_isType_cls hD1 hD2 ⟨rfl, ?_⟩
  refine PySem.ks_wpAny_call_super hD1 hD2 J.at_ J.cls (fun c e => ?_) (PySem.W.looks_mroIn hX T.sub) (fun h' hso k' => ?_)
  · have := J.no
    unfold PySem.W.notCls at this
    rw [e] at this
    exact Bool.noConfusion this
  -- the super object is pinned
  have I1 : Inv (cxS CX P w K mg base N qual scope f (.ref cda) cc A outer s H E) [(h1.objs.size, PySem.W.ks_superObj D x C)] (start N (.ref x :: vs')) H { s with heap := h', toks := s.toks + (ps.zip us).length } :=
    ClX.pin_new (s := { s with heap := h1, toks := s.toks + (ps.zip us).length }) (t' := s.toks + (ps.zip us).length) I k' (Nat.le_refl _) hso (fun v z => nomatch z)
  have hX' : K.In h' := I1.kIn
  have fnd := T.fnd
  cases hc : PySem.W.clsIn K C with
  | none => unfold PySem.W.ks_superIn at fnd; rw [hc] at fnd; cases fnd
  | some cdC =>
    unfold PySem.W.ks_superIn at fnd
    rw [hc] at fnd
    obtain ⟨of, hof, hofc⟩ : ∃ of, h'.get? f2 = some of ∧ of.cls = .type "function" := by
      have ht' : (K.lookup f2).map (·.cls) = some (.type "function") := T.ty
      cases z : K.lookup f2 with
      | none => rw [z] at ht'; cases ht'
      | some of => rw [z] at ht'; exact ⟨of, hX' _ _ z, Option.some.inj ht'⟩
    refine PySem.ks_wpAny_getMethod_super (h := h') hso (PySem.W.looks_opaque hX' T.any) (l₀ := cdC.mro) ?_ rfl hX' fnd hof hofc (PySem.W.ks_ne hX J hc) hmc ?_
    · exact fun A Q E s k q => wpAny_bind ((PySem.W.looks_clsIn hX' hc) A _ E s k (wpAny_pure q))
    · have I2 := ClX.pin_new (s := { s with heap := h', toks := s.toks + (ps.zip us).length }) (o := PySem.W.methodObj (.ref f2) (.ref x)) (t' := s.toks + (ps.zip us).length + 1) I1 (fun _ _ z => Heap.get?_push_of_some _ z) (Nat.le_refl _) (Heap.get?_push_size h' rfl) (fun v z => nomatch z)
      refine ClX.callwith_cm (X := cxS CX P w K mg base N qual scope f (.ref cda) cc A outer s H E) I2 (ClX.base_none I1 (Nat.le_refl _)) T.fi (thn (hta.run pos _ _ _ H _ I2 hq) fun us2 s3 ⟨ws, H2, I3, rv, q2⟩ => ⟨⟨ClX.pin_at I3, I3.kIn⟩, ?_⟩) (hst _) (hpl _)
      refine thn (ClX.run_cm FM (hr.deeper _) hpx I3 rv q2) fun v s4 h4 => ?_
      obtain ⟨v4, H4, I4, _, q4⟩ := ClX.unpinE h4
      refine wpAt_of_wpAny (wpAny_mono (hrest.run [] s4 _ H4 _ I4 q4) (fun fl s' hs => ?_) fun e s' hs => hs)
      have fin : ∀ {σ' : L2.St} {H' : Hp} {v : V} {u : Value}, Inv (cxS CX P w K mg base N qual scope f (.ref cda) cc A outer s H E) [] σ' H' s' → RelV v u → Q v H' → CE outer P w H s Q u s' :=
        fun {σ' H' v u} J rv q => ⟨v, H', J.os, J.bare, J.base, J.hok, rv, q⟩
      cases fl with
      | ret u =>
        obtain ⟨v, σ', H', J, rv, q⟩ := hs
        exact fin J rv q
      | next =>
        obtain ⟨σ', H', J, q⟩ := hs
        exact fin (v := V.non) (u := Value.none) J rfl q
      | brk =>
        obtain ⟨_, _, _, q⟩ := hs
        exact False.elim q
      | cont =>
        obtain ⟨_, _, _, q⟩ := hs
        exact False.elim q
end
end Ls
end
section
set_option Elab.async false
set_option linter.all false
set_option maxRecDepth 100000
set_option maxHeartbeats 4000000
namespace LsN
open PySem PySem.SeqAt
open AutoSeq1 (wpAny_loadPart')
open MeetsSeq MeetsSeq2 MeetsSeq3 SeqRoads2
section
variable {prog : Program} {w : World} {A : Around} {R : Result → Shared → Prop}
theorem ne_loopG (l b : Addr) (N : Nat) (I : Nat → Shared → Prop) (hl : GQ.ListI prog w A (fun e s' => R (.error e) s') l b N I)
    (fin : ∀ s, I N s → R (.ok (.ret (.bool false))) s) (k : Nat) :
    ∀ i : Nat, N - i = k → i ≤ N → ∀ s, I i s →
      wpAny (model prog w) A.in1 (Builtin.«list.__eq__.loop» ⟨[.ref l, .ref b, rawInt i, rawInt 3], []⟩) (GQ.FinOf prog w A R) (fun e s' => R (.error e) s') s := by
  induction k with
  | zero =>
    intro i hk hi s h
    obtain ⟨items, items2, n, n2, hl1, hb1, hs1, hs2, _⟩ := hl _ _ h
    have hi' : i = N := by omega
    have hR : R (.ok (.ret (.bool false))) s := fin s (hi' ▸ h)
    obtain ⟨hp, g, d, tk, os⟩ := s
    wp_walk using wpAny_loadPart' hl1, wpAny_loadPart' hb1
    have hi1 : items[((i : Nat) : Int).toNat]? = none := by simp; omega
    have hi2 : items2[((i : Nat) : Int).toNat]? = none := by simp; omega
    rw [hi1, hi2]
    wp_walk using wpAny_loadPart' hl1, wpAny_loadPart' hb1
    show R (.ok (.ret (.bool (items.size != items2.size)))) _
    rw [hs1, hs2]
    simpa using hR
  | succ k ih =>
    intro i hk hi s h
    obtain ⟨items, items2, n, n2, hl1, hb1, hs1, hs2, turn⟩ := hl _ _ h
    have hlt : i < items.size := by omega
    have hlt2 : i < items2.size := by omega
    have ht := turn hlt hlt2
    obtain ⟨hp, g, d, tk, os⟩ := s
    wp_walk using wpAny_loadPart' hl1, wpAny_loadPart' hb1
    have hi1 : items[((i : Nat) : Int).toNat]? = some items[i] := by simp [hlt]
    have hi2 : items2[((i : Nat) : Int).toNat]? = some items2[i] := by simp [hlt2]
    have hc : ((i : Int) + 1) = ((i + 1 : Nat) : Int) := by omega
    rw [hi1, hi2]
    refine wpAny_bind (wpAny_mono ht (fun r s2 h2 => ?_) fun _ _ x => x)
    obtain ⟨hr, h2⟩ := h2
    subst hr
    have hrec := ih (i + 1) (by omega) (by omega) s2 h2
    obtain ⟨hp2, g2, d2, tk2, os2⟩ := s2
    wp_walk
    rw [hc]
    exact ⟨plainId_quiet plain_eq_loop _, codeAny_builtin entry_eq_loop (by
      rw [Around.under_plainId plain_eq_loop _]
      exact hrec)⟩
theorem list_neG (l b : Addr) (N : Nat) (I : Nat → Shared → Prop) (hl : GQ.ListI prog w A (fun e s' => R (.error e) s') l b N I)
    (fin : ∀ s, I N s → R (.ok (.ret (.bool false))) s) {s : Shared} (h : I 0 s) :
    wpAny (model prog w) A.in1 (Builtin.«list.__ne__» ⟨[.ref l, .ref b], []⟩) (GQ.FinOf prog w A R) (fun e s' => R (.error e) s') s := by
  obtain ⟨items, items2, n, n2, hl1, hb1, hs1, hs2, _⟩ := hl _ _ h
  have hrec := ne_loopG (A := A) (R := R) l b N I hl fin _ 0 rfl (Nat.zero_le _) s h
  obtain ⟨hp, g, d, tk, os⟩ := s
  have f3 := AutoSeq1.sub_list_list
  have hne : ¬ (items.size != items2.size) = true := by simp [hs1, hs2]
  wp_walk using wpAny_loadPart' hl1, wpAny_loadPart' hb1
  exact ⟨plainId_quiet plain_eq_loop _, codeAny_builtin entry_eq_loop (by
    rw [Around.under_plainId plain_eq_loop _]
    exact hrec)⟩
end
section
variable {prog : Program} {w : World} {A : Around} {E : Value → Shared → Prop} {s : Shared}
theorem rc_listNe {l b : Addr} {N : Nat} {Q : Value → Shared → Prop} (hu : A.units < cLine) (I : Nat → Shared → Prop) (hl : GQ.ListI prog w A E l b N I)
    (fin : ∀ s, I N s → Q (.bool false) s) (h : I 0 s) : wpAny (model prog w) A (richCompare .NotEq (.ref l) (.ref b)) Q E s := by
  obtain ⟨items, items2, n, n2, hl1, hb1, _, _, _⟩ := hl _ _ h
  refine wpAny_richCompare_same_room (op := .NotEq) ⟨_, hl1, rfl⟩ ⟨_, hb1, rfl⟩ F.slot_list_ne (GQ.call_here F.slot_list_ne ⟨_, hl1, rfl⟩ F.entry_list_ne (F.args_list_ne_2 _ _) ?_) hu
  exact list_neG (R := wants (fun v s' => v ≠ .notImplemented ∧ Q v s') E) l b N I hl (fun s' q => ⟨(fun x => nomatch x), fin s' q⟩) h
end
end LsN
namespace Ls
open PySem PySem.Spec PyProof.Rows L2
section
variable {X : Cx} {n : Nat} {D : Eqv}
/-- x != y of two lists whose items are equal (by ==, which only makes objects): False -/
def rNeG (D : Eqv) : R2 := fun x y H Q => DList D x y H ∧ ∀ H', Ext H H' → Q (.bl false) H'
theorem op_neG (hD : Mon D) (h : EqG X n D) (hr : Room (n + 1) X.A) : OpR X (compareOp .NotEq) (rNeG D) := by
  intro pins s σ H x y v u Q I rx ry hq
  obtain ⟨⟨a, b, xs, ys, rfl, rfl, ha, hb, p⟩, q⟩ := hq
  cases (show v = Value.ref a from rx)
  cases (show u = Value.ref b from ry)
  show wpAny (model X.prog X.w) X.A (richCompare .NotEq (.ref a) (.ref b)) (EP X pins σ Q) X.xe s
  have sb : L2.Sub X (n + 1) X.A := ⟨hr, rfl⟩
  refine LsN.rc_listNe (N := xs.length) hr.units0 (fun _ s' => LoopI X pins σ H s') (fun i s' q => ?_) (fun s' q' => ?_) ⟨H, I, Ext.rfl'⟩
  · obtain ⟨H1, I1, e1⟩ := id q
    obtain ⟨z, its, k, r, e⟩ := I1.hok a _ (e1 _ _ ha)
    obtain ⟨z2, its2, k2, r2, e2⟩ := I1.hok b _ (e1 _ _ hb)
    refine ⟨its.toArray, its2.toArray, k, k2, e, e2, by rw [List.size_toArray, ← r.length], by rw [List.size_toArray, ← r2.length, ← p.1], fun h1 h2 => ?_⟩
    exact turnG hD h sb p r r2 i h1 h2 s' q
  · obtain ⟨H', I', e'⟩ := q'
    exact ⟨.bl false, H', I', rfl, q H' e'⟩
end
end Ls
end
section
set_option Elab.async false
set_option linter.all false
set_option maxRecDepth 100000
set_option maxHeartbeats 4000000
namespace Ls
open PySem PySem.Spec PyProof.Rows L2

/-! ### callees in one word -/
section
variable (P : Program) (w : World) (K : PySem.W.Frag) (mg : Str → Option Value) (base : Heap) (CX : CXT) (k : Nat)
/-- the def under the module's name x keeps sp -/
structure Cal (x : Str) (sp : Sp) : Prop where
  ex : ∃ f, mg x = some (.ref f) ∧ PySem.W.keepIn K (.ref f) = true ∧ FnR P w K mg base CX k f sp
/-- .. called with one keyword -/
structure CalK (x a : Str) (sp : Sp) : Prop where
  ex : ∃ f fd, mg x = some (.ref f) ∧ PySem.W.keepIn K (.ref f) = true ∧ KBn K fd [a] 0 [a] (fun _ ws => ws) (fun _ zs => zs) ∧ FnOk P w K mg base CX k f fd [a] sp
/-- the class at C under the module's name x; its __init__ keeps sp -/
structure Mkc (C : Addr) (x : Str) (sp : Sp) : Prop where
  ex : ∃ f, mg x = some (.ref C) ∧ Mk K C f ∧ FnR P w K mg base CX k f sp
/-- the classmethod m of the class at C keeps sp -/
structure Clm (C : Addr) (m : Str) (sp : Sp) : Prop where
  ex : ∃ mc p g, ClX.CRead K C mc ∧ ClX.CMet K C mc m p g ∧ FnR P w K mg base CX k g sp
end
def tCl (sp : Sp) (E : XK) (t : TA) : TE := fun σ H Q => t σ H fun vs H1 => sp vs H1 Q E
section
variable {X : Cx} {CX : CXT} {k : Nat} {C : Addr} {sp : Sp} {E : XK} {x m a : Str} {p pos apos : Pos} {e o : PySem.Expr} {es : List PySem.Expr} {kws : List Keyword} {ta : TE} {t tk : TA} {pl : Sem Bool}
theorem pe_cal (c : Cal X.prog X.w X.K X.mg X.base CX k x sp) (hr : Room k X.A) (hg : Gl X x) (hx : Passes CX X E) (ha : PA X (e :: es) t) (hd : (x == ("__debug__" : Str)) = false := by decide)
    (he : starEach (e :: es) X.env = (false, eval e X.env) :: starEach es X.env := by rfl) (hpl : (backTo pos (starEach es X.env)).any (·.1) = false := by rfl) :
    PE X (.Call (.Name x p) (e :: es) [] pos) (tCl sp E t) := by
  obtain ⟨f, hm, hk, F⟩ := c.ex
  refine ⟨fun pins s σ H Q I h => ?_⟩
  refine wpAny_Call_Name_kw (ld_glob I hg hm ?_ hd)
  refine PySem.W.callWith_K (h₀ := X.base) I.ok.mod.kin hk (thn (ha.run pos pins s σ H _ I h) fun us s1 ⟨vs, H1, I1, r, q⟩ => ⟨I1.kIn, ?_⟩) he hpl
  exact wpAny_call (run_fnR F hr hx I1 r q)
theorem pe_calk (c : CalK X.prog X.w X.K X.mg X.base CX k x a sp) (hr : Room k X.A) (hg : Gl X x) (hx : Passes CX X E)
    (hkw : PK X kws tk) (hall : (backToKw pos (keywordEach kws X.env)).all (·.1.isSome) = true := by rfl) (hks : (backToKw pos (keywordEach kws X.env)).filterMap (·.1) = [a] := by rfl)
    (hdb : (x == ("__debug__" : Str)) = false := by decide)
    (hpl : ((backTo pos (starEach [] X.env)).any (·.1) || (backToKw pos (keywordEach kws X.env)).any (·.1.isNone)) = false := by rfl) :
    PE X (.Call (.Name x p) [] kws pos) (tCallN 0 1 sp (fun _ zs => zs) E tNil tk) := by
  obtain ⟨f, fd, hm, hk, hb, F⟩ := c.ex
  exact pe_callK0 F hr hg hm hk hb hx hkw hall hks hdb hpl
theorem pe_mkc (c : Mkc X.prog X.w X.K X.mg X.base CX k C x sp) (hr : Room (k + 1) X.A) (hg : Gl X x) (hx : Passes CX X E) (ha : PA X (e :: es) t) (hdb : (x == ("__debug__" : Str)) = false := by decide)
    (he : starEach (e :: es) X.env = (false, eval e X.env) :: starEach es X.env := by rfl) (hpl : (backTo pos (starEach es X.env)).any (·.1) = false := by rfl) :
    PE X (.Call (.Name x p) (e :: es) [] pos) (StX.tMakeR C sp E t) := by
  obtain ⟨f, hm, M, F⟩ := c.ex
  exact StX.pe_makeR M F hr hg hm hx ha hdb he hpl
theorem pe_clm (c : Clm X.prog X.w X.K X.mg X.base CX k C m sp) (hr : Room k X.A) (ho : PE X o ta) (hx : Passes CX X E) (ha : PA X (e :: es) t)
    (hst : starEach (e :: es) X.env = (false, eval e X.env) :: starEach es X.env := by rfl) (hpl : (backTo pos (starEach es X.env)).any (·.1) = false := by rfl)
    (ht : eval (.Call (.Attribute o m apos) (e :: es) [] pos) X.env = (do
      let ov ← eval o X.env
      standAt apos.atName
      let (f, first) ← holding [ov] (getMethod ov m pl)
      callWith pos f first (backTo pos (starEach (e :: es) X.env)) (backToKw pos (keywordEach [] X.env))) := by rfl) :
    PE X (.Call (.Attribute o m apos) (e :: es) [] pos) (ClX.tCMeth C sp E ta t) := by
  obtain ⟨mc, p, g, r, c, F⟩ := c.ex
  exact ClX.pe_cmeth (pl := pl) ho r c F hr hx ha hst hpl ht
end

theorem iteNo {c : Bool} {A B : Prop} (hc : c = false) (h : B) : if c = true then A else B := by rw [hc, if_neg Bool.false_ne_true]; exact h
theorem strNo {a b : Str} (h : ¬ a = b) : decide (V.str a = V.str b) = false := decide_eq_false fun e => h (V.str.inj e)
theorem iteYes {c : Bool} {A B : Prop} (hc : c = true) (h : A) : if c = true then A else B := by rw [hc, if_pos rfl]; exact h
/-! ### constants of the module -/
section
variable {X : Cx} {x z : Str} {i : Int} {tk : Tok} {a : Addr} {pos : Pos}
theorem pe_gstr (hg : Gl X x) (hm : X.mg x = some (.str z tk)) (hd : (x == ("__debug__" : Str)) = false := by decide) : PE X (.Name x pos) (tC (.str z)) := pe_glob hg hm ⟨_, rfl⟩ hd
theorem pe_gint (hg : Gl X x) (hm : X.mg x = some (.int i tk)) (hd : (x == ("__debug__" : Str)) = false := by decide) : PE X (.Name x pos) (tC (.int i)) := pe_glob hg hm ⟨_, rfl⟩ hd
theorem pe_gref (hg : Gl X x) (hm : X.mg x = some (.ref a)) (hd : (x == ("__debug__" : Str)) = false := by decide) : PE X (.Name x pos) (tC (.ref a)) := pe_glob hg hm rfl hd
theorem pe_gty {T : String} (hg : Gl X x) (hm : X.mg x = none) (hv : bootBuiltins x = some (.type T)) (hn : x ≠ "__name__" := by decide) (hd : (x == ("__debug__" : Str)) = false := by decide) : PE X (.Name x pos) (tC (.ty T)) := pe_bltn hg hm hv rfl hn hd
end

/-! ### what a dict's table says behind a store -/
theorem len_put {κ : Type} [DecidableEq κ] {kvs : List (κ × V)} {k : κ} {x v : V} (h : valV kvs k = some x) : (putK kvs k v).length = kvs.length := by
  unfold putK
  rw [valV_any, h]
  simp
theorem val_same {κ : Type} [DecidableEq κ] {kvs : List (κ × V)} {k : κ} {v : V} : valV (putK kvs k v) k = some v := by rw [valV_put, if_pos rfl]
theorem val_other {κ : Type} [DecidableEq κ] {kvs : List (κ × V)} {k j : κ} {v : V} {r : Option V} (hne : ¬ j = k) (h : valV kvs j = r) : valV (putK kvs k v) j = r := by rw [valV_put, if_neg hne]; exact h

/-! ### heaps that keep all but two objects -/
def Keep (p c : Addr) (H H' : Hp) : Prop := ∀ b o, H b = some o → b ≠ p → b ≠ c → H' b = some o
theorem Keep.refl {p c : Addr} {H : Hp} : Keep p c H H := fun _ _ e _ _ => e
theorem Keep.trans {p c : Addr} {H H1 H2 : Hp} (a : Keep p c H H1) (b : Keep p c H1 H2) : Keep p c H H2 := fun d o e h1 h2 => b d o (a d o e h1 h2) h1 h2
theorem Keep.upd1 {p c : Addr} {H : Hp} {o : HO} : Keep p c H (upd H p o) := fun b u e h1 _ => by rw [upd_ne h1]; exact e
theorem Keep.upd2 {p c : Addr} {H : Hp} {o : HO} : Keep p c H (upd H c o) := fun b u e _ h2 => by rw [upd_ne h2]; exact e
theorem Keep.ext {p c : Addr} {H H' : Hp} (e : Ext H H') : Keep p c H H' := fun b o h _ _ => e b o h
theorem Keep.new {p c a : Addr} {H : Hp} {o : HO} (h : H a = none) : Keep p c H (upd H a o) := Keep.ext (Ext.upd h)

/-! ### rules within a comprehension's block: the written part by its own name -/
section
variable {X : Cx} {K : PySem.W.Frag}
theorem pi_listK {tg l : PySem.Expr} {tl : TE} (hK : X.K = K) (hl : PE X l tl) : PI X tg l (iList K tl) := by subst hK; exact pi_list hl
theorem pi_tupK {tg l : PySem.Expr} {tl : TE} (hK : X.K = K) (hl : PE X l tl) : PI X tg l (iTup K tl) := by subst hK; exact pi_tup hl
def rTupOf (K : PySem.W.Frag) : List V → Hp → VK → Prop := fun xs H Q => ∃ p ys, xs = [.ref p] ∧ ((SqL K H p ys ∧ ∀ l, H l = none → Q (.ref l) (upd H l (.tup ys))) ∨ (SqT K H p ys ∧ Q (.ref p) H))
theorem call_tupK (hK : X.K = K) : CallR X (.type "tuple") (rTupOf K) := by subst hK; exact call_tuple_of
def rLenSeq (K : PySem.W.Frag) : List V → Hp → VK → Prop := fun xs H Q => ∃ p ys, xs = [.ref p] ∧ (SqL K H p ys ∨ SqT K H p ys) ∧ Q (.int ys.length) H
theorem call_lenK (hK : X.K = K) : CallR X (.builtin "len") (rLenSeq K) := by subst hK; exact call_len_seq
theorem call_isiB (hK : X.K = K) : CallR X (.builtin "isinstance") (rIsi K) := by subst hK; exact call_isi
def rJoinK (K : PySem.W.Frag) : V → List V → Hp → VK → Prop := fun x xs H Q => ∃ a p, ∃ ys : List Str, x = .str a ∧ xs = [.ref p] ∧ (SqL K H p (ys.map V.str) ∨ SqT K H p (ys.map V.str)) ∧ (ys.map (·.length)).sum + ys.length * a.length ≤ 16777216 ∧ Q (.str (Txt.join a ys)) H
theorem pe_joinK {o e : PySem.Expr} {to te : TE} {apos pos : Pos} (hK : X.K = K) (ho : PE X o to) (he : PE X e te) (hs : starEach [e] X.env = [(false, eval e X.env)] := by rfl) (hbase : attributeBase o "join" X.env (eval o X.env) = eval o X.env := by rfl) (hline : (apos.endLine == pos.line) = true := by rfl) :
    PE X (.Call (.Attribute o "join" apos) [e] [] pos) (tM1 (rJoinK K) to te) := by subst hK; exact pe_join ho he hs hbase hline
end

/-! ### a list beside [] -/
def rNeNil : R2 := fun x y H Q => ∃ a b xs, x = .ref a ∧ y = .ref b ∧ H a = some (.lst xs) ∧ H b = some (.lst []) ∧ Q (.bl (!xs.isEmpty)) H
def rEqNil : R2 := fun x y H Q => ∃ a b xs, x = .ref a ∧ y = .ref b ∧ H a = some (.lst xs) ∧ H b = some (.lst []) ∧ Q (.bl xs.isEmpty) H
section
variable {X : Cx}
theorem op_neNil {k : Nat} (hr : Room k X.A) : OpR X (compareOp .NotEq) rNeNil := by
  intro pins s σ H x y v u Q I rx ry hq
  obtain ⟨a, b, xs, rfl, rfl, ha, hb, q⟩ := hq
  cases (show v = Value.ref a from rx)
  cases (show u = Value.ref b from ry)
  show wpAny (model X.prog X.w) X.A (richCompare .NotEq (.ref a) (.ref b)) (EP X pins σ Q) X.xe s
  obtain ⟨its, r, p1, _⟩ := I.list (SqL.of (K := X.K) ha)
  obtain ⟨its2, r2, p2, _⟩ := I.list (SqL.of (K := X.K) hb)
  cases r2
  cases r with
  | nil => exact SeqAt.RcNeAt.lists (e := fun _ => true) p1.isList p2.isList rfl hr.units0 (fun j h1 _ => absurd h1 (by simp)) X.prog X.w X.xe _ ⟨.bl false, H, I, rfl, q⟩
  | cons r0 r1 => exact SeqAt.RcNeAt.lists_lengths p1.isList p2.isList (by simp) hr.units0 X.prog X.w X.xe _ ⟨.bl true, H, I, rfl, q⟩
theorem op_eqNil {k : Nat} (hr : Room k X.A) : OpR X (compareOp .Eq) rEqNil := by
  intro pins s σ H x y v u Q I rx ry hq
  obtain ⟨a, b, xs, rfl, rfl, ha, hb, q⟩ := hq
  cases (show v = Value.ref a from rx)
  cases (show u = Value.ref b from ry)
  show wpAny (model X.prog X.w) X.A (richCompare .Eq (.ref a) (.ref b)) (EP X pins σ Q) X.xe s
  obtain ⟨its, r, p1, _⟩ := I.list (SqL.of (K := X.K) ha)
  obtain ⟨its2, r2, p2, _⟩ := I.list (SqL.of (K := X.K) hb)
  cases r2
  cases r with
  | nil => exact SeqAt.RcAt.lists (e := fun _ => true) p1.isList p2.isList rfl hr.units0 (fun j h1 _ => absurd h1 (by simp)) X.prog X.w X.xe _ ⟨.bl true, H, I, rfl, q⟩
  | cons r0 r1 => exact SeqAt.RcAt.lists_lengths p1.isList p2.isList (by simp) hr.units0 X.prog X.w X.xe _ ⟨.bl false, H, I, rfl, q⟩
end
end Ls
end
section
set_option Elab.async false
set_option linter.all false
set_option maxRecDepth 100000
set_option maxHeartbeats 4000000
namespace Ls
open PySem PySem.Spec PyProof.Rows L2

/-! ### parts of a heap -/
/-- what is new in H' beside H -/
def nw (H H' : Hp) : Hp := fun b => match H b with | none => H' b | some _ => none
theorem nw_at {H H' : Hp} {b : Addr} (h : H b = none) : nw H H' b = H' b := by unfold nw; rw [h]
theorem nw_some {H H' : Hp} {b : Addr} {o : HO} (h : nw H H' b = some o) : H b = none ∧ H' b = some o := by
  unfold nw at h
  cases e : H b with
  | none => rw [e] at h; exact ⟨rfl, h⟩
  | some u => rw [e] at h; cases h
theorem nw_ext {H H' : Hp} : Ext (nw H H') H' := fun a o e => (nw_some e).2
/-- new beside H1, where H1 has grown from H: new beside H -/
theorem nw_back {H H1 H2 : Hp} (e : Ext H H1) : Ext (nw H1 H2) (nw H H2) := fun a o h => by
  obtain ⟨h1, h2⟩ := nw_some h
  have : H a = none := by
    cases q : H a with
    | none => rfl
    | some u => rw [e a u q] at h1; cases h1
  rw [nw_at this]; exact h2
theorem nw_more {H H1 H2 : Hp} (e : Ext H1 H2) : Ext (nw H H1) (nw H H2) := fun a o h => by
  obtain ⟨h1, h2⟩ := nw_some h
  rw [nw_at h1]; exact e a o h2
/-- H without the objects at S -/
def hid (S : List Addr) (H : Hp) : Hp := fun b => if b ∈ S then none else H b
theorem hid_at {S : List Addr} {H : Hp} {b : Addr} (h : b ∉ S) : hid S H b = H b := by unfold hid; rw [if_neg h]
theorem hid_some {S : List Addr} {H : Hp} {b : Addr} {o : HO} (h : hid S H b = some o) : b ∉ S ∧ H b = some o := by
  unfold hid at h
  by_cases e : b ∈ S
  · rw [if_pos e] at h; cases h
  · rw [if_neg e] at h; exact ⟨e, h⟩
theorem hid_ext {S : List Addr} {H : Hp} : Ext (hid S H) H := fun a o e => (hid_some e).2
theorem hid_nil {H : Hp} : hid [] H = H := by funext b; unfold hid; simp
theorem hid_mono {S : List Addr} {H H' : Hp} (e : Ext H H') : Ext (hid S H) (hid S H') := fun a o h => by
  obtain ⟨h1, h2⟩ := hid_some h
  rw [hid_at h1]; exact e a o h2
/-- a fresh place more is hidden -/
theorem hid_cons {S : List Addr} {H : Hp} {D : Addr} (h : H D = none) : Ext (hid S H) (hid (D :: S) H) := fun a o e => by
  obtain ⟨h1, h2⟩ := hid_some e
  have : a ≠ D := ne_of_none h2 h
  rw [hid_at (by simp [this, h1])]; exact h2
theorem hid_less {S S' : List Addr} {H : Hp} (h : ∀ b ∈ S', b ∈ S) : Ext (hid S H) (hid S' H) := fun a o e => by
  obtain ⟨h1, h2⟩ := hid_some e
  rw [hid_at fun z => h1 (h a z)]; exact h2
theorem hid_upd {S : List Addr} {H : Hp} {D : Addr} {o : HO} (h : D ∈ S) : hid S (upd H D o) = hid S H := by
  funext b
  unfold hid
  by_cases e : b ∈ S
  · rw [if_pos e, if_pos e]
  · rw [if_neg e, if_neg e, upd_ne (show b ≠ D from fun z => e (by rw [z]; exact h))]
theorem hid_upd_new {S : List Addr} {H : Hp} {a : Addr} {o : HO} (h : H a = none) : Ext (hid S H) (hid S (upd H a o)) := hid_mono (Ext.upd h)
/-- what is new beside H lies outside of what stood -/
theorem nw_hid {S : List Addr} {H H' : Hp} (h : ∀ b ∈ S, H b ≠ none) : Ext (nw H H') (hid S H') := fun a o e => by
  obtain ⟨h1, h2⟩ := nw_some e
  rw [hid_at fun z => h a z h1]; exact h2
theorem hid_keep {p c : Addr} {H H' : Hp} (k : Keep p c H H') : Ext (hid [p, c] H) (hid [p, c] H') := fun a o e => by
  obtain ⟨h1, h2⟩ := hid_some e
  rw [hid_at h1]
  exact k a o h2 (fun z => h1 (by simp [z])) fun z => h1 (by simp [z])

theorem hid_keepS {p c : Addr} {S : List Addr} {H H' : Hp} (k : Keep p c H H') (hp : p ∈ S) (hc : c ∈ S) : Ext (hid S H) (hid S H') := fun a o e => by
  obtain ⟨h1, h2⟩ := hid_some e
  rw [hid_at h1]
  exact k a o h2 (fun z => h1 (by rw [z]; exact hp)) fun z => h1 (by rw [z]; exact hc)
theorem Ext.at' {S : List Addr} {H H' : Hp} (e : Ext (hid S H) (hid S H')) {a : Addr} {o : HO} (h : a ∉ S) (q : H a = some o) : H' a = some o := (hid_some (e a o (by rw [hid_at h]; exact q))).2

/-! ### a comprehension that makes one item a turn: R tells what the items are, in the heap without S -/
section
variable {J : It} {n : Nat} {G : Hp → Prop} {Y : Nat → Hp → V → Hp → Prop} {g : TG} {te : TE} {vs : List Nat} {σ : L2.St} {H1 : Hp} {D : Addr} {Qd : Hp → Prop}
theorem lc_map (w : Walk J n G Y) (S : List Addr) (hS : D ∈ S) (Iv : Hp → Prop) (R : Nat → V → Hp → Prop) (hn : n ≤ 100000) (hm : ∀ j y H H', Ext H H' → R j y H → R j y H')
    (hIv : ∀ H o, Iv H → Iv (upd H D o)) (h0 : Iv (upd H1 D (.lst []))) (hG : ∀ H, Ext (hid S H1) (hid S H) → Iv H → G H)
    (hs : ∀ i x H H' acc (C : VK), i < n → Ext (hid S H1) (hid S H) → Iv H → H D = some (.lst acc) → Y i H x H' → (∀ y H4, H4 D = some (.lst acc) → Ext (hid S H) (hid S H4) → Iv H4 → R i y (hid S H4) → C y H4) →
      g x (wipe σ vs) H' fun σ2 H2 => wipe σ2 vs = wipe σ vs ∧ te σ2 H2 C)
    (hd : ∀ H ys, Ext (hid S H1) (hid S H) → Iv H → H D = some (.lst ys) → ys.length = n → (∀ j y, ys[j]? = some y → R j y (hid S H)) → Qd H) :
    ∃ W : Nat → Nat → Hp → Prop, (∃ m, W 0 m (upd H1 D (.lst []))) ∧ ∀ i m H, W i m H →
      (J.stop i H ∧ Qd H) ∨ (J.go i H ∧ ∃ Nx : Hp → Prop, (∀ H', Nx H' → ∃ m', m' < m ∧ W (i + 1) m' H') ∧ ∀ x H', J.yld i H x H' → g x (wipe σ vs) H' fun σ2 H2 => wipe σ2 vs = wipe σ vs ∧ tYes σ2 H2 fun b H3 =>
        if b = true then te σ2 H3 fun y H4 => ∃ acc, H4 D = some (.lst acc) ∧ acc.length < sizeLine ∧ Nx (upd H4 D (.lst (acc ++ [y]))) else Nx H3) := by
  refine lc_it w (fun i H => ∃ ys : List V, H D = some (.lst ys) ∧ ys.length = i ∧ Ext (hid S H1) (hid S H) ∧ Iv H ∧ ∀ j y, ys[j]? = some y → R j y (hid S H))
    ⟨[], upd_same, rfl, by rw [hid_upd hS]; exact Ext.rfl', h0, fun j y e => by simp at e⟩ (fun i H _ ⟨_, _, _, e, iv, _⟩ => hG H e iv) ?_ ?_
  · rintro i x H H' hi ⟨ys, hD, hl, e, iv, r⟩ y
    refine hs i x H H' ys _ hi e iv hD y fun v H4 h4 e4 iv4 r4 => ?_
    refine ⟨ys, h4, Nat.lt_of_le_of_lt (show ys.length ≤ 100000 by omega) (by decide), ys ++ [v], upd_same, by rw [List.length_append, hl]; rfl, by rw [hid_upd hS]; exact e.trans e4, hIv _ _ iv4, fun j z hz => ?_⟩
    rw [hid_upd hS]
    by_cases hj : j < ys.length
    · rw [List.getElem?_append_left hj] at hz
      exact hm j z _ _ e4 (r j z hz)
    · rw [List.getElem?_append_right (by omega)] at hz
      have : j = i := by
        cases q : j - ys.length with
        | zero => omega
        | succ k => rw [q] at hz; simp at hz
      subst this
      rw [hl] at hz
      simp at hz
      subst hz
      exact r4
  · rintro H ⟨ys, hD, hl, e, iv, r⟩
    exact hd H ys e iv hD hl r
end
end Ls
end
section
set_option Elab.async false
set_option linter.all false
set_option maxRecDepth 100000
set_option maxHeartbeats 4000000
namespace Ls
open PySem PySem.Spec PyProof.Rows L2

/-! ### an exception that is kept as a value -/
/-- at a: an exception of the class cls, its dict at d -/
def exk (a : Addr) (cls : Value) (d : Option Addr) : HO := .ext fun h => ∃ (oe : Obj) (vs : Array Value), h.get? a = some oe ∧ Zc cls d oe ∧ oe.data = .fields vs
theorem exk_ok {P : Program} {w : World} {H : Hp} {h : Heap} {a : Addr} {cls : Value} {d : Option Addr} {oe : Obj} {vs : Array Value} (e : h.get? a = some oe) (z : Zc cls d oe) (q : oe.data = .fields vs) : ObjOk P w H h a (exk a cls d) :=
  ⟨⟨oe, vs, e, z, q⟩, ⟨oe, e⟩, fun _ _ ⟨o, v, q, r⟩ k => ⟨o, v, k o q, r⟩⟩
theorem exk_at {P : Program} {w : World} {H : Hp} {h : Heap} {a : Addr} {cls : Value} {d : Option Addr} (hok : HOk P w H h) (e : H a = some (exk a cls d)) : ∃ (oe : Obj) (vs : Array Value), h.get? a = some oe ∧ Zc cls d oe ∧ oe.data = .fields vs := by
  have x : ObjOk P w H h a (.ext fun h => ∃ (oe : Obj) (vs : Array Value), h.get? a = some oe ∧ Zc cls d oe ∧ oe.data = .fields vs) := hok a _ e
  exact x.1
section
variable {X : Cx} {pins : List (Addr × Obj)} {σ : L2.St} {H : Hp} {s : Shared}
/-- an object that stands and is not known from before is tracked from now on -/
theorem inv_track {a : Addr} {o : HO} (I : Inv X pins σ H s) (hn : H a = none) (h0 : X.s_0.heap.get? a = none) (hl : a ≠ X.env.locals) (hc : ∀ x c, X.env.cells.lookup x = some c → c ≠ a) (hp : ∀ p ∈ X.pn ++ pins, p.1 ≠ a)
    (new : ObjOk X.prog X.w (upd H a o) s.heap a o) : Inv X pins σ (upd H a o) s := by
  have n0 : ∀ b u, X.s_0.heap.get? b = some u → b ≠ a := fun b u e z => by
    rw [z, h0] at e
    cases e
  refine ⟨I.ok, I.os, I.bare, ⟨I.base.keep, I.base.slot, fun b u e n hq => ?_, I.base.there, fun b xs e => ?_, fun b u v e => ?_, fun b ps e => ?_⟩, I.loc, I.cell, ?_, fun x c e => ?_, fun p q => ?_, I.hok.laidN (fun _ _ z => z) hn new, I.len⟩
  · rw [upd_ne (n0 b u e)]
    exact I.base.free b u e n hq
  · have q := I.base.tups b xs e
    rw [upd_ne (ne_of_none q hn)]
    exact q
  · have q := I.base.frzs b u v e
    rw [upd_ne (ne_of_none q hn)]
    exact q
  · obtain ⟨m, q⟩ := I.base.tbls b ps e
    exact ⟨m, by rw [upd_ne (ne_of_none q hn)]; exact q⟩
  · rw [upd_ne (Ne.symm hl)]
    exact I.free
  · rw [upd_ne (hc x c e)]
    exact I.freeC x c e
  · obtain ⟨z1, z2, z3⟩ := I.pin p q
    exact ⟨z1, by rw [upd_ne (hp p q)]; exact z2, z3⟩
theorem inv_suite0 (I : Inv X pins σ H s) (a : Addr) : Inv (X.suite a (X.pn ++ pins)) [] σ H s :=
  ⟨I.ok.suite _ _, I.os, I.bare, I.base, I.loc, I.cell, I.free, I.freeC, fun p hp => I.pin p (by rw [List.append_nil] at hp; exact hp), I.hok, I.len⟩
theorem inv_unsuite0 {a : Addr} {pn' : List (Addr × Obj)} (I : Inv (X.suite a (X.pn ++ pins)) pn' σ H s) (ok : X.Ok) : Inv X pins σ H s :=
  ⟨ok, I.os, I.bare, I.base, I.loc, I.cell, I.free, I.freeC, fun p hp => I.pin p (List.mem_append_left _ hp), I.hok, I.len⟩
end
/-- what the clause 'except x as n' wishes, the exception tracked in the suite and behind it -/
def wAsk (K : PySem.W.Frag) (c : Value) (i : Nat) (ts : TS) (Wout : WX) (D : Ends) : WX := fun cls d σ H =>
  ∃ b, PySem.W.exmOne K cls c = some b ∧ (b = true → ∀ a, H a = none → ts { nx := fun σ' H' => D.nx (σ'.set i none) H', rt := D.rt, bk := fun σ' H' => D.bk (σ'.set i none) H', ct := fun σ' H' => D.ct (σ'.set i none) H' } (σ.set i (some (.ref a))) (upd H a (exk a cls d))) ∧
    (b = false → Wout cls d σ H)
section
variable {X : Cx} {x n : Str} {c : Value} {i : Nat} {body suite : List Stmt} {b₀ : Stmt} {np pos pos' : Pos} {tb : WX → TS} {ts : TS} {Wout : WX}
theorem ps_try_ask (hs : X.stack = X.env :: X.outer) (hf : X.env.frame = some X.env.locals) (hN : X.N.Nodup) (hi : X.N[i]? = some n) (hln : X.env.kindOf n = some .local) (hc : Names X x c) (tk : Takes X Wout) (hx : X.ex = [])
    (hb : ∀ (W : WX) (pn : List (Addr × Obj)) (xe : Value → Shared → Prop), Takes (X.tr pn xe) W → PassesOwn (model X.prog X.w) X.A X.env xe → PSs (X.tr pn xe) body (tb W))
    (hsu : ∀ (a : Addr) (pn : List (Addr × Obj)), PSs (X.suite a pn) (b₀ :: suite) ts) :
    PS X (.Try body [.ExceptHandler (some (.Name x np)) (some n) (b₀ :: suite) pos'] [] [] pos) (fun D σ H => tb (wAsk X.K c i ts Wout D) D σ H) := by
  refine ⟨fun pins s σ H D I h => ?_⟩
  have ok := I.ok
  have hfr : X.A.frames = some (X.env :: X.outer) := by rw [ok.frames, hs]
  refine wpAny_Try_except ?_
  refine wpAny_mono ((hb (wAsk X.K c i ts Wout D) (X.pn ++ pins) (fun e s₁ => wpAny (model X.prog X.w) X.A (noteFrame e X.env) (fun _ s₂ => wpAny (model X.prog X.w) X.A (setFlight e none) (fun _ s₃ =>
    wpAny (model X.prog X.w) X.A (handleBy e X.env [.ExceptHandler (some (.Name x np)) (some n) (b₀ :: suite) pos']) (SP X pins D) X.xe s₃) X.xe s₂) X.xe s₁) (fun u s' xx => ?_) PassesOwn.looking).run [] s σ H D (I.toTry _) h) (fun f s1 hsp => ?_) (fun e s1 he => he)
  · obtain ⟨a, B, sI, pins', σ', H', cls, d, rfl, J', nb, up, sky, na, os, ag, b, hb1, hyes, hno⟩ := xx
    have J : Inv X pins σ' H' sI := J'.ofTry ok
    have sky' : Sky B (X.env :: X.outer) a (Zc cls d) X.env.locals s'.heap := by rw [← hs]; exact sky
    show wpAny (model X.prog X.w) X.A (noteFrame (.ref a) X.env) _ _ _
    refine Sky.land Zc.steady hfr hf sky' fun h3 fl3 up3 => ?_
    have J3 : Inv X pins σ' H' { s' with heap := h3 } := J.landed nb fl3.1 (up.trans up3) os ag
    obtain ⟨oe3, vs3, he3, hz3, hd3⟩ := fl3.there
    have nfr : a ∉ frs (X.env :: X.outer) := fun hm => by
      obtain ⟨_, o', e', hnf⟩ := fl3.2.2.1.mem hm
      rw [he3] at e'
      cases e'
      exact hnf _ hd3
    have nL : a ≠ X.env.locals := fun z => nfr (List.mem_filterMap.mpr ⟨X.env, List.mem_cons_self, by rw [hf, z]⟩)
    have nI : sI.heap.get? a = none := by
      cases q : sI.heap.get? a with
      | none => rfl
      | some o =>
        have z := nb a o q (by rw [hs]; exact nfr)
        rw [fl3.2.1] at z
        cases z
    have hexe : ∀ b o, X.s_0.heap.get? b = some o → b ∈ X.ex → False := fun b o e hb => by
      rw [hx] at hb
      cases hb
    have n0 : X.s_0.heap.get? a = none := by
      cases q : X.s_0.heap.get? a with
      | none => rfl
      | some o =>
        obtain ⟨o', z⟩ := J.base.there a o q (fun z => hexe a o q z)
        rw [nI] at z
        cases z
    have LT : PySem.W.Looks (model X.prog X.w) h3 (typeOf (.ref a)) cls := fun A Q E s k q => wpAny_typeOf_ref (k _ _ he3) (by rw [hz3.1]; exact q)
    have LM := PySem.W.exm_one (M := model X.prog X.w) (J3.kIn) LT hb1
    have S3 := inv_suite0 J3 a
    refine wpAny_handleBy_cons (codeAny_handlers_test ?_) (by intro q; cases q)
    have test : ∀ {Q : Value → Shared → Prop} {E : Value → Shared → Prop}, Q c { s' with heap := h3 } → wpAny (model X.prog X.w) (X.A.mark (some (.ref a))) (eval (.Name x np) X.env) Q E { s' with heap := h3 } := fun {Q E} q => by
      obtain ⟨hg, hdbg, hm | ⟨hm, hv, hnn⟩⟩ := hc
      · exact ld_glob (X := X.suite a (X.pn ++ pins)) S3 hg hm q hdbg
      · exact ld_blt (X := X.suite a (X.pn ++ pins)) S3 hg hm hv q hnn hdbg
    refine test (LM.here ?_)
    cases b with
    | true =>
      refine codeAny_handlers_suite_as ?_
      refine HandSPX.lands_againZ fl3 fun h4 fl4 up4 => ?_
      have J4 : Inv X pins σ' H' { s' with heap := h4 } := J.landed nb fl4.1 ((up.trans up3).trans up4) os ag
      obtain ⟨oe4, vs4, he4, hz4, hd4⟩ := fl4.there
      have T4 : Inv X pins σ' (upd H' a (exk a cls d)) { s' with heap := h4 } := inv_track J4 na n0 nL (fun y c e z => by
          obtain ⟨v, o, ho, _⟩ := J.cell y c e
          rw [z, nI] at ho
          cases ho) (fun p hp z => by
          have q := (J.pin p hp).1
          rw [z, nI] at q
          cases q) (exk_ok he4 hz4 hd4)
      have S4 := inv_suite0 T4 a
      refine store_ok (X := X.suite a (X.pn ++ pins)) (v := .ref a) S4 hN hi (.inl hln) rfl (fun s5 S5 => ?_) (.inr hln)
      refine wpAny_mono ((hsu a (X.pn ++ pins)).run [] s5 _ _ _ S5 (hyes rfl a na)) (fun f s6 hsp => ?_) (fun _ _ z => False.elim z)
      have fin : ∀ {σ6 : L2.St} {H6 : Hp} {Q : Shared → Prop}, Inv (X.suite a (X.pn ++ pins)) [] σ6 H6 s6 → (∀ s7, Inv X pins (σ6.set i none) H6 s7 → Q s7) →
          wpAny (model X.prog X.w) X.A (do bindName X.env n .none; unbindBehindTheSuite X.env n pos') (fun _ s7 => Q s7) X.xe s6 := fun {σ6 H6 Q} S6 hq => gone_ok (inv_unsuite0 S6 ok) hN hi hln hq
      cases f with
      | next =>
        obtain ⟨σ6, H6, S6, q6⟩ := hsp
        exact fin S6 fun s7 J7 => ⟨_, _, J7, q6⟩
      | brk =>
        obtain ⟨σ6, H6, S6, q6⟩ := hsp
        exact fin S6 fun s7 J7 => ⟨_, _, J7, q6⟩
      | cont =>
        obtain ⟨σ6, H6, S6, q6⟩ := hsp
        exact fin S6 fun s7 J7 => ⟨_, _, J7, q6⟩
      | ret u =>
        obtain ⟨v6, σ6, H6, S6, r6, q6⟩ := hsp
        exact fin S6 fun s7 J7 => ⟨_, _, _, J7, r6, q6⟩
    | false =>
      show wpAny _ X.A (handleBy (.ref a) X.env []) _ _ _
      refine wpAny_handleBy_nil ?_
      obtain ⟨k1, k2, k3, oe, vs, T, oT, ts', he, hz, hd, h1, hr⟩ := id fl3
      unfold PySem.passOn
      refine wpAny_bind (wpAny_field he hd h1 ?_)
      rw [if_neg (show ¬ ((Value.ref T == Value.none) = true) from by simp)]
      have last : wpAny (model X.prog X.w) X.A (setFlight (.ref a) X.env.frame) (fun _ s4 => wpAny (model X.prog X.w) X.A (throw (.ref a) : Sem Flow) (SP X pins D) X.xe s4) X.xe { s' with heap := h3 } := by
        rw [hf]
        refine HandSPX.setFlight_upZ fl3 fun h4 hh4 up4 => wpAny_throw (tk _ _ ?_)
        exact ⟨a, B, sI, pins, σ', H', cls, d, rfl, J, nb, (up.trans up3).trans up4, .inr (.inr (by rw [hs]; exact hh4)), na, os, ag, hno rfl⟩
      first
        | exact wpAny_bind (wpAny_pure (wpAny_bind last))
        | exact wpAny_bind last
  · cases f with
    | next =>
      obtain ⟨σ', H', J', q⟩ := hsp
      exact wpAny_execs_nil ⟨σ', H', J'.ofTry ok, q⟩
    | brk =>
      obtain ⟨σ', H', J', q⟩ := hsp
      exact ⟨σ', H', J'.ofTry ok, q⟩
    | cont =>
      obtain ⟨σ', H', J', q⟩ := hsp
      exact ⟨σ', H', J'.ofTry ok, q⟩
    | ret u =>
      obtain ⟨v, σ', H', J', r, q⟩ := hsp
      exact ⟨v, σ', H', J'.ofTry ok, r, q⟩
end

/-! ### C(..) as a value; isinstance and fields of a kept exception -/
section
variable {X : Cx} {e : Expr}
theorem pe_mkx {t : L2.St → Hp → XK → Prop} (h : PMk X e t) : PE X e (fun σ H Q => t σ H fun cls d H' => ∀ a, H' a = none → Q (.ref a) (upd H' a (exk a cls d))) := by
  refine ⟨fun pins s σ H Q I hh => ?_⟩
  refine wpAny_mono (h pins s σ H _ I hh) (fun u s1 hu => ?_) fun _ _ x => x
  obtain ⟨a, oe, vs, sI, H', cls, d, rfl, J, k, hne, ha, hz, hd, h1, na, os, ag, r, q⟩ := hu
  have J2 : Inv X pins σ H' { sI with heap := sI.heap, gens := s1.gens, drawn := s1.drawn, toks := s1.toks } := J.call (ch := []) (Un.kept fun _ _ z => z) J.hok ag (fun _ z => nomatch z)
  have J3 := J2.laidN (h' := s1.heap) (a := a) (o := exk a cls d) (t' := s1.toks) k hne na (exk_ok ha hz hd)
  obtain ⟨a1, a2, a3, a4, a5⟩ := s1
  have e5 : a5 = sI.os := os
  subst e5
  exact ⟨.ref a, _, J3, rfl, q a na⟩
/-- isinstance(e, c), e a kept exception -/
def rIsX (K : PySem.W.Frag) : List V → Hp → VK → Prop := fun xs H Q => ∃ (a D : Addr) (d : Option Addr) (c : V) (cv : Value) (b : Bool), xs = [.ref a, c] ∧ H a = some (exk a (.ref D) d) ∧ ExcC K D ∧ (∀ dd, d = some dd → ∃ fs, H dd = some (.xd fs)) ∧ (∀ u, RelV c u → u = cv) ∧ PySem.W.kitOne K (.ref D) cv = some b ∧ Q (.bl b) H
theorem inst_of {pins : List (Addr × Obj)} {σ : L2.St} {H : Hp} {s : Shared} {a D : Addr} {d : Option Addr} (I : Inv X pins σ H s) (ea : H a = some (exk a (.ref D) d)) (hd : ∀ dd, d = some dd → ∃ fs, H dd = some (.xd fs)) : ∃ oe od, PySem.W.InstAt s.heap a oe D od := by
  obtain ⟨oe, vs, ho, hz, hv⟩ := exk_at I.hok ea
  cases d with
  | none =>
    refine ⟨oe, none, ?_⟩
    obtain ⟨oc, od, oda, osl⟩ := oe
    obtain ⟨h1, h2⟩ := hz
    dsimp only at h1 h2 hv
    subst h1 h2 hv
    exact ⟨ho, rfl, rfl, trivial⟩
  | some dd =>
    obtain ⟨fs, ed⟩ := hd dd rfl
    obtain ⟨mA, hns, hr⟩ := (show ObjOk X.prog X.w H s.heap dd (.xd fs) from I.hok dd _ ed)
    obtain ⟨od, hod, hl⟩ := lookIn_ns hns
    exact ⟨oe, some od, ho, hz.1, by unfold PySem.W.notCls; rw [hv] <;> rfl, by rw [hz.2]; exact hod⟩
theorem call_isX : CallR X (.builtin "isinstance") (rIsX X.K) := by
  intro pins s σ H xs us Q I r h
  obtain ⟨a, D, d, c, cv, b, rfl, ea, C, hd, hcv, e, q⟩ := h
  obtain ⟨u1, u2, rfl, r1, r2⟩ := vals2 r
  cases (show u1 = Value.ref a from r1)
  have ec := hcv _ r2
  subst ec
  obtain ⟨oe, od, J⟩ := inst_of I ea hd
  have hcl : (PySem.W.clsIn X.K D).isSome = true := by
    obtain ⟨cd, hc, _⟩ := PySem.W.any_some C.hd
    rw [hc]
    rfl
  exact PySem.W.kia_one (PySem.W.kitx_exc hcl C.hg C.hk C.hs C.ha C.hn C.ht C.hm) I.kIn J e (fun z => nomatch z) fun tk => ⟨.bl b, H, I.kept (t' := tk) fun _ _ z => z, rfl, q⟩
/-- e.f, e a kept exception -/
def tXk (K : PySem.W.Frag) (f : Str) (te : TE) : TE := fun σ H Q => te σ H fun x H1 => ∃ (a C dd : Addr) (fs : List (Str × V)) (v : V), x = .ref a ∧ H1 a = some (exk a (.ref C) (some dd)) ∧ XfC K C ∧ PySem.W.findIn K (.ref C) f = some none ∧ H1 dd = some (.xd fs) ∧ fs.lookup f = some v ∧ Q v H1
theorem pe_xk {te : TE} {pos : Pos} {n : Str} (he : PE X e te) (hb : attributeBase e n X.env (eval e X.env) = eval e X.env := by rfl) : PE X (.Attribute e n pos) (tXk X.K n te) := by
  refine ⟨fun pins s σ H Q I h => ?_⟩
  refine attr_of hb (thn (he.run pins s σ H _ I h) fun u s1 hh => ?_)
  obtain ⟨x, H1, I1, rx, a, C, dd, fs, v, ex, ea, T, hno, ed, l, q⟩ := hh
  subst ex
  obtain rfl : u = Value.ref a := rx
  obtain ⟨oe, vs, ho, hz, hv⟩ := exk_at I1.hok ea
  obtain ⟨mA, hns, hr⟩ := (show ObjOk X.prog X.w H1 s1.heap dd (.xd fs) from I1.hok dd _ ed)
  obtain ⟨od, hod, hl⟩ := lookIn_ns hns
  obtain ⟨u, hu, ru⟩ := RelO.some_of (v := v) (o := mA n) (by rw [← l]; exact hr n)
  have J : PySem.W.InstAt s1.heap a oe C (some od) := ⟨ho, hz.1, by unfold PySem.W.notCls; rw [hv] <;> rfl, by rw [hz.2]; exact hod⟩
  exact HandSPX.exc_get I1.kIn J T.ga T.gg T.exC (PySem.W.findObj_own T.hdC hno rfl (by rw [hl, hu])) (handed_of ru) ⟨v, H1, I1.tok _, ru, q⟩
end

/-! ### super().__init__(..) of an own error class over ValueError -/
namespace SE
open PySem.W
abbrev wv (x : Addr) : Obj := { cls := .type "method-wrapper", dict := none, data := .fields #[.builtin "ValueError.__init__", .ref x], slots := #[] }
theorem ty_vi : typeOf (.builtin "ValueError.__init__") = pure (.type "wrapper_descriptor") := by
  show builtinType _ = _
  rw [builtinType_eq_fast]
  kernel_rfl
theorem nc_vi : (kfb_private% "nameAndClass") (Value.builtin "ValueError.__init__") = (pure (("__init__" : Str), Value.type "ValueError") : Sem (Str × Value)) := by kernel_rfl
section
variable {prog : Program} {w : World} {M : Model} {A : Around} {E : Value → Shared → Prop} {h : Heap} {g : Array GenState} {dr : Drawn} {t : Nat} {os : OsState}
theorem bind_vi {x C : Addr} {P : Fin → Shared → Prop} (hin : Looks M h (isInstance (.ref x) (.type "ValueError")) true) (hq : P (.done (.ret (.ref h.objs.size))) ⟨h.push (wv x), g, dr, t, os⟩) :
    wpAny M A (Builtin.«wrapper_descriptor.__get__» ⟨[.builtin "ValueError.__init__", .ref x, .ref C], []⟩) P E ⟨h, g, dr, t, os⟩ := by
  unfold Builtin.«wrapper_descriptor.__get__»
  refine wpAny_bind (wpAny_of_eq (a := (.builtin "ValueError.__init__", some (.ref x), some (.ref C))) (by first | rfl | kernel_rfl) ?_)
  show wpAny M A ((kfb_private% "checkInstance") (.builtin "ValueError.__init__") (.ref x) >>= fun _ => newFields "method-wrapper" [.builtin "ValueError.__init__", .ref x] >>= fun r => ret r) P E _
  refine wpAny_bind ?_
  show wpAny M A ((kfb_private% "nameAndClass") (.builtin "ValueError.__init__") >>= _) _ E _
  refine wpAny_bind (wpAny_of_eq nc_vi ?_)
  show wpAny M A (isInstance (.ref x) (.type "ValueError") >>= _) _ E _
  refine wpAny_bind (hin.at (KFB.if_not rfl (wpAny_pure ?_)))
  exact wpAny_bind (wpAny_newObj_type (wpAny_pure hq))
theorem super_gav {so D x C : Addr} {l₀ l : List Value} {K : Frag} {name : Str} {tk : Tok} {Q : Fin → Shared → Prop}
    (hso : h.get? so = some { cls := .type "super", dict := none, data := .fields #[.ref D, .ref x, .ref C], slots := #[] }) (hno : Looks (model prog w) h (opaqueClassAbove (.ref C)) none)
    (hC : Looks (model prog w) h (mroOf (.ref C)) l₀) (hl : (l₀.dropWhile (· != .ref D)).drop 1 = l) (X : K.In h)
    (hf : alongIn K name l = some (some (.builtin "ValueError.__init__"))) (hxC : x ≠ C) (hn : (name == ("__class__" : Str)) = false) (hin : Looks (model prog w) h (isInstance (.ref x) (.type "ValueError")) true)
    (hq : Q (.done (.ret (.ref h.objs.size))) ⟨h.push (wv x), g, dr, t, os⟩) :
    wpAny (model prog w) A (Builtin.«super.__getattribute__» ⟨[.ref so, .str name tk], []⟩) Q E ⟨h, g, dr, t, os⟩ := by
  have hlk := ESX.slot_wd.lookup
  have ner : (Value.ref x == Value.ref C) = false := by simp [hxC]
  have hTf := ty_vi
  have hTi : Shared.TypeIs ⟨h, g, dr, t, os⟩ (.builtin "ValueError.__init__") "wrapper_descriptor" := ty_vi
  have dso : ({ cls := .type "super", dict := none, data := .fields #[.ref D, .ref x, .ref C], slots := #[] } : Obj).data = .fields #[.ref D, .ref x, .ref C] := rfl
  have q0 : (#[.ref D, .ref x, .ref C] : Array Value)[0]? = some (.ref D) := rfl
  have q1 : (#[.ref D, .ref x, .ref C] : Array Value)[1]? = some (.ref x) := rfl
  have q2 : (#[.ref D, .ref x, .ref C] : Array Value)[2]? = some (.ref C) := rfl
  unfold Builtin.«super.__getattribute__»
  repeat (first
    | (with_reducible refine wpAny_field hso dso q0 ?_) | (with_reducible refine wpAny_field hso dso q1 ?_) | (with_reducible refine wpAny_field hso dso q2 ?_)
    | (with_reducible refine ks_wpAny_notOpaque hno ?_)
    | (with_reducible refine Looks.at hC ?_; rw [hl])
    | (refine ks_forIn_along X (fun _ _ => rfl) rfl ?_ hf)
    | (with_reducible refine wpAny_call_entry ESX.slot_wd hTi ESX.entry_wd ?_ (ESX.args_wd _ _ _))
    | (with_reducible refine bind_vi hin ?_)
    | (with_reducible refine ⟨_, rfl, ?_⟩)
    | (simp only [hn, ner, Bool.or_false, Bool.false_eq_true, if_false])
    | wp_step
    | dsimp only)
  all_goals exact hq
theorem getMethod_superv {so D x C : Addr} {l₀ l : List Value} {K : Frag} {name : Str} {pl : Sem Bool} {Q : Value × List Value → Shared → Prop}
    (hso : h.get? so = some { cls := .type "super", dict := none, data := .fields #[.ref D, .ref x, .ref C], slots := #[] }) (hno : Looks (model prog w) h (opaqueClassAbove (.ref C)) none)
    (hC : Looks (model prog w) h (mroOf (.ref C)) l₀) (hl : (l₀.dropWhile (· != .ref D)).drop 1 = l) (X : K.In h)
    (hf : alongIn K name l = some (some (.builtin "ValueError.__init__"))) (hxC : x ≠ C) (hn : (name == ("__class__" : Str)) = false) (hin : Looks (model prog w) h (isInstance (.ref x) (.type "ValueError")) true)
    (hq : Q (.ref h.objs.size, []) ⟨h.push (wv x), g, dr, t + 1, os⟩) :
    wpAny (model prog w) A (getMethod (.ref so) name pl) Q E ⟨h, g, dr, t, os⟩ := by
  have hlk := F.ks_slot_super_ga.lookup
  have hT : ∀ t', (⟨h, g, dr, t', os⟩ : Shared).TypeIs (.ref so) "super" := fun _ => ⟨_, hso, rfl⟩
  unfold getMethod
  refine wpAny_bind (wpAny_specialOf (hT _) hlk ?_)
  show wpAny _ _ (if (Manifest.canonical "super.__getattribute__" != "object.__getattribute__") = true then _ else _) _ _ _
  rw [if_pos F.ks_canon_super_ga]
  unfold getAttr getAttrBy
  refine wpAny_bind (wpAny_bind (wpAny_mkText (wpAny_holding (wpAny_bind (wpAny_typeOf (hT _) (wpAny_bind (wpAny_of_eq hlk ?_)))))))
  show wpAny _ _ (getAttrByItsOwn (.ref so) (.str name t) (.type "super") (.builtin "super.__getattribute__") true false) _ _ _
  unfold getAttrByItsOwn hookBefore callGetattribute boundAndCalled
  refine wpAny_bind (wpAny_of_eq (show (if onTheHeap (.type "super") then typeLookup (.type "super") "__getattr__" else pure none) = pure none from rfl) (wpAny_bind (wpAny_attempt (wpAny_holding ?_))))
  show wpAny _ _ (bindSpecial (.builtin "super.__getattribute__") (.ref so) >>= _) _ _ _
  refine wpAny_bind (wpAny_of_eq (F.ks_slot_super_ga.bind _) ?_)
  refine wpAny_mono (Q := fun v s' => v = .ref h.objs.size ∧ s' = ⟨h.push (wv x), g, dr, t + 1, os⟩) (E := fun _ _ => False)
    (wpAny_call_entry F.ks_slot_super_ga (hT _) F.ks_entry_super_ga (super_gav hso hno hC hl X hf hxC hn hin ⟨_, rfl, rfl, rfl⟩) (F.ks_gaArgs_super _ _)) (fun v s' hv => ?_) fun _ _ z => z.elim
  obtain ⟨rfl, rfl⟩ := hv
  exact wpAny_pure (wpAny_pure hq)
end
section
open PySem.Calls
variable {prog : Program} {w : World} {M : Model} {A : Around} {E : Value → Shared → Prop} {s : Shared}
theorem callWith_wv {pos : Pos} {u x : Addr} {env : Env} {e : Expr} {rest : List Expr} {Q : Value → Shared → Prop}
    (h : wpAny M A (spliced (backTo pos (starEach (e :: rest) env))) (fun vs s₁ => s₁.heap.get? u = some (wv x) ∧ wpAny M A (call (.ref u) vs) Q E s₁) E s)
    (he : starEach (e :: rest) env = (false, eval e env) :: starEach rest env) (hplain : (backTo pos (starEach rest env)).any (·.1) = false) :
    wpAny M A (callWith pos (.ref u) [] (backTo pos (starEach (e :: rest) env)) []) Q E s := by
  rw [he] at h ⊢
  have hp : (backTo pos ((false, eval e env) :: starEach rest env)).any (·.1) = false := by
    show (false || (backTo pos (starEach rest env)).any (·.1)) = false
    rw [hplain]
    rfl
  have h2 : wpAny M A (evalArgs (.ref u) true (backTo pos ((false, eval e env) :: starEach rest env)) []) (fun a s₁ => s₁.heap.get? u = some (wv x) ∧ wpAny M A (call (.ref u) ([] ++ a.pos) a.kw) Q E s₁) E s := evalArgs_plain h
  unfold callWith
  refine wpAny_bind (wpAny_holding (wpAny_mono h2 (fun a s₁ h₁ => wpAny_bind (wpAny_standAt ?_)) fun _ _ x => x))
  obtain ⟨ho, hcall⟩ := h₁
  simp only [hp, List.any_nil, Bool.or_false]
  refine wpAny_bind (m := keeperOf (.ref u)) ?_
  unfold keeperOf
  refine wpAny_bind (wpAny_load ho ?_)
  simp only [wv, show (Value.type "method-wrapper" != Value.type "method") = true by decide, show (Value.type "method-wrapper" == Value.type "builtin_function_or_method" || Value.type "method-wrapper" == Value.type "method-wrapper") = true by decide, if_true]
  refine wpAny_pure ?_
  exact wpAny_bind (wpAny_mono hcall (fun r s₂ hr => wpAny_bind (wpAny_holding (wpAny_point (wpAny_pure hr)))) fun _ _ x => x)
end
section
variable {prog : Program} {w : World} {A : Around} {E : Value → Shared → Prop} {h : Heap} {g : Array GenState} {dr : Drawn} {t : Nat} {os : OsState}
variable {nm q : Str} {C N : Addr} {bs bm : List Value} {hdct : Bool} {sn : List Str} {sub : List Value} {ab : Bool} {col : Option Bool} {dd : Option Addr} {k0 k1 k2 k3 k5 : Option Value}
theorem call_wv {u e t0 : Addr} {rest : List Value} {Q : Value → Shared → Prop}
    (hC : h.get? C = some (excClassObj nm q C N bs bm hdct sn sub ab col dd k0 k1 k2 k3 k5 "ValueError.__new__")) (he : h.get? e = some (HandSPX.excO C t0)) (hu : h.get? u = some (wv e)) (hrest : rest.length ≤ sizeLine)
    (hq : ∀ h' t1, (∀ b o, b ≠ e → h.get? b = some o → h'.get? b = some o) → h'.get? e = some (HandSPX.excO C t1) → Q .none ⟨h', g, dr, t, os⟩) :
    wpAny (model prog w) A (call (.ref u) rest) Q E ⟨h, g, dr, t, os⟩ := by
  refine wpAny_call (codeAny_of_tree ?_)
  show wpAny _ A.in1 (callAny (.ref u) ⟨rest, []⟩) _ _ _
  simp only [callAny]
  refine wpAny_bind (wpAny_load hu ?_)
  simp only [wv, show (Value.type "method-wrapper" == Value.type "method" || Value.type "method-wrapper" == Value.type "builtin_function_or_method" || Value.type "method-wrapper" == Value.type "method-wrapper") = true by decide, if_true]
  refine W.KFB.if_so (by decide) ?_
  refine wpAny_bind (ESX.check_bound F.excBase_ValueError hC he rfl (wpAny_bind (wpAny_pure (wpAny_pure ?_))))
  refine ⟨Code.quiet_builtin _ (by decide +kernel), codeAny_builtin F.excBase_ValueError.initEntry ?_⟩
  rw [Around.under_plainId F.excBase_ValueError.init.plain _]
  wp_walk
  refine hq _ h.objs.size (fun b o hb ho => ?_) ?_
  · rw [Heap.get?_update_other _ _ (Ne.symm hb)]
    exact Heap.get?_push_of_some _ ho
  · rw [Heap.get?_update_self _ (Heap.get?_push_of_some _ he) rfl]
    rfl
end
end SE

/-- what the written part says for super().__init__ in a def of the error class at D, of an instance of the class at C -/
structure SupE (P : Program) (K : PySem.W.Frag) (mg : Str → Option Value) (C D cc cda : Addr) : Prop where
  cell : ∃ cl cld csl, K.lookup cc = some ⟨cl, cld, .cell (some (.ref D)), csl⟩
  code : ∃ ccl cdd vs ccs file tf, K.lookup cda = some ⟨ccl, cdd, .fields vs, ccs⟩ ∧ vs[2]? = some (.str file tf) ∧ ((P.main.file : Str) == file) = true
  clD : ∃ cdD, PySem.W.clsIn K D = some cdD
  sub : PySem.W.mroIn K C (.ref D) = some true
  suv : PySem.W.mroIn K C (.type "ValueError") = some true
  sup : mg "super" = none
  top : (P.main.scope.names.lookup ("super" : Str)).isSome = false
  any : PySem.W.nsIn K cStatics "thirdparty.any" = some none
  fnd : PySem.W.ks_superIn K C D "__init__" = some (some (.builtin "ValueError.__init__"))
  oex : OexC K C

section
variable {CX : CXT} {P : Program} {w : World} {K : PySem.W.Frag} {mg : Str → Option Value} {base : Heap} {k : Nat} {f cc cda : Addr} {name qual : Str} {params : Arguments} {scope : Scope} {dV kV doc pm ct oc : Value} {an od : Option Addr}
    {osl : Array (Option Value)} {N ps : List Str} {sp : Sp} {e : PySem.Expr} {es : List PySem.Expr} {rest : List Stmt} {p0 p1 apos pos epos : Pos} {pl : Sem Bool}
theorem fn_superE (lk : K.lookup f = some ⟨oc, od, .func (PySem.W.ksFn name qual params (.Expr (.Call (.Attribute (.Call (.Name "super" p0) [] [] p1) "__init__" apos) (e :: es) [] pos) epos :: rest) scope dV kV doc pm an (.ref cda) ct cc), osl⟩)
    (hcd : PySem.W.codeIn K (.ref cda) qual = true) (S : ScS N ps scope)
    {ar : Arg} (hp0 : (params.posonlyargs ++ params.args).head? = some ar) (hps : ps.head? = some ar.arg) (har : scope.names.lookup ar.arg = some .local)
    (hks : scope.names.lookup ("super" : Str) = some .globalImplicit) (hkc : scope.names.lookup ("__class__" : Str) = some .free)
    (len : ∀ vs H Q E, sp vs H Q E → vs.length = ps.length)
    (hbody : ∀ (A : Around) (outer : List Env) (s : Shared) (H : Hp) (vs : List V) (Q : VK) (E : XK), Room k (A.deeper (PySem.W.ksEnv qual scope s.heap.objs.size f (.ref cda) cc)) → sp vs H Q E →
      ∃ (x C D : Addr) (vs' : List V) (ta : TA) (u : TS), vs = .ref x :: vs' ∧ H x = some (exo x C none) ∧ SupE P K mg C D cc cda ∧
        PA (cxS CX P w K mg base N qual scope f (.ref cda) cc A outer s H E) (e :: es) ta ∧
        PSs (cxS CX P w K mg base N qual scope f (.ref cda) cc A outer s H E) rest u ∧
        ta (start N vs) H (fun ws H1 => ws.length ≤ 1000 ∧ H1 x = some (exo x C none) ∧ u { nx := fun _ H' => Q .non H', rt := Q } (start N vs) H1))
    (hi : ∀ L, interactive (PySem.W.ksEnv qual scope L f (.ref cda) cc) = false) (hsw : ∀ L, swapsWith (.Call (.Attribute (.Call (.Name "super" p0) [] [] p1) "__init__" apos) (e :: es) [] pos) none epos.line (PySem.W.ksEnv qual scope L f (.ref cda) cc) = pure false)
    (he : ∀ L, eval (.Call (.Attribute (.Call (.Name "super" p0) [] [] p1) "__init__" apos) (e :: es) [] pos) (PySem.W.ksEnv qual scope L f (.ref cda) cc) = (do
      let ov ← attributeBase (.Call (.Name "super" p0) [] [] p1) "__init__" (PySem.W.ksEnv qual scope L f (.ref cda) cc) (eval (.Call (.Name "super" p0) [] [] p1) (PySem.W.ksEnv qual scope L f (.ref cda) cc))
      standAt apos.atName
      let (fn, first) ← holding [ov] (getMethod ov "__init__" pl)
      callWith pos fn first (backTo pos (starEach (e :: es) (PySem.W.ksEnv qual scope L f (.ref cda) cc))) []))
    (hst : ∀ L, starEach (e :: es) (PySem.W.ksEnv qual scope L f (.ref cda) cc) = (false, eval e (PySem.W.ksEnv qual scope L f (.ref cda) cc)) :: starEach es (PySem.W.ksEnv qual scope L f (.ref cda) cc))
    (hpl : ∀ L, (backTo pos (starEach es (PySem.W.ksEnv qual scope L f (.ref cda) cc))).any (·.1) = false) :
    FnOk P w K mg base CX (k + 1) f (PySem.W.ksFn name qual params (.Expr (.Call (.Attribute (.Call (.Name "super" p0) [] [] p1) "__init__" apos) (e :: es) [] pos) epos :: rest) scope dV kV doc pm an (.ref cda) ct cc) ps sp := by
  refine ⟨len, fun A outer s H args us vs Q E hr e0 hb r hsp => ?_⟩
  have hl := len _ _ _ _ hsp
  have KX : K.In s.heap := e0.mod.kin.keeps fun b o e => (e0.bs b o e).1
  have lim : s.heap.NoLimit := e0.mod.nolimit.keeps fun b o e => (e0.bs b o e).1
  obtain ⟨x, C, D, vs', ta, u, rfl, hx, T, hta, hrest, hq⟩ := hbody A outer s H vs Q E (hr.deeper _) hsp
  obtain ⟨cl, cld, csl, hcell⟩ := T.cell
  obtain ⟨ccl, cdd, cvs, ccs, file, tf, hcode, hvs, hfile⟩ := T.code
  obtain ⟨cdD, hD⟩ := T.clD
  refine PySem.ks_codeAny_call_defAt (binds := ps.zip us) hr.depth (KX _ _ lk) rfl lim (PySem.W.codeRec_of KX hcd) rfl hb S.nocell (fun y hy => S.par y.1 (List.of_mem_zip hy).1) (fun h1 hns hk => ?_) S.co S.gen S.kind
  have I : Inv (cxS CX P w K mg base N qual scope f (.ref cda) cc A outer s H E) [] (start N (.ref x :: vs')) H { s with heap := h1, toks := s.toks + (ps.zip us).length } :=
    inv_startS (vs := .ref x :: vs') S hr.hd e0 hl r hcell rfl hns hk
  have hX : K.In h1 := I.kIn
  obtain ⟨t1, ho⟩ := exo_at I.hok hx
  have J : PySem.W.InstAt h1 x { cls := .ref C, dict := none, data := .fields #[.ref t1, .none, .none, .none, .bool false, .none] } C none := ⟨ho, rfl, rfl, trivial⟩
  obtain ⟨oD, hD1, hD2⟩ : ∃ oD, h1.get? D = some oD ∧ oD.data = .cls cdD := by
    unfold PySem.W.clsIn at hD
    split at hD
    · rename_i c d cd' sl ho
      cases hD
      exact ⟨_, hX _ _ ho, rfl⟩
    · cases hD
  refine PySem.ks_wpAt_execs_cons (PySem.ks_wpAt_Expr_any (PySem.ks_wpAt_MethodCall (pl := pl) ?_ (he _)) (hi _) (hsw _))
  refine PySem.ks_wpAt_super_base (env := PySem.W.ksEnv qual scope s.heap.objs.size f (.ref cda) cc) hks hkc (by decide) rfl (hX _ _ lk) rfl hp0 rfl (hX _ _ hcode) rfl hvs hfile T.top ?_
  obtain ⟨mb, hb1, hb2⟩ := I.mod.blt
  refine PySem.W.ks_loadName_global S.kind hks (Calls.loadGlobal_builtin (env := PySem.W.ksEnv qual scope s.heap.objs.size f (.ref cda) cc) (I.mod.glob.keeps I.bk) T.sup (hb1.keeps I.bk) ((hb2 _ (by decide +kernel)).trans (show bootBuiltins "super" = some (.type "super") by first | rfl | kernel_rfl)) ⟨rfl, ?_⟩)
  refine wpAny_loadName_free S.kind hkc (by show List.lookup _ [_] = _; simp [List.lookup]) ⟨_, hX _ _ hcell, rfl⟩ ?_
  have hself : (ps.zip us).reverse.lookup ar.arg = some (.ref x) := by
    match ps, us, hps, r with
    | p :: ps', u' :: us', hp', .cons ru _ =>
      have hp'' : p = ar.arg := by simpa using hp'
      subst hp''
      cases (show u' = Value.ref x from ru)
      have ndP : (ar.arg :: ps').Nodup := by
        have := S.pre
        rw [← this]
        exact S.nd.sublist (List.take_sublist _ _)
      exact rev_lookup (i := 0) ndP rfl rfl
  refine wpAny_loadName_local S.kind har hns hself ?_
  refine PySem.ks_wpAny_isType_cls hD1 hD2 ⟨rfl, ?_⟩
  refine PySem.ks_wpAny_call_super hD1 hD2 J.at_ J.cls (fun c e => nomatch e) (PySem.W.looks_mroIn hX T.sub) (fun h' hso k' => ?_)
  have I1 : Inv (cxS CX P w K mg base N qual scope f (.ref cda) cc A outer s H E) [(h1.objs.size, PySem.W.ks_superObj D x C)] (start N (.ref x :: vs')) H { s with heap := h', toks := s.toks + (ps.zip us).length } :=
    ClX.pin_new (s := { s with heap := h1, toks := s.toks + (ps.zip us).length }) (t' := s.toks + (ps.zip us).length) I k' (Nat.le_refl _) hso (fun v z => nomatch z)
  have hX' : K.In h' := I1.kIn
  have J' : PySem.W.InstAt h' x { cls := .ref C, dict := none, data := .fields #[.ref t1, .none, .none, .none, .bool false, .none] } C none := ⟨k' _ _ ho, rfl, rfl, trivial⟩
  have fnd := T.fnd
  cases hc : PySem.W.clsIn K C with
  | none => unfold PySem.W.ks_superIn at fnd; rw [hc] at fnd; cases fnd
  | some cdC =>
    unfold PySem.W.ks_superIn at fnd
    rw [hc] at fnd
    refine SE.getMethod_superv (h := h') hso (PySem.W.looks_opaque hX' T.any) (l₀ := cdC.mro) ?_ rfl hX' fnd (PySem.W.ks_ne hX J hc) (by decide) (J'.type.andThen (PySem.W.looks_mroIn hX' T.suv)) ?_
    · exact fun A Q E s k q => wpAny_bind ((PySem.W.looks_clsIn hX' hc) A _ E s k (wpAny_pure q))
    · have I2 := ClX.pin_new (s := { s with heap := h', toks := s.toks + (ps.zip us).length }) (o := SE.wv x) (t' := s.toks + (ps.zip us).length + 1) I1 (fun _ _ z => Heap.get?_push_of_some _ z) (Nat.le_refl _) (Heap.get?_push_size h' rfl) (fun v z => nomatch z)
      refine SE.callWith_wv (x := x) (thn (hta.run pos _ _ _ H _ I2 hq) fun us2 s3 ⟨ws, H2, I3, rv, hl2, hx2, q2⟩ => ⟨ClX.pin_at I3, ?_⟩) (hst _) (hpl _)
      obtain ⟨nm, q, N', bs, bm, sn, sub, ab, col, dd, k0, k1, k2, k3, k5, hCo, hbm⟩ := T.oex.cls
      obtain ⟨t2, ho2⟩ := exo_at I3.hok hx2
      have hu2 : s3.heap.get? h'.objs.size = some (SE.wv x) := ClX.pin_at I3
      have kC := I3.kIn
      obtain ⟨hp3, g3, d3, tk3, os3⟩ := s3
      refine SE.call_wv (kC _ _ hCo) ho2 hu2 (by rw [← Paired.length rv, sizeLine_eq]; omega) fun h4 t4 k4 hx4 => ?_
      have I4 := (ClX.unpin (ClX.unpin I3)).write (t' := tk3) (x := x) (e := x) (o := exo x C none) (by rw [hx2]; exact True.intro) (.inl rfl) k4 ⟨_, hx4⟩ (exo_ok hx4)
      have eu : upd H2 x (exo x C none) = H2 := by
        funext b
        by_cases hb : b = x
        · rw [hb, upd_same, hx2]
        · rw [upd_ne hb]
      rw [eu] at I4
      refine wpAt_of_wpAny (wpAny_mono (hrest.run [] _ _ H2 _ I4 q2) (fun fl s' hs => ?_) fun e s' hs => hs)
      have fin : ∀ {σ' : L2.St} {H' : Hp} {v : V} {u : Value}, Inv (cxS CX P w K mg base N qual scope f (.ref cda) cc A outer s H E) [] σ' H' s' → RelV v u → Q v H' → CE outer P w H s Q u s' :=
        fun {σ' H' v u} J rv q => ⟨v, H', J.os, J.bare, J.base, J.hok, rv, q⟩
      cases fl with
      | ret u =>
        obtain ⟨v, σ', H', J, rv, q⟩ := hs
        exact fin J rv q
      | next =>
        obtain ⟨σ', H', J, q⟩ := hs
        exact fin (v := V.non) (u := Value.none) J rfl q
      | brk =>
        obtain ⟨_, _, _, q⟩ := hs
        exact False.elim q
      | cont =>
        obtain ⟨_, _, _, q⟩ := hs
        exact False.elim q
end
end Ls
end
section
set_option Elab.async false
set_option linter.all false
set_option maxRecDepth 100000
set_option maxHeartbeats 4000000
namespace Ls
open PySem PySem.Spec PyProof.Rows L2

/-! ### defs that must know that no repr is under way -/
structure FnG (P : Program) (w : World) (K : PySem.W.Frag) (mg : Str → Option Value) (base : Heap) (CX : CXT) (k : Nat) (f : Addr) (fd : FuncData) (ps : List Str) (sp : Sp) : Prop where
  len : ∀ vs H Q E, sp vs H Q E → vs.length = ps.length
  run : ∀ (A : Around) (outer : List Env) (s : Shared) (H : Hp) (args : Args) (us : List Value) (vs : List V) (Q : VK) (E : XK), A.guards = some [] → Room k A → Env0 P w K mg base A outer s H → BindsTo s fd args (ps.zip us) → Vals vs us → sp vs H Q E →
    codeAny (model P w) A (.call (.ref f) args) (CR CX outer P w H s Q E) s
section
variable {P : Program} {w : World} {K : PySem.W.Frag} {mg : Str → Option Value} {base : Heap}
theorem FnG.of {CX : CXT} {k : Nat} {f : Addr} {fd : FuncData} {ps : List Str} {sp : Sp} (F : FnOk P w K mg base CX k f fd ps sp) : FnG P w K mg base CX k f fd ps sp := ⟨F.len, fun A outer s H args us vs Q E _ => F.run A outer s H args us vs Q E⟩
theorem okG {x qual : Str} {st : Stmt} {f : Addr} {fd : FuncData} {N ps : List Str} {k : Nat} {sp : Sp} (F : Fun K x qual st f fd) (S : FnScope N ps (defScope st)) (len : ∀ vs H Q E, sp vs H Q E → vs.length = ps.length)
    (hbody : ∀ (cdv : Value) (A : Around) (outer : List Env) (s : Shared) (H : Hp) (vs : List V) (Q : VK) (E : XK), fd.code = cdv → A.guards = some [] → Room k (A.deeper (envOfC qual (defScope st) s.heap.objs.size f cdv)) → sp vs H Q E →
      ∃ t, PSs (cxOf CX0 P w K mg base N qual (defScope st) f cdv A outer s H E).nox (defBody st) t ∧ t { nx := fun _ H' => Q .non H', rt := Q } (start N vs) H) : FnG P w K mg base CX0 (k + 1) f fd ps sp := by
  obtain ⟨oc, od, kV, doc, pm, an, cdv, ct, osl, rfl, lk, hcd⟩ := F.ex
  refine ⟨len, fun A outer s H args us vs Q E hg hr e0 hb r hs => ?_⟩
  refine LamX.run_ofS lk hcd S hr e0 hb r (len _ _ _ _ hs) fun hr' => ?_
  obtain ⟨t, h, q⟩ := hbody cdv A outer s H vs Q E rfl hg hr' hs
  exact ⟨t, h.nox, q⟩
end
section
variable (P : Program) (w : World) (K : PySem.W.Frag) (mg : Str → Option Value) (base : Heap) (CX : CXT) (k : Nat)
/-- the def under the module's name x keeps sp, where no repr is under way -/
structure CalG (x : Str) (sp : Sp) : Prop where
  ex : ∃ f fd ps, mg x = some (.ref f) ∧ PySem.W.keepIn K (.ref f) = true ∧ Binds K fd ps [] ∧ FnG P w K mg base CX k f fd ps sp
end
section
variable {X : Cx} {CX : CXT} {k : Nat} {sp : Sp} {E : XK} {x : Str} {p pos : Pos} {e : PySem.Expr} {es : List PySem.Expr} {t : TA}
theorem pe_calG (hgd : X.A.guards = some []) (c : CalG X.prog X.w X.K X.mg X.base CX k x sp) (hr : Room k X.A) (hg : Gl X x) (hx : Passes CX X E) (ha : PA X (e :: es) t) (hd : (x == ("__debug__" : Str)) = false := by decide)
    (he : starEach (e :: es) X.env = (false, eval e X.env) :: starEach es X.env := by rfl) (hpl : (backTo pos (starEach es X.env)).any (·.1) = false := by rfl) :
    PE X (.Call (.Name x p) (e :: es) [] pos) (tCl sp E t) := by
  obtain ⟨f, fd, ps, hm, hk, hb, F⟩ := c.ex
  refine ⟨fun pins s σ H Q I h => ?_⟩
  refine wpAny_Call_Name_kw (ld_glob I hg hm ?_ hd)
  refine PySem.W.callWith_K (h₀ := X.base) I.ok.mod.kin hk (thn (ha.run pos pins s σ H _ I h) fun us s1 ⟨vs, H1, I1, r, q⟩ => ⟨I1.kIn, ?_⟩) he hpl
  have hl : us.length = ps.length := by
    rw [← r.length]
    exact F.len _ _ _ _ q
  have bd := hb s1 us I1.kIn (by rw [List.append_nil]; exact hl)
  rw [List.append_nil] at bd
  refine wpAny_call (codeAny_mono (F.run X.A X.stack s1 H1 ⟨us, []⟩ us vs Q E hgd hr I1.env0 bd r q) fun res s' hq => ?_)
  match res, hq with
  | .error e, hq => exact hx pins σ H1 s1 e s' I1 hq
  | .ok (.ret u), hq => exact I1.after hq
end

/-! ### the top: tables of code objects, no repr under way -/
def tabH (T : List Addr) : Hp := fun b => if b ∈ T then some (.tbl #[]) else none
theorem tab_in {T : List Addr} {b : Addr} (h : b ∈ T) : tabH T b = some (.tbl #[]) := if_pos h
theorem tab_out {T : List Addr} {b : Addr} (h : b ∉ T) : tabH T b = none := if_neg h
/-- what is tracked at the start: the script (if it is no object of the module), the tables -/
theorem top_heap {P : Program} {w : World} {K : PySem.W.Frag} {a : Addr} {T : List Addr} {s : Shared} {vs : List Value} {ns : List Int} (KX : K.In s.heap) (hT : ∀ b ∈ T, s.heap.get? b = some { cls := .none, data := .fields #[] })
    (ha : s.heap.get? a = some { cls := .type "list", data := .seq vs.toArray }) (hi : IntsAre vs ns) (hl : ns.length ≤ sizeLine) :
    ∃ H : Hp, (∀ b ∈ T, H b = some (.tbl #[])) ∧ SqL K H a (ns.map V.int) ∧ HOk P w H s.heap ∧
      ∀ b u, H b = some u → (b ∈ T ∧ u = .tbl #[]) ∨ (b = a ∧ K.lookup a = none ∧ ∃ o xs, u = .frz o (.lst xs)) := by
  have rv := vals_ints hi
  have aT : a ∉ T := fun z => by
    have q := hT a z
    rw [ha] at q
    cases congrArg Obj.data (Option.some.inj q)
  cases hk : K.lookup a with
  | some o =>
    have e := KX a o hk
    rw [ha] at e
    cases e
    refine ⟨tabH T, fun b hb => tab_in hb, .inr ⟨_, vs.toArray, _, hk, rfl, rfl, rfl, by rw [List.size_toArray, hi.length]; exact hl, by simpa using rv⟩, fun b u z => ?_, fun b u z => ?_⟩
    · by_cases hb : b ∈ T
      · rw [tab_in hb] at z
        cases z
        exact hT b hb
      · rw [tab_out hb] at z
        cases z
    · by_cases hb : b ∈ T
      · rw [tab_in hb] at z
        exact .inl ⟨hb, (Option.some.inj z).symm⟩
      · rw [tab_out hb] at z
        cases z
  | none =>
    refine ⟨upd (tabH T) a (.frz { cls := .type "list", data := .seq vs.toArray } (.lst (ns.map V.int))), fun b hb => ?_, .inl (.inr ⟨_, upd_same⟩), fun b u z => ?_, fun b u z => ?_⟩
    · have nb : b ≠ a := fun e => aT (by rw [← e]; exact hb)
      rw [upd_ne nb]
      exact tab_in hb
    · by_cases hb : b = a
      · subst hb
        rw [upd_same] at z
        cases z
        exact ⟨ha, by rw [List.length_map]; exact hl, vs, _, rv, ha⟩
      · rw [upd_ne hb] at z
        by_cases hb : b ∈ T
        · rw [tab_in hb] at z
          cases z
          exact hT b hb
        · rw [tab_out hb] at z
          cases z
    · by_cases hb : b = a
      · subst hb
        rw [upd_same] at z
        exact .inr ⟨rfl, rfl, _, _, (Option.some.inj z).symm⟩
      · rw [upd_ne hb] at z
        by_cases hb : b ∈ T
        · rw [tab_in hb] at z
          exact .inl ⟨hb, (Option.some.inj z).symm⟩
        · rw [tab_out hb] at z
          cases z
theorem top_call {P : Program} {w : World} {K : PySem.W.Frag} {mg mb : Str → Option Value} {CX : CXT} {k : Nat} {fa a : Addr} {cs : List (Addr × Addr)} {fd : FuncData} {x : Str} {sp : Sp} {s : Shared} {vs : List Value} {ns : List Int}
    (KX : K.In s.heap) (gl : s.heap.Ns mainGlobals mg) (bl : s.heap.Ns builtinsNs mb) (bb : ∀ x : Str, x ≠ "__name__" → mb x = bootBuiltins x) (nl : s.heap.NoLimit) (gn : s.gens = #[])
    (hT : ∀ p ∈ cs, s.heap.get? p.2 = some { cls := .none, data := .fields #[] }) (nT : ∀ p ∈ cs, K.lookup p.2 = none) (C : ∀ p ∈ cs, PySem.W.CodeHd s.heap p.1 p.2)
    (hbm : ∃ (bm : Addr) (ob : Obj), mg "__builtins__" = some (.ref bm) ∧ bm ≠ builtinsNs ∧ s.heap.get? bm = some ob ∧ ob.cls = .type "module" ∧ ob.dict = some builtinsNs ∧ ob.data = .plain)
    (ha : s.heap.get? a = some { cls := .type "list", data := .seq vs.toArray }) (hi : IntsAre vs ns) (hl : ns.length ≤ sizeLine) (hr : Room k callerA)
    (F : ∀ base : Heap, K.In base → base.Ns mainGlobals mg → (∀ p ∈ cs, LamX.TabB base mg p.1 p.2) → (base.get? sysModules).isSome = true → FnG P w K mg base CX k fa fd [x] sp) (hsy : ∃ mm, s.heap.Ns sysModules mm) (hbind : ∀ (s : Shared) (u : Value), BindsTo s fd ⟨[u], []⟩ [(x, u)])
    (hsp : ∀ H : Hp, (∀ p ∈ cs, H p.2 = some (.tbl #[])) → SqL K H a (ns.map V.int) → sp [.ref a] H (fun v _ => v = .bl true) fun _ _ _ => False)
    (hCX : ∀ H e s', CX [] H s (fun _ _ _ => False) e s' → False) :
    codeAny (model P w) callerA (.call (.ref fa) ⟨[.ref a], []⟩) (fun r s' => r = .ok (.ret (.bool true)) ∧ OldK s.heap s'.heap ∧ s'.os = s.os ∧ AllBare s'.gens) s := by
  have hT' : ∀ b ∈ cs.map (·.2), s.heap.get? b = some { cls := .none, data := .fields #[] } := fun b hb => by
    obtain ⟨p, hp, rfl⟩ := List.mem_map.mp hb
    exact hT p hp
  obtain ⟨H, H1, H2, H3, H4⟩ := top_heap (P := P) (w := w) KX hT' ha hi hl
  -- what is no list and no empty record is not tracked
  have un : ∀ {b : Addr} {o : Obj}, s.heap.get? b = some o → (∀ l n, o.data ≠ .seq l n) → o.data ≠ .fields #[] → H b = none := fun {b o} e n1 n2 => by
    cases q : H b with
    | none => rfl
    | some u =>
      rcases H4 b u q with ⟨hb, _⟩ | ⟨hb, _⟩
      · rw [hT' b hb] at e
        cases e
        exact absurd rfl n2
      · rw [hb, ha] at e
        cases e
        exact absurd rfl (n1 _ _)
  have ns' : ∀ {b : Addr} {m : Str → Option Value}, s.heap.Ns b m → (hidT s.heap H).Ns b m := fun {b m} ⟨o, es, ep, e, d, r⟩ =>
    ⟨o, es, ep, hidT_get e (un e (fun l n z => by rw [d] at z; cases z) fun z => by rw [d] at z; cases z), d, r⟩
  have kb : K.In (hidT s.heap H) := fun b o e => hidT_get (KX b o e) (by
    cases q : H b with
    | none => rfl
    | some u =>
      rcases H4 b u q with ⟨hb, _⟩ | ⟨hb, hn, _⟩
      · obtain ⟨p, hp, rfl⟩ := List.mem_map.mp hb
        rw [nT p hp] at e
        cases e
      · rw [hb, hn] at e
        cases e)
  have TB : ∀ p ∈ cs, LamX.TabB (hidT s.heap H) mg p.1 p.2 := fun p hp => by
    refine ⟨?_, ?_, fun z => ?_⟩
    · obtain ⟨o, us, file, tf, flags, tg, inF, text, tt, e1, r1, r2, r3, rest⟩ := C p hp
      refine ⟨o, us, file, tf, flags, tg, inF, text, tt, hidT_get e1 (un e1 (fun l n z => by rw [r2] at z; cases z) fun z => ?_), r1, r2, r3, rest⟩
      rw [r2] at z
      cases z
      simp at r3
    · obtain ⟨bm, ob, b1, b2, b3, b4, b5, b6⟩ := hbm
      refine ⟨bm, ob, b1, b2, fun q => ?_, fun q => ?_, hidT_get b3 (un b3 (fun l n z => by rw [b6] at z; cases z) fun z => by rw [b6] at z; cases z), b4, b5, b6⟩
      · obtain ⟨o, es, ep, e, d, _⟩ := gl
        rw [q, e] at b3
        cases b3
        rw [d] at b6
        cases b6
      · rw [q, hT p hp] at b3
        cases b3
        cases b6
    · obtain ⟨o, es, ep, e, d, _⟩ := gl
      rw [z, hT p hp] at e
      cases e
      cases d
  have sy : ((hidT s.heap H).get? sysModules).isSome = true := by
    obtain ⟨mm, z⟩ := hsy
    obtain ⟨o, _, _, e, _⟩ := ns' z
    rw [e]
    rfl
  have md : L2.Mod K mg (hidT s.heap H) := ⟨kb, ns' gl, ⟨mb, ns' bl, bb⟩, by
    obtain ⟨mc, z1, z2⟩ := nl
    exact ⟨mc, ns' z1, z2⟩⟩
  have e0 : Env0 P w K mg (hidT s.heap H) callerA [] s H := ⟨rfl, md, fun b o e => of_hidT e, Nat.le_of_eq (hidT_size _ _), trivial, fun b hb => absurd (show b ∈ ([] : List Addr) from hb) (by simp), H3, .of_eq gn⟩
  refine codeAny_mono ((F _ kb (ns' gl) TB sy).run callerA [] s H ⟨[.ref a], []⟩ [.ref a] [.ref a] _ _ rfl hr e0 (hbind s (.ref a)) (.cons rfl .nil) (hsp H (fun p hp => H1 _ (List.mem_map.mpr ⟨p, hp, rfl⟩)) H2)) fun r s' h => ?_
  match r, h with
  | .error e, h => exact (hCX H e s' h).elim
  | .ok (.ret u), h =>
    obtain ⟨v, H', os, bare, U, hok', rv, q⟩ := h
    cases (show v = .bl true from q)
    cases (show u = Value.bool true from rv)
    have stays : ∀ b o, s.heap.get? b = some o → s'.heap.get? b = some o ∨ (b ∈ cs.map (·.2) ∧ ∃ more : Array Value, s'.heap.get? b = some { cls := .none, data := .fields more }) := fun b o e => by
      cases q : H b with
      | none => exact .inl (U.keep b o e q (fun z => absurd (show b ∈ ([] : List Addr) from z) (by simp)) (by simp))
      | some u =>
        rcases H4 b u q with ⟨hb, hu⟩ | ⟨hb, _, ob, xs, hu⟩
        · obtain ⟨more, z⟩ := U.tbls b #[] (by rw [q, hu])
          exact .inr ⟨hb, _, hok' b _ z⟩
        · rw [hu] at q
          obtain ⟨z1, _⟩ := H3 b _ q
          obtain ⟨z2, _⟩ := hok' b _ (U.frzs b ob _ q)
          rw [e] at z1
          cases z1
          exact .inl z2
    refine ⟨rfl, ⟨fun b o e => ?_, fun b o e => ?_⟩, os, bare⟩
    · rcases stays b o e with z | ⟨hb, more, z⟩
      · exact .inl z
      · rw [hT' b hb] at e
        cases e
        obtain ⟨p, hp, rfl⟩ := List.mem_map.mp hb
        exact .inr (.inl ⟨((C p hp).tab (hT p hp)).isCodeTable, rfl, #[], more, rfl, by rw [Array.empty_append]; exact z⟩)
    · rcases stays b o e with z | ⟨hb, more, z⟩
      · exact ⟨o, z⟩
      · exact ⟨_, z⟩

/-- the law's promise at the head's heap h -/
def LawG (l : PySem.W.OpenLaw) (w : World) (K : PySem.W.Frag) (CX : CXT) (k n : Nat) (x : Str) (mg : Str → Option Value) (fa : Addr) (h : Heap) : Prop :=
  ∃ (fd : FuncData) (cs : List (Addr × Addr)) (sp : Sp), (∀ p ∈ cs, h.get? p.2 = some { cls := .none, data := .fields #[] }) ∧ (∀ p ∈ cs, K.lookup p.2 = none) ∧ (∀ p ∈ cs, PySem.W.CodeHd h p.1 p.2) ∧ (∀ (s : Shared) (u : Value), BindsTo s fd ⟨[u], []⟩ [(x, u)]) ∧
    (∀ (H : Hp) (a : Addr) (ns : List Int), ns.length ≤ n → (∀ z ∈ ns, Builtin.Int.intBits z ≤ 1048576) → (∀ p ∈ cs, H p.2 = some (.tbl #[])) → SqL K H a (ns.map V.int) → sp [.ref a] H (fun v _ => v = .bl true) fun _ _ _ => False) ∧
    ∀ base : Heap, K.In base → base.Ns mainGlobals mg → (∀ p ∈ cs, LamX.TabB base mg p.1 p.2) → (base.get? sysModules).isSome = true → FnG l.prog w K mg base CX k fa fd [x] sp
/-- the def under the module's name x: its code object's table is empty -/
theorem tab_of {q : Program} {loose : List Str} {mean : ExcName → Option Value} {mg mb : Str → Option Value} {h : Heap} {K : PySem.W.Frag} {x : Str} {fx : Addr} (T : Top q loose mean mg mb h) (KX : K.In h) (hx : ((recsOf q).any fun e => e.name == x) = true) (hm : mg x = some (.ref fx)) : LamX.OwnTab K fx h := by
  intro c P o fd e dd vs sl k1 k2 k3 k4 k5
  obtain ⟨r, hr, hn⟩ := List.any_eq_true.mp hx
  obtain ⟨a', o', fd', c', P', h1, h2, h3, h4, h5, ⟨oc, vc, e1, _, e3, e4⟩, hP⟩ := T.tab r hr
  rw [beq_iff_eq.mp hn, hm] at h1
  cases h1
  rw [KX _ _ k1] at h2
  cases h2
  rw [k2] at h3
  cases h3
  rw [k3] at h4
  cases h4
  rw [KX _ _ k4] at e1
  cases e1
  cases e3
  rw [k5] at e4
  cases e4
  exact hP
theorem walk_G {l : PySem.W.OpenLaw} {n k : Nat} {q : Program} {loose : List Str} {XP : (Str → Option Value) → Heap → Prop} {YP : World → Heap → Prop} {d : DefRec} {K : Params → PySem.W.Frag} {CX : World → CXT} {x : Str}
    (hn : l.most = some n) (hn2 : n ≤ sizeLine) (hdf : d.params.defaults = []) (hr : Room k callerA) (him : importsNone q = true) (hY : ∀ (w : World) (h : Heap), YP w h → (K w.params).In h)
    (F : ∀ (w : World) (mg : Str → Option Value) (fa : Addr) (h : Heap), YP w h → (K w.params).In h → h.Ns mainGlobals mg → mg d.name = some (.ref fa) →
      (∀ (x : Str) (fx : Addr), ((recsOf q).any fun e => e.name == x) = true → mg x = some (.ref fx) → LamX.OwnTab (K w.params) fx h) → LawG l w (K w.params) (CX w) k n x mg fa h)
    (hCX : ∀ (w : World) (H : Hp) (s : Shared) (e : Value) (s' : Shared), CX w [] H s (fun _ _ _ => False) e s' → False) :
    PySem.W.WalkO q loose XP YP l.row.toRowW d [] (fun f vs => PySem.call f vs) := by
  refine Att.attach_callB hn hdf fun w s₀ s₁ mg mb fa o pm cd doc a vs ns G Y ho hd hcd hmg hobj hints hlen hbits hg => ?_
  have KX := hY w _ Y
  obtain ⟨fd, cs, sp, hT, nT, C, hb, hsp, hF⟩ := F w mg fa _ Y KX G.T.g hmg fun x fx z1 z2 => tab_of G.T KX z1 z2
  obtain ⟨mm, z, _⟩ := (G.T.seer him).mods
  exact top_call KX G.T.g G.T.b G.T.builtins G.T.nolimit hg hT nT C G.T.bmain hobj hints (Nat.le_trans hlen hn2) hr hF ⟨mm, z⟩ hb (fun H hH hS => hsp H a ns hlen hbits hH hS) fun H e s' => hCX w H s₁ e s'
end Ls
end
section
set_option Elab.async false
set_option linter.all false
set_option maxRecDepth 100000
set_option maxHeartbeats 4000000
namespace Ls
open PySem PySem.Spec PyProof.Rows L2

/-! ### a value as plain data; repr -/
mutual
inductive TV (H : Hp) : V → PyData → Prop
  | non : TV H .non .none
  | bl (b : Bool) : TV H (.bl b) (.bool b)
  | int (i : Int) : TV H (.int i) (.int i)
  | str (x : Str) : TV H (.str x) (.str x)
  | lst {a : Addr} {xs : List V} {ds : List PyData} (e : H a = some (.lst xs)) (h : TVs H xs ds) : TV H (.ref a) (.list ds)
  | tup {a : Addr} {xs : List V} {ds : List PyData} (e : H a = some (.tup xs)) (h : TVs H xs ds) : TV H (.ref a) (.tuple ds)
  | dct {a : Addr} {kvs : List (Key × V)} {ds : List (PyData × PyData)} (e : H a = some (.dK kvs)) (hk : TVs H (kvs.map fun p => kV p.1) (ds.map (·.1))) (hv : TVs H (kvs.map (·.2)) (ds.map (·.2))) : TV H (.ref a) (.dict ds)
inductive TVs (H : Hp) : List V → List PyData → Prop
  | nil : TVs H [] []
  | cons {v : V} {vs : List V} {d : PyData} {ds : List PyData} (h : TV H v d) (hs : TVs H vs ds) : TVs H (v :: vs) (d :: ds)
end
mutual
theorem TV.ext {H H' : Hp} (e : Ext H H') : ∀ {v : V} {d : PyData}, TV H v d → TV H' v d
  | _, _, .non => .non
  | _, _, .bl b => .bl b
  | _, _, .int i => .int i
  | _, _, .str x => .str x
  | _, _, .lst q h => .lst (e _ _ q) (h.ext e)
  | _, _, .tup q h => .tup (e _ _ q) (h.ext e)
  | _, _, .dct q h1 h2 => .dct (e _ _ q) (h1.ext e) (h2.ext e)
theorem TVs.ext {H H' : Hp} (e : Ext H H') : ∀ {vs : List V} {ds : List PyData}, TVs H vs ds → TVs H' vs ds
  | _, _, .nil => .nil
  | _, _, .cons h hs => .cons (h.ext e) (hs.ext e)
end
section
variable {X : Cx} {pins : List (Addr × Obj)} {σ : L2.St} {H : Hp} {s : Shared}
theorem pairs_keys {P : Program} {w : World} : ∀ {es : List DictEntry} {vs : List (Key × Value)} {kvs : List (Key × V)}, Pairs (mixKind P w) es vs → KV kvs vs → Vals (kvs.map fun p => kV p.1) (es.map (·.key)) ∧ Vals (kvs.map (·.2)) (es.map (·.val))
  | _, _, _, .nil, .nil => ⟨.nil, .nil⟩
  | _, _, _, .cons (kv := kv) h1 h2 h, .cons (a := q) ⟨e1, e2⟩ r => by
    obtain ⟨z1, z2⟩ := pairs_keys h r
    refine ⟨.cons ?_ z1, .cons (by dsimp only; rw [h2]; exact e2) z2⟩
    dsimp only
    rw [e1]
    rcases keyIs_shape h1 with ⟨i, t, ek, ev⟩ | ⟨x, t, ek, ev⟩
    · rw [ek, ev]
      exact ⟨t, rfl⟩
    · rw [ek, ev]
      exact ⟨t, rfl⟩
mutual
/-- what is told of a value as data is so in the heap; none of its lists and dicts is the table of modules -/
theorem reads_of (I : Inv X pins σ H s) (hs : H sysModules = none) : ∀ {v : V} {d : PyData} {u : Value}, TV H v d → RelV v u → ∃ as, Reads s.heap u d as ∧ sysModules ∉ as
  | _, _, _, .non, r => by
    cases r
    exact ⟨[], .none, by simp⟩
  | _, _, _, .bl b, r => by
    cases r
    exact ⟨[], .bool b, by simp⟩
  | _, _, _, .int i, r => by
    obtain ⟨t, rfl⟩ := r
    exact ⟨[], .int i t, by simp⟩
  | _, _, _, .str x, r => by
    obtain ⟨t, rfl⟩ := r
    exact ⟨[], .str x t, by simp⟩
  | .ref a, _, _, .lst e h, r => by
    cases r
    obtain ⟨_, its, n, rv, ho⟩ := (show ObjOk X.prog X.w H s.heap a (.lst _) from I.hok a _ e)
    obtain ⟨as, h1, h2⟩ := readsAll_of I hs h rv
    refine ⟨a :: as, .list ho rfl rfl (by simpa using h1), fun z => ?_⟩
    rcases List.mem_cons.mp z with z | z
    · rw [z, e] at hs
      cases hs
    · exact h2 z
  | .ref a, _, _, .tup e h, r => by
    cases r
    obtain ⟨_, its, rv, o, ho, hc, n, hd⟩ := (show ObjOk X.prog X.w H s.heap a (.tup _) from I.hok a _ e)
    obtain ⟨as, h1, h2⟩ := readsAll_of I hs h rv
    exact ⟨as, .tuple ho hc hd (by simpa using h1), h2⟩
  | .ref a, _, _, .dct e h1 h2, r => by
    cases r
    obtain ⟨_, _, vs, rk, o, es, ep, ho, hx, hd, _, hp, _⟩ := dk_of I.hok e
    obtain ⟨k1, k2⟩ := pairs_keys hp rk
    obtain ⟨as, a1, a2⟩ := readsAll_of I hs h1 k1
    obtain ⟨bs, b1, b2⟩ := readsAll_of I hs h2 k2
    refine ⟨a :: as ++ bs, .dict ho hx.1 hd a1 b1, fun z => ?_⟩
    rcases List.mem_append.mp z with z | z
    · rcases List.mem_cons.mp z with z | z
      · rw [z, e] at hs
        cases hs
      · exact a2 z
    · exact b2 z
theorem readsAll_of (I : Inv X pins σ H s) (hs : H sysModules = none) : ∀ {vs : List V} {ds : List PyData} {us : List Value}, TVs H vs ds → Vals vs us → ∃ as, ReadsAll s.heap us ds as ∧ sysModules ∉ as
  | _, _, _, .nil, .nil => ⟨[], .nil, by simp⟩
  | _, _, _, .cons h t, .cons r rs => by
    obtain ⟨as, a1, a2⟩ := reads_of I hs h r
    obtain ⟨bs, b1, b2⟩ := readsAll_of I hs t rs
    exact ⟨as ++ bs, .cons a1 b1, fun z => (List.mem_append.mp z).elim a2 b2⟩
end
end
/-- repr(x), x plain data -/
def rRepr : List V → Hp → VK → Prop := fun xs H Q => ∃ (v : V) (d : PyData), xs = [v] ∧ TV H v d ∧ d.showable = true ∧ d.depth ≤ 60 ∧ d.shown.length ≤ sizeLine ∧ Q (.str d.shown) H
theorem call_repr {X : Cx} {k : Nat} (hg : X.A.guards = some []) (hr : Room k X.A) (hb : (X.base.get? sysModules).isSome = true) : CallR X (.builtin "repr") rRepr := by
  intro pins s σ H xs us Q I r h
  obtain ⟨v, d, rfl, h, hs, hd, hz, q⟩ := h
  obtain ⟨u, rfl, rv⟩ := vals1 r
  have h0 : H sysModules = none := by
    obtain ⟨o, e⟩ := Option.isSome_iff_exists.mp hb
    exact (I.bs _ _ e).2
  cases h with
  | non =>
    cases rv
    exact PySem.P.repr_of_none ⟨.str _, H, I.tok _, ⟨_, rfl⟩, q⟩
  | bl b =>
    cases rv
    exact PySem.P.repr_of_bool ⟨.str _, H, I.tok _, ⟨_, rfl⟩, q⟩
  | int i =>
    obtain ⟨t, rfl⟩ := rv
    exact PySem.P.repr_of_int (of_decide_eq_true hs) ⟨.str _, H, I.tok _, ⟨_, rfl⟩, q⟩
  | str x =>
    obtain ⟨t, rfl⟩ := rv
    exact PySem.P.repr_of_str ⟨.str _, H, I.tok _, ⟨_, rfl⟩, q⟩ hz
  | lst e h =>
    obtain ⟨as, R, n⟩ := reads_of I h0 (.lst e h) rv
    cases rv
    exact repr_of_reads' R hs (fun _ => n) hg (by have := hr.units; omega) (fun _ _ z => z) (fun h' u tk k => ⟨.str _, H, I.kept (t' := tk) k, ⟨_, rfl⟩, q⟩) hz
  | tup e h =>
    obtain ⟨as, R, n⟩ := reads_of I h0 (.tup e h) rv
    cases rv
    exact repr_of_reads' R hs (fun _ => n) hg (by have := hr.units; omega) (fun _ _ z => z) (fun h' u tk k => ⟨.str _, H, I.kept (t' := tk) k, ⟨_, rfl⟩, q⟩) hz
  | dct e h1 h2 =>
    obtain ⟨as, R, n⟩ := reads_of I h0 (.dct e h1 h2) rv
    cases rv
    exact repr_of_reads' R hs (fun _ => n) hg (by have := hr.units; omega) (fun _ _ z => z) (fun h' u tk k => ⟨.str _, H, I.kept (t' := tk) k, ⟨_, rfl⟩, q⟩) hz
end Ls
end
section
set_option Elab.async false
set_option linter.all false
set_option maxRecDepth 100000
set_option maxHeartbeats 4000000
namespace Ls
open PySem PySem.Spec PyProof.Rows L2 LamX

/-! ### heard(lambda: ..): what is wished of an exception may hang on the hearer's slots -/
section
variable {X : Cx} {pins : List (Addr × Obj)} {σ : L2.St} {H : Hp} {s : Shared}
theorem pe_actS {CXg : CXT} {Eg : XK} {Ng : List Str} {qg : Str} {sg : Scope} {g f c' : Addr} {cdg pm ctv : Value} {params : Arguments} {body : PySem.Expr} {scope : Scope} {k i : Nat} {a : Str} {pn : List (Addr × Obj)} {xe : Value → Shared → Prop} {W : WX} {tb : XK → TE} {p1 p2 : Pos}
    (I : Inv X pins σ H s) (L : LamS X.env.scope scope) (hf : s.heap.get? f = some (PySem.W.kla_obj "<lambda>" (X.env.qual ++ "<lambda>") params body scope (cloFrom X.env.cells scope.names []) pm c' ctv)) (hfn : H f = none) (hfr : f ∉ frs X.stack)
    (hbind : bindArgs (PySem.W.kla_fn "<lambda>" (X.env.qual ++ "<lambda>") params body scope (cloFrom X.env.cells scope.names []) pm (.ref c') ctv) ⟨[], []⟩ = pure [])
    (tk : Takes ((cxOf CXg X.prog X.w X.K X.mg X.base Ng qg sg g cdg X.A X.stack s H Eg).tr pn xe) W) (hr : Room (k + 1) (X.A.deeper (envOfC qg sg s.heap.objs.size g cdg)))
    (hbody : ∀ (A : Around) (outer : List Env) (s : Shared) (H : Hp) (E : XK), Room k (A.deeper (lamEnv X scope s.heap.objs.size f c')) → PE (lamCx X A outer s H E scope f c') body (tb E))
    (hN : Ng[i]? = some a) (hv : Vis sg a) (hd : (a == ("__debug__" : Str)) = false := by decide) (hcd : (a == ("__classdict__" : Str)) = false := by decide) :
    PE ((cxOf CXg X.prog X.w X.K X.mg X.base Ng qg sg g cdg X.A X.stack s H Eg).tr pn xe) (.Call (.Name a p1) [] [] p2)
      (fun σZ HZ Q => σZ[i]? = some (some (.ref f)) ∧ HZ c' = some (CodeO c' (X.env.qual ++ "<lambda>")) ∧ tb (fun cls d H' => W cls d σZ H') σ HZ Q) := by
  refine ⟨fun pinsZ sZ σZ HZ Q IZ h => ?_⟩
  obtain ⟨hs, hc, ht⟩ := h
  -- the same with the wish at these very slots: the library's rule over a wish of its own
  refine wpAny_Call_Name_kw (thn ((pe_var (pos := p1) (i := i) hN hv hd hcd).run pinsZ sZ σZ HZ (fun v H1 => v = .ref f ∧ H1 = HZ) IZ ⟨.ref f, hs, rfl, rfl⟩) fun u s1 ⟨v, H1, I1, r1, q1⟩ => ?_)
  obtain ⟨ev, eH⟩ := q1
  subst ev
  rw [eH] at I1
  obtain rfl : u = Value.ref f := r1
  have of1 := I1.base.keep f _ hf hfn hfr (fun z => nomatch (show f ∈ ([] : List Addr) from z))
  refine PySem.W.callWith_F0 ⟨_, _, _, _, of1⟩ ?_
  have un : Un (frs X.stack) [] H HZ s.heap s1.heap := I1.base
  obtain ⟨⟨oc, vs, t, hoc, hdc, hvc⟩, _, _⟩ := I1.hok c' _ hc
  have rc : codeAny (model X.prog X.w) (X.A.deeper (envOfC qg sg s.heap.objs.size g cdg)) (.call (.ref f) ⟨[], []⟩) (CR (L2.CX X.prog X.w) (envOfC qg sg s.heap.objs.size g cdg :: X.stack) X.prog X.w HZ s1 Q (fun cls d H' => W cls d σZ H')) s1 := by
    refine PySem.W.kla_callFunE hr.depth of1 rfl L.co L.gen rfl ⟨c', oc, vs, t, rfl, hoc, hdc, hvc⟩ ?_
    rw [hbind]
    refine wpAny_pure (wpAny_newFunctionEnv (fun y hy => (L.own y hy).2) (fun y hy => absurd hy (by simp)) (fun h₁ hns hsb => ⟨I1.nolimit.fresh _ hsb, ?_⟩) L.kind)
    show codeAny _ _ (.expr body (lamEnv X scope s1.heap.objs.size f c')) _ _
    have J := lam_start2 (E := fun cls d H' => W cls d σZ H') (f := f) (c' := c') (tk := s1.toks + ([] : List (Str × Value)).length) I L I1.env0 hr.hd un hns fun b o e => hsb.extBut b o (Nat.ne_of_lt (Heap.lt_size e)) (Heap.get?_push_of_some _ e)
    refine PySem.W.kla_codeExpr (wpAny_mono ((hbody _ _ s1 HZ _ (hr.deeper _)).run [] _ _ HZ Q J ht) (fun v s' hq => ?_) fun e s' hq => hq)
    obtain ⟨w', H', J', rv, q⟩ := hq
    exact ⟨w', H', J'.os, J'.bare, J'.base, J'.hok, rv, q⟩
  refine wpAny_call (codeAny_mono rc fun r s' hq => ?_)
  match r, hq with
  | .error e, hq => exact tk e s' (XE.of_call I1 (fun cls d H' h => h) hq)
  | .ok (.ret u), hq => exact I1.after hq
end
/-- the def that calls what it got; TT: what it makes of the lambda's reading -/
def GivesP (P : Program) (w : World) (K : PySem.W.Frag) (mg : Str → Option Value) (base : Heap) (A : Around) (stack : List Env) (Ng : List Str) (x : Str) (sg : Scope) (g : Addr) (cdg : Value) (bg : List Stmt) (a : Str) (q : Str) (TT : (XK → Hp → VK → Prop) → Hp → VK → Prop) : Prop :=
  ∀ (f c' : Addr) (s : Shared) (H : Hp) (Q : VK) (tl : XK → Hp → VK → Prop),
    (∀ (W : WX) (pn : List (Addr × Obj)) (xe : Value → Shared → Prop) (p1 p2 : Pos), Takes ((cxOf C8.CX0 P w K mg base Ng x sg g cdg A stack s H C8.E0).tr pn xe) W →
      PE ((cxOf C8.CX0 P w K mg base Ng x sg g cdg A stack s H C8.E0).tr pn xe) (.Call (.Name a p1) [] [] p2) (fun σZ HZ Q => σZ[0]? = some (some (.ref f)) ∧ HZ c' = some (CodeO c' q) ∧ tl (fun cls d H' => W cls d σZ H') HZ Q)) →
    H c' = some (CodeO c' q) → TT tl H Q →
    ∃ t, PSs (cxOf C8.CX0 P w K mg base Ng x sg g cdg A stack s H C8.E0).nox bg t ∧ t { nx := fun _ H' => Q .non H', rt := Q } (L2.start Ng [.ref f]) H
def GivesS (X : Cx) (Ng : List Str) (x : Str) (sg : Scope) (g : Addr) (cdg : Value) (bg : List Stmt) (a : Str) (q : Str) (TT : (XK → Hp → VK → Prop) → Hp → VK → Prop) : Prop :=
  GivesP X.prog X.w X.K X.mg X.base X.A X.stack Ng x sg g cdg bg a q TT
section
variable {X : Cx}
/-- x(lambda: body) -/
theorem pe_lamS {T : List (Addr × Str)} {TT : (XK → Hp → VK → Prop) → Hp → VK → Prop} {x a : Str} {g c P : Addr} {k : Nat} {st : Stmt} {fd : FuncData} {Ng : List Str}
    {params : Arguments} {body : PySem.Expr} {scope : Scope} {t : XK → TE} {p lpos pos : Pos} (F : Fun X.K x x st g fd) (hg : Gl X x) (hm : X.mg x = some (.ref g))
    (hb : L2.Binds X.K fd [a] []) (Sg : FnScope Ng [a] (defScope st)) (hNg : Ng[0]? = some a) (hva : Vis (defScope st) a)
    (hG : ∀ cdv, GivesS X Ng x (defScope st) g cdv (defBody st) a (X.env.qual ++ "<lambda>") TT)
    (TB : TabB X.base X.mg c P) (hcode : X.env.code = .ref c) (hmT : (P, X.env.qual ++ "<lambda>") ∈ T) (hu : ∀ p ∈ T, p.1 = P → p.2 = X.env.qual ++ "<lambda>") (hr : Room (k + 2) X.A) (L : LamS X.env.scope scope) (hdef : defaultsOf params X.env = ([], []))
    (hbind : ∀ (q : Str) (cl : List (Str × Addr)) (pm cv ctv : Value), bindArgs (PySem.W.kla_fn "<lambda>" q params body scope cl pm cv ctv) ⟨[], []⟩ = pure [])
    (hbody : ∀ (A : Around) (outer : List Env) (s : Shared) (H : Hp) (E : XK) (f c' : Addr), Room k (A.deeper (lamEnv X scope s.heap.objs.size f c')) → PE (lamCx X A outer s H E scope f c') body (t E))
    (hdb : (x == ("__debug__" : Str)) = false := by decide) (hd : (a == ("__debug__" : Str)) = false := by decide) (hcd : (a == ("__classdict__" : Str)) = false := by decide) :
    PE X (.Call (.Name x p) [.Lambda params body scope lpos] [] pos) (tLam T TT t) := by
  obtain ⟨oc, od, kV, doc, pm, an, cdv, ct, osl, rfl, lk, hcg⟩ := F.ex
  refine ⟨fun pins s σ H Q I h => ?_⟩
  obtain ⟨hT, h⟩ := h
  refine wpAny_Call_Name_kw (ld_glob I hg hm ?_ hdb)
  refine PySem.W.callWith_K (h₀ := X.base) I.ok.mod.kin F.kp ?_ (by rfl) (by rfl)
  show wpAny _ _ (spliced ((false, eval (.Lambda params body scope lpos) X.env) :: backTo pos (starEach [] X.env))) _ _ s
  refine Calls.spliced_cons (lam_make2 I TB hcode hmT hu hT hdef (L.has I.ok) fun f c' pm' ctv H1 s' I1 eN T1 hf hfn hfr hco => Calls.spliced_nil ⟨I1.kIn, ?_⟩)
  have rc : codeAny (model X.prog X.w) X.A (.call (.ref g) ⟨[.ref f], []⟩) (CR C8.CX0 X.stack X.prog X.w H1 s' Q C8.E0) s' := by
    refine run_ofS (N := Ng) (ps := [a]) (us := [.ref f]) (vs := [.ref f]) lk hcg Sg hr I1.env0 (hb s' [.ref f] I1.kIn rfl) (.cons rfl .nil) rfl fun hr' => ?_
    obtain ⟨t', ht', hq'⟩ := hG cdv f c' s' H1 Q (fun E H' Q' => t E σ H' Q') (fun W pn xe p1 p2 tk => pe_actS (i := 0) I1 L hf hfn hfr (hbind _ _ _ _ _) tk hr' (fun A outer s H E hr2 => hbody A outer s H E f c' hr2) hNg hva hd hcd) hco (h H1 eN T1)
    exact ⟨t', ht'.nox, hq'⟩
  refine wpAny_call (codeAny_mono rc fun r s2 hq => ?_)
  match r, hq with
  | .error e, hq => exact (show False from hq).elim
  | .ok (.ret u), hq => exact I1.after hq
end
end Ls
end
section
set_option Elab.async false
set_option linter.all false
set_option maxRecDepth 100000
set_option maxHeartbeats 4000000
namespace Ls
open PySem PySem.Spec PyProof.Rows L2

theorem atI_at {α : Type} {xs : List α} {i : Int} {j : Nat} {v : α} (e : i = (j : Int)) (h : xs[j]? = some v) : atI xs i = some v := by
  rw [e]
  exact atI_nat h
theorem Paired.at_ {α β : Type} {F : α → β → Prop} : ∀ {l₁ : List α} {l₂ : List β} {i : Nat} {a : α}, Paired F l₁ l₂ → l₁[i]? = some a → ∃ b, l₂[i]? = some b ∧ F a b
  | _, _, _, _, .nil, h => by simp at h
  | _, _, 0, _, .cons r _, h => by simp at h; subst h; exact ⟨_, rfl, r⟩
  | _, _, i + 1, a, .cons _ t, h => by
    obtain ⟨b, h1, h2⟩ := Paired.at_ (i := i) (a := a) t (by simpa using h)
    exact ⟨b, by simpa using h1, h2⟩
theorem ext_free {H H' : Hp} (e : Ext H H') {a : Addr} (h : H' a = none) : H a = none := by
  cases q : H a with
  | none => rfl
  | some o => rw [e a o q] at h; cases h

/-! ### what is seen of a heap: without the places S, without the tables of code objects -/
def vis (S : List Addr) (H : Hp) : Hp := fun b => if b ∈ S then none else match H b with | some (.tbl _) => none | o => o
theorem vis_some {S : List Addr} {H : Hp} {b : Addr} {o : HO} (h : vis S H b = some o) : b ∉ S ∧ H b = some o ∧ ∀ ps, o ≠ .tbl ps := by
  unfold vis at h
  by_cases e : b ∈ S
  · rw [if_pos e] at h
    cases h
  · rw [if_neg e] at h
    cases q : H b with
    | none => rw [q] at h; cases h
    | some u =>
      rw [q] at h
      cases u <;> first | (cases h; done) | (cases h; exact ⟨e, rfl, fun ps z => nomatch z⟩)
theorem vis_at {S : List Addr} {H : Hp} {b : Addr} {o : HO} (h : b ∉ S) (q : H b = some o) (n : ∀ ps, o ≠ .tbl ps) : vis S H b = some o := by
  unfold vis
  rw [if_neg h, q]
  cases o <;> first | rfl | exact absurd rfl (n _)
theorem vis_ext {S : List Addr} {H : Hp} : Ext (vis S H) H := fun a o e => (vis_some e).2.1
theorem vis_mono {S : List Addr} {H H' : Hp} (e : Ext H H') : Ext (vis S H) (vis S H') := fun a o h => by
  obtain ⟨h1, h2, h3⟩ := vis_some h
  exact vis_at h1 (e a o h2) h3
theorem vis_keep {p c : Addr} {S : List Addr} {H H' : Hp} (k : Keep p c H H') (hp : p ∈ S) (hc : c ∈ S) : Ext (vis S H) (vis S H') := fun a o e => by
  obtain ⟨h1, h2, h3⟩ := vis_some e
  exact vis_at h1 (k a o h2 (fun z => h1 (by rw [z]; exact hp)) fun z => h1 (by rw [z]; exact hc)) h3
theorem vis_extN {S : List Addr} {H H' : Hp} (k : LamX.ExtN H H') : Ext (vis S H) (vis S H') := fun a o e => by
  obtain ⟨h1, h2, h3⟩ := vis_some e
  exact vis_at h1 (k a o h2 h3) h3
theorem vis_new {S : List Addr} {H H' : Hp} (h : ∀ b ∈ S, H b ≠ none) : ∀ {a : Addr} {o : HO}, nw H H' a = some o → (∀ ps, o ≠ .tbl ps) → vis S H' a = some o := fun {a o} e n => by
  obtain ⟨h1, h2⟩ := nw_some e
  exact vis_at (fun z => h a z h1) h2 n
theorem tabs_keep {T : List (Addr × Str)} {p c : Addr} {H H' : Hp} (t : LamX.Tabs T H) (k : Keep p c H H') {xs ys : List V} (hp : H p = some (.lst xs)) (hc : H c = some (.lst ys)) : LamX.Tabs T H' := fun q hq => by
  obtain ⟨ps, h1, h2, h3⟩ := t q hq
  have n : ∀ {b : Addr} {o : HO}, H b = some o → (∀ zs, o ≠ .lst zs) → H' b = some o := fun {b o} e n => k b o e (fun z => by
      rw [z, hp] at e
      exact n xs (Option.some.inj e).symm) fun z => by
      rw [z, hc] at e
      exact n ys (Option.some.inj e).symm
  refine ⟨ps, n h1 (fun zs z => by cases z), h2, fun pos cv hcv => ?_⟩
  obtain ⟨c', e1, e2⟩ := h3 pos cv hcv
  exact ⟨c', e1, n e2 (fun zs z => by unfold LamX.CodeO at z; cases z)⟩

theorem tabs_upd {T : List (Addr × Str)} {p : Addr} {H : Hp} {o : HO} (t : LamX.Tabs T H) {xs : List V} (hp : H p = some (.lst xs)) : LamX.Tabs T (upd H p o) := tabs_keep (c := p) t Keep.upd1 hp hp
theorem tabs_upd2 {T : List (Addr × Str)} {p : Addr} {H : Hp} {o : HO} (t : LamX.Tabs T H) {kvs : List (Key × V)} (hp : H p = some (.dK kvs)) : LamX.Tabs T (upd H p o) := fun q hq => by
  obtain ⟨ps, h1, h2, h3⟩ := t q hq
  refine ⟨ps, ?_, h2, fun pos cv hcv => ?_⟩
  · rw [upd_ne fun z => by rw [z, hp] at h1; cases h1]
    exact h1
  · obtain ⟨c', e1, e2⟩ := h3 pos cv hcv
    refine ⟨c', e1, ?_⟩
    rw [upd_ne fun z => by rw [z, hp] at e2; unfold LamX.CodeO at e2; cases e2]
    exact e2
/-! ### own errors with fields, by one word -/
/-- the __init__ of an error class at C that keeps its arguments under the names fs -/
def spX (C : Addr) (fs : List Str) : Sp := fun vs H Q _ => ∃ (a : Addr) (ys : List V), vs = .ref a :: ys ∧ ys.length = fs.length ∧ H a = some (exo a C none) ∧
  ∀ (dx : Addr) (H' : Hp), H dx = none → dx ≠ a → H' a = some (exo a C (some dx)) → H' dx = some (exd dx (fs.zip ys).reverse) → (∀ b, b ≠ a → b ≠ dx → H' b = H b) → Q .non H'
section
variable (P : Program) (w : World) (K : PySem.W.Frag) (mg : Str → Option Value) (base : Heap)
structure Xer (C : Addr) (x : Str) (fs : List Str) : Prop where
  m : mg x = some (.ref C)
  oex : OexC K C
  ex : ∃ fI fd ps, PySem.W.findIn K (.ref C) "__init__" = some (some (.ref fI)) ∧ PySem.W.typeIn K (.ref fI) = some (.type "function") ∧ FnOk P w K mg base CX0 1 fI fd ps (spX C fs) ∧ Binds K fd ps []
end
theorem pa_weak {X : Cx} {es : List PySem.Expr} {ta : TA} (h : PA X es ta) : PA X es (fun σ H Q => ∃ Q0 : List V → Hp → Prop, ta σ H Q0 ∧ ∀ ys H1, Q0 ys H1 → Q ys H1) :=
  ⟨fun pos pins s σ H Q I ⟨Q0, h0, k⟩ => thn (h.run pos pins s σ H Q0 I h0) fun us s1 ⟨vs, H1, I1, r, q⟩ => ⟨vs, H1, I1, r, k _ _ q⟩⟩
section
variable {X : Cx} {C : Addr} {x : Str} {fs : List Str} {p pos : Pos} {e : PySem.Expr} {es : List PySem.Expr} {ta : TA}
theorem pmk_err (c : Xer X.prog X.w X.K X.mg X.base C x fs) (hr : Room 2 X.A) (hg : Gl X x) (ha : PA X (e :: es) ta)
    (hdb : (x == ("__debug__" : Str)) = false := by decide) (he : starEach (e :: es) X.env = (false, eval e X.env) :: starEach es X.env := by rfl) (hpl : (backTo pos (starEach es X.env)).any (·.1) = false := by rfl) :
    PMk X (.Call (.Name x p) (e :: es) [] pos) (fun σ H Q => ta σ H fun ys H1 => ys.length = fs.length ∧ ys.length ≤ 1000 ∧ ∀ d, H1 d = none → Q (.ref C) (some d) (upd H1 d (.xd (fs.zip ys).reverse))) := by
  obtain ⟨fI, fd, ps, iC, tI, F, hb⟩ := c.ex
  have h := pmk_oex (dvs := []) (ds := []) (p := p) (pos := pos) c.oex iC tI F hr hb .nil pass0 hg c.m (pa_weak ha) hdb he hpl
  intro pins s σ H Q I hq
  refine h pins s σ H Q I ?_
  refine ⟨_, hq, fun ys H1 ⟨hl, hz, k⟩ => ?_⟩
  refine ⟨hz, fun a na => ⟨a, ys ++ [], by simp, by simpa using hl, upd_same, fun dx H2 n1 n2 h1 h2 h3 => ⟨rfl, dx, _, h1, h2, ?_, ?_⟩⟩⟩
  · rw [upd_ne n2] at n1
    exact n1
  · rw [upd_ne n2] at n1
    have eH : upd (del H2 a) dx (.xd (fs.zip (ys ++ [])).reverse) = upd H1 dx (.xd (fs.zip ys).reverse) := by
      rw [List.append_nil]
      funext b
      by_cases hb : b = dx
      · rw [hb, upd_same, upd_same]
      · rw [upd_ne hb, upd_ne hb]
        by_cases ha : b = a
        · rw [ha, del_same, na]
        · rw [del_ne ha, h3 b ha hb, upd_ne ha]
    rw [eH]
    exact k dx n1
end

/-! ### what passes on in a def's body, in a lambda's, in an __init__ that says super() -/
section
variable {P : Program} {w : World} {K : PySem.W.Frag} {mg : Str → Option Value} {base : Heap} {N : List Str} {qual : Str} {scope : Scope} {f cc : Addr} {cd : Value} {A : Around} {outer : List Env} {s : Shared} {H : Hp} {E : XK}
theorem tkC : Takes (cxOf (L2.CX P w) P w K mg base N qual scope f cd A outer s H E) (fun cls d _ H => E cls d H) := takes_of rfl rfl rfl rfl
theorem passC : Passes (L2.CX P w) (cxOf (L2.CX P w) P w K mg base N qual scope f cd A outer s H E) E := passes_call tkC fun _ _ _ _ h => h
theorem tkS : Takes (cxS (L2.CX P w) P w K mg base N qual scope f cd cc A outer s H E) (fun cls d _ H => E cls d H) := takes_of rfl rfl rfl rfl
theorem passS : Passes (L2.CX P w) (cxS (L2.CX P w) P w K mg base N qual scope f cd cc A outer s H E) E := passes_call tkS fun _ _ _ _ h => h
theorem passN {X : Cx} : Passes (L2.CX P w) X (fun _ _ _ => False) := fun _ _ _ _ _ _ _ h => by
  obtain ⟨_, _, _, _, _, _, _, _, _, _, _, _, z⟩ := h
  exact z.elim
theorem tkL {X : Cx} {c' : Addr} : Takes (LamX.lamCx X A outer s H E scope f c') (fun cls d _ H => E cls d H) := takes_of rfl rfl rfl rfl
theorem passLm {X : Cx} {c' : Addr} : Passes (L2.CX X.prog X.w) (LamX.lamCx X A outer s H E scope f c') E := passes_call tkL fun _ _ _ _ h => h
end
/-! ### plain data: its type, its truth as a name -/
def tyN : PyData → String
  | .none => "NoneType"
  | .bool _ => "bool"
  | .int _ => "int"
  | .str _ => "str"
  | .list _ => "list"
  | .tuple _ => "tuple"
  | .dict _ => "dict"
theorem tyX_of {K : PySem.W.Frag} {H : Hp} {v : V} {d : PyData} (h : TV H v d) : TyX K H v (.type (tyN d)) := by
  cases h with
  | non => exact .base .non
  | bl b => exact .base (.bl b)
  | int i => exact .base (.int i)
  | str x => exact .base (.str x)
  | lst e _ => exact .base (.lst e)
  | tup e _ => exact .base (.tup e)
  | dct e _ _ => exact .base (.dK e)
def isStrD : PyData → Bool
  | .str _ => true
  | _ => false
theorem kit_str {K : PySem.W.Frag} (d : PyData) : PySem.W.kitOne K (.type (tyN d)) (.type "str") = some (isStrD d) := by
  have k1 : kitB "NoneType" "str" = some false := by decide +kernel
  have k2 : kitB "bool" "str" = some false := by decide +kernel
  have k3 : kitB "int" "str" = some false := by decide +kernel
  have k4 : kitB "str" "str" = some true := by decide +kernel
  have k5 : kitB "list" "str" = some false := by decide +kernel
  have k6 : kitB "tuple" "str" = some false := by decide +kernel
  have k7 : kitB "dict" "str" = some false := by decide +kernel
  cases d <;> first | exact kit_ty k1 | exact kit_ty k2 | exact kit_ty k3 | exact kit_ty k4 | exact kit_ty k5 | exact kit_ty k6 | exact kit_ty k7
theorem strD {d : PyData} (h : isStrD d = true) : ∃ z, d = .str z := by
  cases d <;> first | exact ⟨_, rfl⟩ | cases h
theorem tv_str {H : Hp} {v : V} {z : Str} (h : TV H v (.str z)) : v = .str z := by
  cases h
  rfl
/-- texts within are short -/
def SmD (d : PyData) : Prop := ∀ z, d = .str z → z.length ≤ 1000
/-- a def that closes over __class__ -/
structure FunS (K : PySem.W.Frag) (x qual : Str) (st : Stmt) (f : Addr) (fd : FuncData) (cda cc : Addr) : Prop where
  ex : ∃ (oc : Value) (od : Option Addr) (kV doc pm : Value) (an : Option Addr) (ct : Value) (osl : Array (Option Value)),
    fd = PySem.W.ksFn x qual (defArgs st) (defBody st) (defScope st) .none kV doc pm an (.ref cda) ct cc ∧ K.lookup f = some ⟨oc, od, .func fd, osl⟩ ∧ PySem.W.codeIn K (.ref cda) qual = true
  kp : PySem.W.keepIn K (.ref f) = true

/-! ### a comprehension that makes one item a turn; what is kept may hang on the turn -/
section
variable {J : It} {n : Nat} {G : Hp → Prop} {Y : Nat → Hp → V → Hp → Prop} {g : TG} {te : TE} {vs : List Nat} {σ : L2.St} {H1 : Hp} {D : Addr} {Qd : Hp → Prop}
theorem lc_mapI (w : Walk J n G Y) (S : List Addr) (hS : D ∈ S) (Iv : Nat → Hp → Prop) (R : Nat → V → Hp → Prop) (hn : n ≤ 100000) (hm : ∀ j y H H', Ext H H' → R j y H → R j y H')
    (hIv : ∀ i H o, Iv i H → Iv i (upd H D o)) (h0 : Iv 0 (upd H1 D (.lst []))) (hG : ∀ i H, Ext (hid S H1) (hid S H) → Iv i H → G H)
    (hs : ∀ i x H H' acc (C : VK), i < n → Ext (hid S H1) (hid S H) → Iv i H → H D = some (.lst acc) → Y i H x H' → (∀ y H4, H4 D = some (.lst acc) → Ext (hid S H) (hid S H4) → Iv (i + 1) H4 → R i y (hid S H4) → C y H4) →
      g x (wipe σ vs) H' fun σ2 H2 => wipe σ2 vs = wipe σ vs ∧ te σ2 H2 C)
    (hd : ∀ H ys, Ext (hid S H1) (hid S H) → Iv n H → H D = some (.lst ys) → ys.length = n → (∀ j y, ys[j]? = some y → R j y (hid S H)) → Qd H) :
    ∃ W : Nat → Nat → Hp → Prop, (∃ m, W 0 m (upd H1 D (.lst []))) ∧ ∀ i m H, W i m H →
      (J.stop i H ∧ Qd H) ∨ (J.go i H ∧ ∃ Nx : Hp → Prop, (∀ H', Nx H' → ∃ m', m' < m ∧ W (i + 1) m' H') ∧ ∀ x H', J.yld i H x H' → g x (wipe σ vs) H' fun σ2 H2 => wipe σ2 vs = wipe σ vs ∧ tYes σ2 H2 fun b H3 =>
        if b = true then te σ2 H3 fun y H4 => ∃ acc, H4 D = some (.lst acc) ∧ acc.length < sizeLine ∧ Nx (upd H4 D (.lst (acc ++ [y]))) else Nx H3) := by
  refine lc_it w (fun i H => ∃ ys : List V, H D = some (.lst ys) ∧ ys.length = i ∧ Ext (hid S H1) (hid S H) ∧ Iv i H ∧ ∀ j y, ys[j]? = some y → R j y (hid S H))
    ⟨[], upd_same, rfl, by rw [hid_upd hS]; exact Ext.rfl', h0, fun j y e => by simp at e⟩ (fun i H _ ⟨_, _, _, e, iv, _⟩ => hG i H e iv) ?_ ?_
  · rintro i x H H' hi ⟨ys, hD, hl, e, iv, r⟩ y
    refine hs i x H H' ys _ hi e iv hD y fun v H4 h4 e4 iv4 r4 => ?_
    refine ⟨ys, h4, Nat.lt_of_le_of_lt (show ys.length ≤ 100000 by omega) (by decide), ys ++ [v], upd_same, by rw [List.length_append, hl]; rfl, by rw [hid_upd hS]; exact e.trans e4, hIv _ _ _ iv4, fun j z hz => ?_⟩
    rw [hid_upd hS]
    by_cases hj : j < ys.length
    · rw [List.getElem?_append_left hj] at hz
      exact hm j z _ _ e4 (r j z hz)
    · rw [List.getElem?_append_right (by omega)] at hz
      have : j = i := by
        cases q : j - ys.length with
        | zero => omega
        | succ k => rw [q] at hz; simp at hz
      subst this
      rw [hl] at hz
      simp at hz
      subst hz
      exact r4
  · rintro H ⟨ys, hD, hl, e, iv, r⟩
    exact hd H ys e iv hD hl r
end

/-! ### C.m(a = v), m a classmethod -/
section
variable (P : Program) (w : World) (K : PySem.W.Frag) (mg : Str → Option Value) (base : Heap) (CX : CXT) (k : Nat)
structure ClmK (C : Addr) (m a : Str) (sp : Sp) : Prop where
  ex : ∃ mc p g fd c, ClX.CRead K C mc ∧ ClX.CMet K C mc m p g ∧ FnOk P w K mg base CX k g fd [c, a] sp ∧ ∀ (s : Shared) (u : Value), BindsTo s fd ⟨[.ref C], [(a, u)]⟩ [(c, .ref C), (a, u)]
end
section
variable {X : Cx} {CX : CXT} {k : Nat} {C : Addr} {sp : Sp} {E : XK} {m a : Str} {pos apos : Pos} {o : PySem.Expr} {kws : List Keyword} {ta : TE} {tk : TA} {pl : Sem Bool}
theorem pe_clmk (c : ClmK X.prog X.w X.K X.mg X.base CX k C m a sp) (hr : Room k X.A) (ho : PE X o ta) (hx : Passes CX X E) (hkw : PK X kws tk)
    (hall : (backToKw pos (keywordEach kws X.env)).all (·.1.isSome) = true := by rfl) (hks : (backToKw pos (keywordEach kws X.env)).filterMap (·.1) = [a] := by rfl)
    (hpl : ((backTo pos (starEach [] X.env)).any (·.1) || (backToKw pos (keywordEach kws X.env)).any (·.1.isNone)) = false := by rfl)
    (ht : eval (.Call (.Attribute o m apos) [] kws pos) X.env = (do
      let ov ← eval o X.env
      standAt apos.atName
      let (f, first) ← holding [ov] (getMethod ov m pl)
      callWith pos f first (backTo pos (starEach [] X.env)) (backToKw pos (keywordEach kws X.env))) := by rfl) :
    PE X (.Call (.Attribute o m apos) [] kws pos) (fun σ H Q => ta σ H fun x H1 => x = .ref C ∧ tk σ H1 fun zs H2 => ∃ z, zs = [z] ∧ sp [.ref C, z] H2 Q E) := by
  obtain ⟨mc, p, g, fd, cn, r, c, F, hb⟩ := c.ex
  refine ⟨fun pins s σ H Q I h => ?_⟩
  refine PySem.W.methodCall_KW (pl := pl) (thn (ho.run pins s σ H _ I h) fun u s1 ⟨x, H1, I1, rx, ex, q⟩ => ?_) ht
  subst ex
  obtain rfl : u = Value.ref C := rx
  refine ClX.getmethcm_ok I1 r c fun s2 I2 => ?_
  refine PySem.W.callWith_of (P := PySem.W.MethP X.K s1.heap.objs.size g (.ref C)) hpl (PySem.W.keeps_M c.fi) (evalArgs_kw2_nil hall ?_)
  refine thn (hkw.run pos _ s2 σ H1 _ I2 q) fun ws s3 ⟨zs, H2, I3, rz, z, ez, q3⟩ => ?_
  subst ez
  refine ⟨⟨ClX.pin_at I3, I3.kIn⟩, ?_⟩
  rw [hks]
  obtain ⟨u, rfl, ru⟩ := vals1 rz
  have r2 : Vals [V.ref C, z] [Value.ref C, u] := .cons rfl (.cons ru .nil)
  have run := F.run X.A X.stack s3 H2 ⟨[.ref C], [(a, u)]⟩ [.ref C, u] [.ref C, z] Q E hr I3.env0 (hb s3 u) r2 q3
  have z2 : wpAny (model X.prog X.w) X.A (call (.ref s1.heap.objs.size) [] [(a, u)]) (EP X ((s1.heap.objs.size, PySem.W.methodObj (.ref g) (.ref C)) :: pins) σ Q) X.xe s3 := by
    refine wpAny_call (PySem.W.method_call (ClX.pin_at I3) (codeAny_mono run fun res s' hq => ?_))
    match res, hq with
    | .error e, hq => exact hx _ σ H2 s3 e s' I3 hq
    | .ok (.ret u), hq => exact I3.after hq
  exact thn z2 fun _ _ y => ClX.unpinE y
end

mutual
theorem tv_vis {H : Hp} : ∀ {v : V} {d : PyData}, TV H v d → TV (vis [] H) v d
  | _, _, .non => .non
  | _, _, .bl b => .bl b
  | _, _, .int i => .int i
  | _, _, .str x => .str x
  | _, _, .lst q h => .lst (vis_at (by simp) q fun _ z => by cases z) (tvs_vis h)
  | _, _, .tup q h => .tup (vis_at (by simp) q fun _ z => by cases z) (tvs_vis h)
  | _, _, .dct q h1 h2 => .dct (vis_at (by simp) q fun _ z => by cases z) (tvs_vis h1) (tvs_vis h2)
theorem tvs_vis {H : Hp} : ∀ {vs : List V} {ds : List PyData}, TVs H vs ds → TVs (vis [] H) vs ds
  | _, _, .nil => .nil
  | _, _, .cons h hs => .cons (tv_vis h) (tvs_vis hs)
end
end Ls
end
section
set_option Elab.async false
set_option linter.all false
set_option maxRecDepth 100000
set_option maxHeartbeats 4000000
namespace Ls
open PySem PySem.Spec PyProof.Rows L2

/-! ### x == y and x != y by an own __eq__, both answers, y of any kind -/
namespace OW
open PySem.W
section
variable {prog : Program} {w : World} {A : Around} {E : Value → Shared → Prop} {s : Shared} {K : Frag} {x C f : Addr} {ox : Obj} {od : Option Obj} {b tb : Value}
theorem ifBound_B {M : Model} {id : String} {name : Str} {args : List Value} {Q : Option Value → Shared → Prop} (X : K.In s.heap) (I : InstAt s.heap x ox C od) (hs : findIn K (.ref C) name = some (some (.builtin id))) (hb : bindSpecial (.builtin id) (.ref x) = pure (.builtin id, [.ref x]))
    (h : wpAny M A (call (.builtin id) (.ref x :: args)) (fun v => Q (some v)) E s) : wpAny M A (callSpecialIfBound? (.ref x) name args) Q E s := by
  simp only [callSpecialIfBound?, bindSpecialIfBound?]
  refine wpAny_holding (wpAny_bind (wpAny_bind (wpAny_bind (I.type.here ((looks_findIn X hs).here ?_)))))
  refine wpAny_bind (wpAny_askSetting (wpAny_ite ?_))
  have last : wpAny M A (call (.builtin id) ([.ref x] ++ args) >>= fun v => pure (some v)) Q E s := wpAny_bind (wpAny_mono h (fun v s' h' => wpAny_pure h') fun _ _ h' => h')
  split
  · exact wpAny_bind (wpAny_of_eq hb (wpAny_pure (by exact last)))
  · exact wpAny_tryCatch (wpAny_bind (wpAny_of_eq hb (wpAny_pure (by exact last))))
theorem ne_body {Q : Fin → Shared → Prop} (hu : A.units < cLine) (X : K.In s.heap) (I : InstAt s.heap x ox C od) (hs : findIn K (.ref C) "__eq__" = some (some (.ref f))) (hf : isFn K (.ref f) = true)
    (h : wpAny (model prog w) A (call (.ref f) [.ref x, b]) (fun v s' => ∃ r, v = .bool r ∧ Q (.done (.ret (.bool (!r)))) s') E s) : wpAny (model prog w) A (Builtin.«object.__ne__» ⟨[.ref x, b], []⟩) Q E s := by
  unfold Builtin.«object.__ne__»
  refine wpAny_bind (wpAny_of_eq (a := ((Value.ref x : Value), [b])) (by first | rfl | (simp only [slotArgs]; rfl)) ?_)
  refine wpAny_bind (wpAny_cRoomFor hu ?_)
  refine wpAny_bind (ifBound_K X I hs hf (wpAny_mono h (fun v s' hv => ?_) fun _ _ e => e))
  obtain ⟨r, rfl, q⟩ := hv
  exact wpAny_bind (wpAny_truthy_bool (wpAny_pure q))
theorem rich_ne {L : Addr} {h₀ : Heap} {m : Str → Option Value} {Q : Value → Shared → Prop} (hu : A.units + 1 < cLine) (F : Fr h₀ L s.heap m) (X₀ : K.In h₀) (I : InstAt s.heap x ox C od) (ht : Looks (model prog w) s.heap (typeOf b) tb) (hn : notFirst K C tb = true)
    (hs : findIn K (.ref C) "__eq__" = some (some (.ref f))) (hf : isFn K (.ref f) = true) (hne : findIn K (.ref C) "__ne__" = some (some (.builtin "object.__ne__"))) (hm : mroIn K C (.type "object") = some true)
    (h : wpAny (model prog w) A.in1 (call (.ref f) [.ref x, b]) (fun v s' => ∃ r, v = .bool r ∧ Q (.bool (!r)) s') E s) : wpAny (model prog w) A (richCompare .NotEq (.ref x) b) Q E s := by
  have X := X₀.keeps F.keep
  have sub : Looks (model prog w) s.heap (isInstance (.ref x) (.type "object")) true := I.type.andThen (looks_mroIn X hm)
  have bd : bindSpecial (.builtin "object.__ne__") (.ref x) = pure (.builtin "object.__ne__", [.ref x]) := PySem.F.cmp_object.ne.bind _
  have one : wpAny (model prog w) A (tryCompare (.ref x) "__ne__" b) (fun r s' => ∃ v, r = some (.bool v) ∧ Q (.bool v) s') E s := by
    unfold tryCompare
    refine wpAny_bind (ifBound_B X I hne bd ?_)
    obtain ⟨hp, g, d, t, os⟩ := s
    refine wpAny_call (codeAny_call_builtin PySem.F.cmp_object.ne.plain PySem.F.cmpEntry_ne (@check_slot (model prog w) _ _ ⟨hp, g, d, t, os⟩ "object.__ne__" "object" "__ne__" (.ref x) [b] [] _ PySem.F.cmpKind_ne PySem.F.cmpSplit_ne sub (PySem.F.cmpArgs_ne _ _) ?_))
    refine ne_body (A := A.in1) hu X I hs hf (wpAny_mono h (fun v s' hv => ?_) fun _ _ e => e)
    obtain ⟨r, rfl, q⟩ := hv
    exact ⟨r, rfl, wpAny_pure ⟨_, rfl, q⟩⟩
  unfold richCompare
  simp only [oneThing_ref]
  refine wpAny_holding (wpAny_bind (wpAny_cRoomFor (by omega) (wpAny_bind (I.type.here (wpAny_bind (ht.here ?_))))))
  split
  · rename_i q
    have e : subIn K tb (.ref C) = some false := by
      rcases Bool.or_eq_true_iff.mp hn with e | e
      · rw [beq_iff_eq.mp e] at q
        simp at q
      · exact beq_iff_eq.mp e
    refine wpAny_bind ((looks_subIn X e).here ?_)
    simp only [Bool.false_eq_true, if_false]
    refine wpAny_bind (wpAny_mono one (fun r s' z => ?_) fun _ _ e => e)
    obtain ⟨v, rfl, hq⟩ := z
    exact wpAny_pure hq
  · refine wpAny_bind (wpAny_pure ?_)
    simp only [Bool.false_eq_true, if_false]
    refine wpAny_bind (wpAny_mono one (fun r s' z => ?_) fun _ _ e => e)
    obtain ⟨v, rfl, hq⟩ := z
    exact wpAny_pure hq
end
end OW
/-- x == y: x an instance, its class's own __eq__ at f keeps sp -/
def rEqO (K : PySem.W.Frag) (f : Addr) (sp : Sp) (E : XK) : R2 := fun x y H Q => ∃ (a C dx : Addr) (fs : List (Str × V)) (tb : Value), x = .ref a ∧ H a = some (.ins C dx fs) ∧ PySem.W.findIn K (.ref C) "__eq__" = some (some (.ref f)) ∧ TyX K H y tb ∧ PySem.W.notFirst K C tb = true ∧
  sp [x, y] H (fun v H' => ∃ r, v = .bl r ∧ Q (.bl r) H') E
def rNeO (K : PySem.W.Frag) (f : Addr) (sp : Sp) (E : XK) : R2 := fun x y H Q => ∃ (a C dx : Addr) (fs : List (Str × V)) (tb : Value), x = .ref a ∧ H a = some (.ins C dx fs) ∧ PySem.W.findIn K (.ref C) "__eq__" = some (some (.ref f)) ∧ PySem.W.findIn K (.ref C) "__ne__" = some (some (.builtin "object.__ne__")) ∧ PySem.W.mroIn K C (.type "object") = some true ∧
  TyX K H y tb ∧ PySem.W.notFirst K C tb = true ∧ sp [x, y] H (fun v H' => ∃ r, v = .bl r ∧ Q (.bl (!r)) H') E
section
variable {X : Cx} {CX : CXT} {n : Nat} {f : Addr} {sp : Sp} {E : XK}
theorem op_eqO (F : FnR X.prog X.w X.K X.mg X.base CX n f sp) (hf : PySem.W.isFn X.K (.ref f) = true) (hr : Room n X.A) (hx : Passes CX X E) : OpR X (compareOp .Eq) (rEqO X.K f sp E) := by
  intro pins s σ H x y v u Q I rx ry h
  obtain ⟨a, C, dx, fs, tb, rfl, ha, hs, ty, hn, q⟩ := h
  cases (show v = Value.ref a from rx)
  obtain ⟨mA, J, _⟩ := ins_get I.hok ha
  obtain ⟨od, J, _⟩ := J.look
  obtain ⟨m, hF⟩ := I.fr
  obtain ⟨P, Z, p, _⟩ := kit_of I ry ty
  show wpAny (model X.prog X.w) X.A (richCompare .Eq (.ref a) u) (EP X pins σ Q) X.xe s
  refine PySem.W.cmp_K (op := .Eq) hr.units0 hF I.ok.mod.kin J (Z.ty _ _ I.kIn p) hn hs hf ?_
  have r2 : Vals [V.ref a, y] [Value.ref a, u] := .cons rfl (.cons ry .nil)
  refine thn (wpAny_call (run_fnR F hr hx I r2 q)) fun w' s' ⟨z, H', I', rz, r, ez, q'⟩ => ?_
  subst ez
  cases rz
  exact ⟨.bl r, H', I', rfl, q'⟩
theorem op_neO (F : FnR X.prog X.w X.K X.mg X.base CX n f sp) (hf : PySem.W.isFn X.K (.ref f) = true) (hr : Room (n + 1) X.A) (hx : ∀ (pins : List (Addr × Obj)) (σ : L2.St) (H : Hp) (s : Shared) (e : Value) (s' : Shared), Inv X pins σ H s → CX X.stack H s E e s' → X.xe e s') : OpR X (compareOp .NotEq) (rNeO X.K f sp E) := by
  intro pins s σ H x y v u Q I rx ry h
  obtain ⟨a, C, dx, fs, tb, rfl, ha, hs, hne, hm, ty, hn, q⟩ := h
  cases (show v = Value.ref a from rx)
  obtain ⟨mA, J, _⟩ := ins_get I.hok ha
  obtain ⟨od, J, _⟩ := J.look
  obtain ⟨m, hF⟩ := I.fr
  obtain ⟨P, Z, p, _⟩ := kit_of I ry ty
  show wpAny (model X.prog X.w) X.A (richCompare .NotEq (.ref a) u) (EP X pins σ Q) X.xe s
  refine OW.rich_ne (by have := hr.units; omega) hF I.ok.mod.kin J (Z.ty _ _ I.kIn p) hn hs hf hne hm ?_
  refine wpAny_call (codeAny_mono (F X.A.in1 X.stack s H [.ref a, u] [.ref a, y] _ E hr.in1 I.env0.in1 (.cons rfl (.cons ry .nil)) q) fun r s' hq => ?_)
  match r, hq with
  | .error e, hq => exact hx pins σ H s e s' I hq
  | .ok (.ret w'), hq =>
    obtain ⟨z, H', I', rz, r, ez, q'⟩ := I.after hq
    subst ez
    cases rz
    exact ⟨r, rfl, .bl (!r), H', I', rfl, q'⟩
end

/-! ### the same, the written part by its own name (for a block) -/
section
variable {X : Cx} {P : Program} {w : World} {K : PySem.W.Frag} {mg : Str → Option Value} {base : Heap} {CX : CXT} {n : Nat} {f : Addr} {sp : Sp} {E : XK} {A : Around}
theorem op_eqOK (F : FnR P w K mg base CX n f sp) (hf : PySem.W.isFn K (.ref f) = true) (hr : Room n A) (hP : X.prog = P) (hw : X.w = w) (hK : X.K = K) (hmg : X.mg = mg) (hb : X.base = base) (hA : X.A = A) (hx : Passes CX X E) : OpR X (compareOp .Eq) (rEqO K f sp E) := by
  subst hP hw hK hmg hb hA
  exact op_eqO F hf hr hx
theorem ix_listK (hK : X.K = K) : IxR X (rIxL K) := by
  subst hK
  exact ix_list
end
end Ls
end
section
set_option Elab.async false
set_option linter.all false
set_option maxRecDepth 100000
set_option maxHeartbeats 4000000
namespace Ls
open PySem PySem.Spec PyProof.Rows L2
open TL
/-! ### a text cut at one sign -/
theorem pre1 (s c : Nat) (r : List Nat) : pre [s] (c :: r) = decide (c = s) := by
  show ((c :: r).take 1 == [s]) = _
  by_cases h : c = s
  · subst h
    simp
  · have : ¬ [c] = [s] := fun e => h (List.cons.inj e).1
    simp [h]
theorem spl1_ne (s : Nat) : ∀ (l acc : List Nat), spl [s] 0 acc l ≠ []
  | [], acc => by rw [spl_nil]; simp
  | c :: r, acc => by
    by_cases h : c = s
    · rw [spl_hit (by rw [pre1, decide_eq_true h])]
      simp
    · rw [spl_miss (by rw [pre1, decide_eq_false h])]
      exact spl1_ne s r _
theorem joinL_cons (S a : List Nat) : ∀ {l : List (List Nat)}, l ≠ [] → joinL S (a :: l) = a ++ (S ++ joinL S l)
  | [], h => absurd rfl h
  | b :: r, _ => rfl
theorem spl1_join (s : Nat) : ∀ (l acc : List Nat), joinL [s] (spl [s] 0 acc l) = acc ++ l
  | [], acc => by
    rw [spl_nil, List.append_nil]
    rfl
  | c :: r, acc => by
    by_cases h : c = s
    · rw [spl_hit (by rw [pre1, decide_eq_true h])]
      show joinL [s] (acc :: spl [s] 0 [] r) = _
      rw [joinL_cons _ _ (spl1_ne s r []), spl1_join s r []]
      subst h
      simp
    · rw [spl_miss (by rw [pre1, decide_eq_false h]), spl1_join s r (acc ++ [c])]
      simp
theorem spl1_free (s : Nat) : ∀ (l acc : List Nat), s ∉ acc → ∀ p ∈ spl [s] 0 acc l, s ∉ p
  | [], acc, ha, p, hp => by
    rw [spl_nil] at hp
    rw [List.mem_singleton.mp hp]
    exact ha
  | c :: r, acc, ha, p, hp => by
    by_cases h : c = s
    · rw [spl_hit (by rw [pre1, decide_eq_true h])] at hp
      rcases List.mem_cons.mp hp with e | e
      · rw [e]
        exact ha
      · exact spl1_free s r [] (by simp) p e
    · rw [spl_miss (by rw [pre1, decide_eq_false h])] at hp
      exact spl1_free s r _ (by simp [ha, Ne.symm h]) p hp
theorem spl1_sub (s : Nat) : ∀ (l acc : List Nat), ∀ p ∈ spl [s] 0 acc l, p.length ≤ acc.length + l.length ∧ ∀ c ∈ p, c ∈ acc ∨ c ∈ l
  | [], acc, p, hp => by
    rw [spl_nil] at hp
    rw [List.mem_singleton.mp hp]
    exact ⟨Nat.le_refl _, fun c h => .inl h⟩
  | c :: r, acc, p, hp => by
    by_cases h : c = s
    · rw [spl_hit (by rw [pre1, decide_eq_true h])] at hp
      rcases List.mem_cons.mp hp with e | e
      · rw [e]
        exact ⟨by omega, fun c h => .inl h⟩
      · obtain ⟨h1, h2⟩ := spl1_sub s r [] p e
        refine ⟨by simp at h1 ⊢; omega, fun c h => (h2 c h).elim (fun z => absurd z (by simp)) fun z => .inr (by simp [z])⟩
    · rw [spl_miss (by rw [pre1, decide_eq_false h])] at hp
      obtain ⟨h1, h2⟩ := spl1_sub s r _ p hp
      refine ⟨by simp at h1 ⊢; omega, fun c' h => (h2 c' h).elim (fun z => ?_) fun z => .inr (by simp [z])⟩
      rcases List.mem_append.mp z with z | z
      · exact .inl z
      · exact .inr (by simp at z; simp [z])
section
variable {x y : Str} {s : Nat}
theorem split_tl (ey : tl y = [s]) (hk : y.cps.all (· < 256) = true) : (Txt.split x y).map tl = spl [s] 0 [] (tl x) := by
  rw [split_spl x y (by rw [ey]; simp) (kind_ok hk), ey]
theorem split_back (ey : tl y = [s]) (hk : y.cps.all (· < 256) = true) : Txt.join y (Txt.split x y) = x := by
  refine ext_tl ?_
  rw [join_eq, tl_join, ey, split_tl ey hk, spl1_join]
  rfl
theorem split_free (ey : tl y = [s]) (hk : y.cps.all (· < 256) = true) {p : Str} (hp : p ∈ Txt.split x y) : s ∉ tl p := by
  have h : tl p ∈ (Txt.split x y).map tl := List.mem_map.mpr ⟨p, hp, rfl⟩
  rw [split_tl ey hk] at h
  exact spl1_free s _ _ (by simp) _ h
theorem split_sub (ey : tl y = [s]) (hk : y.cps.all (· < 256) = true) {p : Str} (hp : p ∈ Txt.split x y) : p.length ≤ x.length ∧ ∀ c ∈ tl p, c ∈ tl x := by
  have h : tl p ∈ (Txt.split x y).map tl := List.mem_map.mpr ⟨p, hp, rfl⟩
  rw [split_tl ey hk] at h
  obtain ⟨h1, h2⟩ := spl1_sub s _ _ _ h
  refine ⟨?_, fun c hc => (h2 c hc).elim (fun z => absurd z (by simp)) fun z => z⟩
  rw [len_tl p, len_tl x]
  simpa using h1
theorem split_ne (ey : tl y = [s]) (hk : y.cps.all (· < 256) = true) : Txt.split x y ≠ [] := fun e => by
  have h := split_tl (x := x) ey hk
  rw [e] at h
  exact spl1_ne s _ _ h.symm
end
theorem sp_tl : tl (" " : Str) = [32] := by decide +kernel
theorem sp_kd : (" " : Str).cps.all (· < 256) = true := by decide +kernel
theorem split2 {z a b : Str} (h : Txt.split z " " = [a, b]) : z = a ++ " " ++ b := by
  have e := split_back (x := z) sp_tl sp_kd
  rw [h, join_eq] at e
  exact e.symm
theorem split_two {a b : Str} (ha : (32 : Nat) ∉ tl a) (hb : (32 : Nat) ∉ tl b) : Txt.split (a ++ " " ++ b) " " = [a, b] := by
  have e : a ++ " " ++ b = Txt.join " " [a, b] := by rw [join_eq]; rfl
  rw [e]
  exact split_join sp_tl sp_kd (by simp) (by
    intro p hp
    rcases List.mem_cons.mp hp with rfl | hp
    · exact ha
    · rw [List.mem_singleton.mp hp]; exact hb)
/-! ### short texts of plain signs -/
def OkS (n : Nat) (z : Str) : Prop := z.length ≤ n ∧ ∀ c ∈ tl z, c < 256
theorem OkS.mono {n m : Nat} {z : Str} (h : OkS n z) (l : n ≤ m) : OkS m z := ⟨Nat.le_trans h.1 l, h.2⟩
theorem OkS.append {n m : Nat} {a b : Str} (h : OkS n a) (k : OkS m b) : OkS (n + m) (a ++ b) := ⟨by
  rw [Str.length_append]
  exact Nat.add_le_add h.1 k.1, fun c hc => by
  rw [tl_append] at hc
  rcases List.mem_append.mp hc with hc | hc
  · exact h.2 c hc
  · exact k.2 c hc⟩
theorem OkS.part {n : Nat} {x y p : Str} {s : Nat} (h : OkS n x) (ey : tl y = [s]) (hk : y.cps.all (· < 256) = true) (hp : p ∈ Txt.split x y) : OkS n p :=
  let ⟨h1, h2⟩ := split_sub ey hk hp
  ⟨Nat.le_trans h1 h.1, fun c hc => h.2 c (h2 c hc)⟩
/-- plain data that repr can show -/
structure Shw (n : Nat) (d : PyData) : Prop where
  sh : d.showable = true
  dp : d.depth ≤ 20
  ln : d.shown.length ≤ n
theorem Shw.str {n : Nat} {z : Str} (h : OkS n z) : Shw (10 * n + 2) (.str z) := ⟨rfl, Nat.zero_le _, by
  have := StrLaws.reprText_len z fun c hc => Nat.lt_trans (h.2 c hc) (by decide)
  show (reprText z).length ≤ _
  have := h.1
  omega⟩
theorem Shw.mono {n m : Nat} {d : PyData} (h : Shw n d) (l : n ≤ m) : Shw m d := ⟨h.sh, h.dp, Nat.le_trans h.ln l⟩
theorem Shw.list1 {n : Nat} {a : PyData} (ha : Shw n a) (hd : a.depth < 20) : Shw (n + 5) (.list [a]) := ⟨by
  show (a.showable && true) = true
  rw [ha.sh]
  rfl, by
  show max a.depth 0 + 1 ≤ 20
  omega, by
  have := listText_len_le [a.shown]
  have := ha.ln
  show (listText [a.shown]).length ≤ _
  simp at *
  omega⟩
theorem Shw.tup1 {n : Nat} {a : PyData} (ha : Shw n a) (hd : a.depth < 20) : Shw (n + 5) (.tuple [a]) := ⟨by
  show (a.showable && true) = true
  rw [ha.sh]
  rfl, by
  show max a.depth 0 + 1 ≤ 20
  omega, by
  have := tupleText_len_le [a.shown]
  have := ha.ln
  show (tupleText [a.shown]).length ≤ _
  simp at *
  omega⟩
theorem Shw.list2 {n m : Nat} {a b : PyData} (ha : Shw n a) (hb : Shw m b) (hd : a.depth < 20) (hd2 : b.depth < 20) : Shw (n + m + 7) (.list [a, b]) := ⟨by
  show (a.showable && (b.showable && true)) = true
  rw [ha.sh, hb.sh]
  rfl, by
  show max a.depth (max b.depth 0) + 1 ≤ 20
  omega, by
  have := listText_len_le [a.shown, b.shown]
  have := ha.ln
  have := hb.ln
  show (listText [a.shown, b.shown]).length ≤ _
  simp at *
  omega⟩
theorem Shw.tup2 {n m : Nat} {a b : PyData} (ha : Shw n a) (hb : Shw m b) (hd : a.depth < 20) (hd2 : b.depth < 20) : Shw (n + m + 7) (.tuple [a, b]) := ⟨by
  show (a.showable && (b.showable && true)) = true
  rw [ha.sh, hb.sh]
  rfl, by
  show max a.depth (max b.depth 0) + 1 ≤ 20
  omega, by
  have := tupleText_len_le [a.shown, b.shown]
  have := ha.ln
  have := hb.ln
  show (tupleText [a.shown, b.shown]).length ≤ _
  simp at *
  omega⟩

theorem joinL_nil : ∀ l : List (List Nat), joinL [] l = l.flatten
  | [] => rfl
  | [a] => by simp [joinL]
  | a :: b :: r => by
    rw [joinL_cons _ _ (by simp), joinL_nil (b :: r)]
    simp
/-- single signs put together -/
theorem join_signs {cs : List Nat} : tl (Txt.join "" (cs.map fun c => (⟨#[c]⟩ : Str))) = cs := by
  have e0 : tl ("" : Str) = [] := by decide +kernel
  rw [join_eq, tl_join, e0, joinL_nil, List.map_map]
  have : ∀ l : List Nat, (l.map (tl ∘ fun c => (⟨#[c]⟩ : Str))).flatten = l := fun l => by
    induction l with
    | nil => rfl
    | cons c r ih =>
      rw [List.map_cons, List.flatten_cons, ih]
      rfl
  exact this cs
/-! ### rows of data -/
theorem TVs.len {H : Hp} : ∀ {xs : List V} {ds : List PyData}, TVs H xs ds → xs.length = ds.length
  | _, _, .nil => rfl
  | _, _, .cons _ t => by simp [TVs.len t]
theorem TVs.at_ {H : Hp} : ∀ {xs : List V} {ds : List PyData} {i : Nat} {v : V}, TVs H xs ds → xs[i]? = some v → ∃ d, ds[i]? = some d ∧ TV H v d
  | _, _, _, _, .nil, h => by simp at h
  | _, _, 0, _, .cons r _, h => by simp at h; subst h; exact ⟨_, rfl, r⟩
  | _, _, i + 1, v, .cons _ t, h => by
    obtain ⟨d, h1, h2⟩ := TVs.at_ (i := i) (v := v) t (by simpa using h)
    exact ⟨d, by simpa using h1, h2⟩
theorem spl1_len (s : Nat) : ∀ (l acc : List Nat), (spl [s] 0 acc l).length ≤ l.length + 1
  | [], acc => by rw [spl_nil]; simp
  | c :: r, acc => by
    by_cases h : c = s
    · rw [spl_hit (by rw [pre1, decide_eq_true h])]
      have := spl1_len s r []
      simp only [List.length_cons]
      show (spl [s] 0 [] r).length + 1 ≤ _
      omega
    · rw [spl_miss (by rw [pre1, decide_eq_false h])]
      have := spl1_len s r (acc ++ [c])
      simp only [List.length_cons]
      omega
theorem split_len {x y : Str} {s : Nat} (ey : tl y = [s]) (hk : y.cps.all (· < 256) = true) : (Txt.split x y).length ≤ x.length + 1 := by
  have h := congrArg List.length (split_tl (x := x) ey hk)
  rw [List.length_map] at h
  rw [h, len_tl x]
  exact spl1_len s _ _
end Ls
end
section
set_option Elab.async false
set_option linter.all false
set_option maxRecDepth 100000
set_option maxHeartbeats 4000000
namespace Ls
open PySem PySem.Spec PyProof.Rows L2
open TL
/-! ### z[::-1], z a text -/
def revS (z : Str) : Str := ⟨z.cps.toList.reverse.toArray⟩
theorem tl_revS (z : Str) : tl (revS z) = (tl z).reverse := by simp [revS, tl]
theorem len_revS (z : Str) : (revS z).length = z.length := by
  show (z.cps.toList.reverse.toArray).size = z.cps.size
  simp
def tRevS (te : TE) : TE := fun σ H Q => te σ H fun x H1 => ∃ z, x = .str z ∧ z.length ≤ sizeLine ∧ Q (.str (revS z)) H1
theorem pe_revS {X : Cx} {e : PySem.Expr} {te : TE} {k : Nat} {p1 p2 p3 pos : Pos} (he : PE X e te) : PE X (.Subscript e (.Slice none none (some (.UnaryOp .USub (.Constant (.int 1) k p1) p2)) p3) pos) (tRevS te) := by
  refine ⟨fun pins s σ H Q I h => ?_⟩
  refine Subscript_ (thn (he.run pins s σ H _ I h) fun v s1 ⟨x, H1, I1, r1, q1⟩ => ?_)
  obtain ⟨z, ex, hz, q⟩ := q1
  subst ex
  obtain ⟨t, rfl⟩ := r1
  have hst : PO X (some (.UnaryOp .USub (.Constant (.int 1) k p1) p2)) (tPart (tUn (rU fun i => .int (-i)) (tC (.int 1)))) := po_some (pe_un un_neg pe_int)
  refine wpAny_Slice (thn (po_none.run pins s1 σ H1 (fun o H2 => o = none ∧ H2 = H1) I1 ⟨rfl, rfl⟩) fun vl s2 ⟨l, H2, I2, pl, el, e2⟩ => ?_)
  subst el e2
  refine thn (po_none.run pins s2 σ H2 (fun o H3 => o = none ∧ H3 = H2) I2 ⟨rfl, rfl⟩) fun vu s3 ⟨u, H3, I3, pu, eu, e3⟩ => ?_
  subst eu e3
  refine thn (hst.run pins s3 σ H3 (fun o H4 => o = some (-1) ∧ H4 = H3) I3 ⟨1, rfl, -1, rfl, rfl, rfl⟩) fun vs s4 ⟨o, H4, I4, ps, eo, e4⟩ => ?_
  subst eo e4
  have I5 : Inv X pins σ H4 { s4 with heap := s4.heap.push { cls := .type "slice", data := .fields #[vl, vu, vs] } } := I4.kept (t' := s4.toks) fun b ob q => Heap.get?_push_of_some _ q
  show wpAny (model X.prog X.w) X.A (subscriptTail e (.Slice none none (some (.UnaryOp .USub (.Constant (.int 1) k p1) p2)) p3) (.str z t) (.ref s4.heap.objs.size)) (EP X pins σ Q) X.xe { s4 with heap := s4.heap.push { cls := .type "slice", data := .fields #[vl, vu, vs] } }
  obtain ⟨l, rfl, hl⟩ := IsPart.raw pl
  obtain ⟨u, rfl, hu⟩ := IsPart.raw pu
  obtain ⟨st, rfl, hs⟩ := IsPart.raw ps
  refine tail_any (ops := [.ref s4.heap.objs.size, .str z t]) (typeIs_str _ _ _) F.slot_str_getitem.lookup ?_ (by with_unfolding_all rfl)
  refine wpAny_getItem_str_slice (l := l) (u := u) (st := st) ⟨_, Heap.get?_push_size _ rfl, rfl, rfl⟩ (by rw [hs]; rfl) ?_
  unfold sliceMade slicePicked
  rw [hs, hl, hu]
  have e1 : Builtin.Str.strSliceIndices none none ((some (-1 : Int)).getD 1) z.length = (List.range z.cps.size).reverse := by
    show sliceRange ((z.cps.size : Int) - 1) (-1) (-1) = _
    rw [PySem.W.krv_sliceRange, PySem.W.krv_range]
  rw [e1, if_neg (by simp), List.filterMap_reverse, PySem.W.krv_all]
  refine ⟨?_, .str _, H4, I5.tok _, ⟨_, rfl⟩, q⟩
  show (revS z).length ≤ sizeLine
  rw [len_revS]
  exact hz
end Ls
end
section
set_option Elab.async false
set_option linter.all false
set_option maxRecDepth 100000
set_option maxHeartbeats 4000000
namespace Ls
open PySem PySem.Spec PyProof.Rows L2
/-! ### C.f(a, ..), f a def written in the class at C (or above): no binding -/
/-- C.m is the def at g -/
structure Clf (P : Program) (w : World) (K : PySem.W.Frag) (mg : Str → Option Value) (base : Heap) (CX : CXT) (k : Nat) (C : Addr) (m : Str) (sp : Sp) : Prop where
  ex : ∃ (mc : Value) (g : Addr), ClX.CRead K C mc ∧ PySem.W.findCls K (.ref C) mc m = some (.val (.ref g)) ∧ PySem.W.keepIn K (.ref g) = true ∧ FnR P w K mg base CX k g sp
section
variable {X : Cx} {CX : CXT} {k : Nat} {C : Addr} {m x : Str} {sp : Sp} {E : XK} {o e : PySem.Expr} {es : List PySem.Expr} {ta te : TE} {t : TA} {p apos pos sp_ : Pos} {pl : Sem Bool}
theorem pe_clf (c : Clf X.prog X.w X.K X.mg X.base CX k C m sp) (hr : Room k X.A) (ho : PE X o ta) (hx : Passes CX X E) (ha : PA X (e :: es) t)
    (hst : starEach (e :: es) X.env = (false, eval e X.env) :: starEach es X.env := by rfl) (hpl : (backTo pos (starEach es X.env)).any (·.1) = false := by rfl)
    (ht : eval (.Call (.Attribute o m apos) (e :: es) [] pos) X.env = (do
      let ov ← eval o X.env
      standAt apos.atName
      let (f, first) ← holding [ov] (getMethod ov m pl)
      callWith pos f first (backTo pos (starEach (e :: es) X.env)) (backToKw pos (keywordEach [] X.env))) := by rfl) :
    PE X (.Call (.Attribute o m apos) (e :: es) [] pos) (fun σ H Q => ta σ H fun v H1 => v = .ref C ∧ t σ H1 fun vs H2 => sp vs H2 Q E) := by
  obtain ⟨mc, g, rd, fc, kp, F⟩ := c.ex
  refine ⟨fun pins s σ H Q I h => PySem.W.methodCall_KW (pl := pl) (thn (ho.run pins s σ H _ I h) fun u s1 q1 => ?_) ht⟩
  obtain ⟨v, H1, I1, rv, rfl, q1⟩ := q1
  obtain rfl : u = Value.ref C := rv
  refine PySem.W.method_cls I1.kIn rd.ga (ClX.getcval_ok (v := .ref g) I1 rd ⟨fc, rfl⟩ fun s2 I2 => ?_)
  refine PySem.W.callWith_K (h₀ := X.base) I2.ok.mod.kin kp (thn (ha.run pos pins s2 σ H1 _ I2 q1) fun us s3 q3 => ?_) hst hpl
  obtain ⟨vs, H2, I3, r3, q3⟩ := q3
  exact ⟨I3.kIn, wpAny_call (run_fnR F hr hx I3 r3 q3)⟩
/-! ### C() and C(*y) -/
def tMk0 (C : Addr) (sp : Sp) (E : XK) : TE := fun _ H Q => ∀ a dx, H a = none → H dx = none → dx ≠ a → sp [V.ref a] (upd (upd H dx (.own a)) a (.ins C dx [])) (fun v H2 => v = .non ∧ Q (.ref a) H2) E
theorem pe_mk0 (c : Mkc X.prog X.w X.K X.mg X.base CX k C x sp) (hr : Room (k + 1) X.A) (hg : Gl X x) (hx : Passes CX X E) (hdb : (x == ("__debug__" : Str)) = false := by decide) : PE X (.Call (.Name x p) [] [] pos) (tMk0 C sp E) := by
  obtain ⟨f, hm, M, F⟩ := c.ex
  refine ⟨fun pins s σ H Q I h => wpAny_Call_Name_kw (ld_glob I hg hm ?_ hdb)⟩
  exact PySem.W.callWith_K0 I.kIn M.kp (StX.run_makeR (us := []) (vs := []) M F hr hx I .nil h)
def tMkS (K : PySem.W.Frag) (C : Addr) (sp : Sp) (E : XK) (te : TE) : TE := fun σ H Q => te σ H fun y H1 => ∃ b xs, y = V.ref b ∧ (SqT K H1 b xs ∨ SqL K H1 b xs) ∧
  ∀ a dx, H1 a = none → H1 dx = none → dx ≠ a → sp (V.ref a :: xs) (upd (upd H1 dx (.own a)) a (.ins C dx [])) (fun v H2 => v = .non ∧ Q (.ref a) H2) E
theorem pe_mkS (c : Mkc X.prog X.w X.K X.mg X.base CX k C x sp) (hr : Room (k + 1) X.A) (hg : Gl X x) (hx : Passes CX X E) (he : PE X e te) (hdb : (x == ("__debug__" : Str)) = false := by decide)
    (hst : starEach [.Starred e sp_] X.env = [(true, eval e X.env)] := by rfl) : PE X (.Call (.Name x p) [.Starred e sp_] [] pos) (tMkS X.K C sp E te) := by
  obtain ⟨f, hm, M, F⟩ := c.ex
  refine ⟨fun pins s σ H Q I h => wpAny_Call_Name_kw (ld_glob I hg hm ?_ hdb)⟩
  refine PySem.W.callWith_S (h₀ := X.base) I.ok.mod.kin M.kp (thn (he.run pins s σ H _ I h) fun v s1 q1 => ?_) hst
  obtain ⟨y, H1, I1, ry, b, xs, rfl, hxs, q⟩ := q1
  obtain rfl : v = Value.ref b := ry
  exact StX.star_any I1 hxs fun us s2 I2 rv => ⟨I2.kIn, StX.run_makeR M F hr hx I2 rv q⟩
/-! ### xs.count(y), flat items -/
theorem count_eqU {x : V} : ∀ {xs : List V} {us : List Value}, Vals xs us → xs.all flatV = true → us.countP (eqU x) = xs.countP fun y => eqV y x
  | _, _, .nil, _ => rfl
  | y :: xs, u :: us, .cons r t, f => by
    rw [List.all_cons, Bool.and_eq_true] at f
    rw [List.countP_cons, List.countP_cons, eqU_of r f.1, count_eqU t f.2]
def rCntF (K : PySem.W.Frag) : V → List V → Hp → VK → Prop := fun x ys H Q => ∃ (p : Addr) (xs : List V) (y : V), x = .ref p ∧ ys = [y] ∧ SqL K H p xs ∧ flatV y = true ∧ xs.all flatV = true ∧ Q (.int (xs.countP (fun z => eqV z y) : Nat)) H
theorem mt_countF : MtR X "list.count" (rCntF X.K) := by
  intro pins s σ H x ys v us Q I rx rxs h
  obtain ⟨p, xs, y, rfl, rfl, hs, fy, fs, q⟩ := h
  cases rx
  obtain ⟨u, rfl, ru⟩ := rxs.one
  obtain ⟨its, rv, ⟨⟨cls, dd, data, sl⟩, n, ho, hc, hdn, hd⟩, hlen⟩ := I.list hs
  simp only at hc hd
  subst hc hd
  refine call_meets PySem.F.slot_list_count ⟨_, ho, rfl⟩ PySem.F.entry_list_count (PySem.F.args_list_count_2 _ _)
    (SeqAt.list_countAt p its.toArray n dd sl u (eqU y)) ⟨ho, fun z hz => mem_eqAt ru fy rv fs z (by simpa using hz), ?_⟩
  have ec : its.toArray.toList.countP (eqU y) = xs.countP fun z => eqV z y := count_eqU rv fs
  refine ⟨.int (xs.countP (fun z => eqV z y) : Nat), H, I.tok _, ⟨s.toks, ?_⟩, q⟩
  show Value.int ((its.toArray.toList.countP (eqU y) : Nat) : Int) s.toks = _
  rw [ec]
end
/-! ### a def with one star parameter behind the first, or behind two -/
section
variable {P : Program} {w : World} {K : PySem.W.Frag} {mg : Str → Option Value} {base : Heap}
/-- what is left over lies in a new tuple -/
def spStar (n : Nat) (sp : Sp) : Sp := fun vs H Q E => ∃ ws rest, vs = ws ++ rest ∧ ws.length = n ∧ rest.length ≤ sizeLine ∧ ∀ p, H p = none → sp (ws ++ [V.ref p]) (upd H p (.tup rest)) Q E
end
end Ls
namespace Ls
open PySem PySem.Spec PyProof.Rows L2
/-! ### xs.count(y) within a comprehension's block -/
section
variable {X : Cx} {K : PySem.W.Frag} {o e : PySem.Expr} {to : TE} {t : TA} {apos cpos : Pos}
theorem pe_countK (hK : X.K = K) (ho : PE X o to) (ha : PA X [e] t) (hbase : attributeBase o "count" X.env (eval o X.env) = eval o X.env := by rfl)
    (hfew : ((backTo cpos (starEach [e] X.env)).all (fun x => !x.1) && (backToKw cpos (keywordEach [] X.env)).all (fun x => x.1.isSome) && decide (([e] : List PySem.Expr).length + ([] : List Keyword).length + (if ([] : List Keyword).isEmpty then 0 else 1) < 30)) = true := by rfl)
    (hline : (apos.endLine == cpos.line) = true := by rfl) (hs : starEach [e] X.env = (false, eval e X.env) :: starEach [] X.env := by rfl) (hplain : (backTo cpos (starEach [] X.env)).any (·.1) = false := by rfl) :
    PE X (.Call (.Attribute o "count" apos) [e] [] cpos) (tBM K "list" (rCntF K) to t) := by
  subst hK
  exact pe_bm PySem.F.plainAttrs_list PySem.F.slot_list_count PySem.F.type_list_count mt_countF ho ha hbase hfew hline hs hplain
end
/-! ### texts, each once -/
theorem count_strs (z : Str) : ∀ l : List Str, (l.map V.str).countP (fun y => eqV y (.str z)) = l.count z
  | [] => rfl
  | a :: l => by
    rw [List.map_cons, List.countP_cons, List.count_cons, count_strs z l]
    have : eqV (.str a) (.str z) = (a == z) := rfl
    rw [this]
theorem once_iff {l : List Str} : (l.all fun z => l.count z == 1) = true ↔ l.Nodup := by
  rw [List.nodup_iff_count, List.all_eq_true]
  constructor
  · intro h a
    by_cases ha : a ∈ l
    · have := h a ha
      simp at this
      omega
    · rw [List.count_eq_zero.mpr ha]
      omega
  · intro h z hz
    have h1 := h z
    have h2 := List.count_pos_iff.mpr hz
    simp
    omega
theorem card_iff {M l : List Str} (nd : M.Nodup) (hm : ∀ y, y ∈ M ↔ y ∈ l) : M.length = l.length ↔ l.Nodup := by
  constructor
  · intro e
    rw [List.nodup_iff_count]
    intro a
    refine Nat.le_of_not_lt fun h2 => ?_
    have hin : a ∈ l := List.count_pos_iff.mp (by omega)
    have sub : ∀ y ∈ M, y ∈ l.erase a := fun y hy => by
      have hy' := (hm y).mp hy
      by_cases ey : y = a
      · subst ey
        refine List.count_pos_iff.mp ?_
        rw [List.count_erase_self]
        omega
      · exact (List.mem_erase_of_ne ey).mpr hy'
    have h3 := nd.length_le_of_subset sub
    rw [List.length_erase_of_mem hin] at h3
    have := List.length_pos_of_mem hin
    omega
  · intro h
    have h1 := nd.length_le_of_subset fun y hy => (hm y).mp hy
    have h2 := h.length_le_of_subset fun y hy => (hm y).mpr hy
    omega
end Ls
end
section
set_option Elab.async false
set_option linter.all false
set_option maxRecDepth 100000
set_option maxHeartbeats 4000000
/-! Sets of texts: set(xs), len and sorted of it. What HandS.Set says of sets of ints, told of texts; the tables' own lemmas are its. -/
namespace Ls
open PySem PySem.Spec PyProof.Rows L2
/-- the text of an entry -/
def txt (e : Int × Value) : Str := match e.2 with
  | .str z _ => z
  | _ => Str.empty
def EntT (w : World) (e : Int × Value) : Prop := ∃ tk, e.2 = Value.str (txt e) tk ∧ e.1 = hashStr w (txt e)
/-- at a stands a set of texts: those of L, each once -/
def TSet (w : World) (h : Heap) (a : Addr) (L : List Str) : Prop :=
  ∃ o es ep t, h.get? a = some o ∧ (o.ExactSet ∧ o.data = .set es ep t) ∧ ((∀ e ∈ es.toList, EntT w e) ∧ (es.toList.map txt).Perm L ∧ L.Nodup) ∧ (es.size < scanBound ∧ t.fits es.size = true ∧ Ris t.place.toList) ∧ (w.params.followText "set-order" = true ∨ t.led = true)
section
variable {P : Program} {w : World} {A : Around} {E : Value → Shared → Prop} {s : Shared} {a : Addr} {L : List Str}
theorem TSet.keep {h h' : Heap} (R : TSet w h a L) (k : ∀ o, h.get? a = some o → h'.get? a = some o) : TSet w h' a L :=
  let ⟨o, es, ep, t, ho, r⟩ := R
  ⟨o, es, ep, t, k o ho, r⟩
theorem ents {l : List (Int × Value)} (g : ∀ e ∈ l, EntT w e) : ElemsOf (PySem.strKind P w) l := fun e he => by
  obtain ⟨tk, h1, h2⟩ := g e he
  exact ⟨⟨txt e, by rw [h1]; exact strKind_is P w _ _, h2⟩, by rw [h1]; rfl⟩
theorem ent_is {e : Int × Value} (g : EntT w e) (z : Str) : (PySem.strKind P w).is z e.2 = true ↔ txt e = z := by
  obtain ⟨tk, h1, _⟩ := g
  have hk : (PySem.strKind P w).is (txt e) e.2 = true := by rw [h1]; exact strKind_is P w _ _
  rw [KeyKind.is_eq_decide hk z, decide_eq_true_eq]
  exact eq_comm
/-- the entries stored; the table grown where it is too full -/
theorem tset_tail {g : Bool → Sem Unit} (hg : ∀ (b : Bool) (s₁ : Shared) (Q' : Unit → Shared → Prop), Q' () s₁ → wpAny (model P w) A (g b) Q' E s₁) {o : Obj} {es ns : Array (Int × Value)} {ep : Nat} {t u : SetTable} {M : List Str} {dm : Bool} {R : Option Bool → Shared → Prop}
    (ho : s.heap.get? a = some o) (hx : o.ExactSet) (hd : o.data = .set es ep t) (gn : ∀ e ∈ ns.toList, EntT w e) (pm : (ns.toList.map txt).Perm M) (nd : M.Nodup) (hb : ns.size < scanBound) (hf : u.fits ns.size = true) (hr : Ris u.place.toList)
    (hl : w.params.followText "set-order" = true ∨ u.led = true) (hR : ∀ h', Heap.SameBut a s.heap h' → TSet w h' a M → R (some true) { s with heap := h' }) :
    wpAny (model P w) A (do
        storeSet a ns u
        if (!dm && u.tooFull) = true then do
            g (relayAll u ns (SetTable.grown ns.size)).2.2
            storeSet a (relayAll u ns (SetTable.grown ns.size)).1 (relayAll u ns (SetTable.grown ns.size)).2.1
            pure (some true)
          else pure (some true)) R E s := by
  have o1 := store_at (es' := ns) (t' := u) ho hd
  have b1 := Heap.SameBut.update s.heap a (Obj.putSet ns u)
  refine wpAny_bind (wpAny_storeSet_of ho hd ?_ (fits_of_scanBound hb))
  by_cases c : (!dm && u.tooFull) = true
  · rw [if_pos c]
    have q1 := relayAll_perm u ns (SetTable.grown ns.size)
    have q2 := relayAll_fits u ns (SetTable.grown ns.size)
    have q3 := relayAll_ris u ns (SetTable.grown ns.size)
    have q4 := relayAll_led u ns (SetTable.grown ns.size)
    generalize relayAll u ns (SetTable.grown ns.size) = Z at q1 q2 q3 q4 ⊢
    obtain ⟨n2, u2, gv⟩ := Z
    dsimp only at q1 q2 q3 q4 ⊢
    have hz : n2.size < scanBound := by
      have := q1.length_eq
      rw [Array.length_toList, Array.length_toList] at this
      omega
    refine wpAny_bind (hg _ _ _ (wpAny_bind (wpAny_storeSet_of o1 rfl ?_ (fits_of_scanBound hz))))
    refine wpAny_pure (hR _ (b1.trans (Heap.SameBut.update _ a _)) ⟨_, n2, _, u2, store_at o1 rfl, ⟨hx, rfl⟩, ⟨fun e he => gn e (q1.mem_iff.mp he), (q1.map txt).trans pm, nd⟩, ⟨hz, q2, q3⟩, ?_⟩)
    rcases hl with z | z
    · exact .inl z
    · exact .inr (by rw [q4]; exact z)
  · rw [if_neg c]
    exact wpAny_pure (hR _ b1 ⟨_, ns, _, u, o1, ⟨hx, rfl⟩, ⟨gn, pm, nd⟩, ⟨hb, hf, hr⟩, hl⟩)
theorem tset_add {z : Str} {tk : Tok} {Q : Bool → Shared → Prop} (R : TSet w s.heap a L) (room : L.length + 1 < scanBound)
    (hQ : ∀ h' M b, Heap.SameBut a s.heap h' → TSet w h' a M → M.length ≤ L.length + 1 → (∀ y, y ∈ M ↔ y ∈ L ∨ y = z) → Q b { s with heap := h' }) :
    wpAny (model P w) A (setAddHashed a (.str z tk) ((PySem.strKind P w).hash z)) Q E s := by
  obtain ⟨o, es, ep, t, ho, ⟨hx, hd⟩, ⟨ge, pm, nd⟩, ⟨hb, hf, hr⟩, hl⟩ := R
  have el : ElemsOf (PySem.strKind P w) es.toList := ents ge
  have hk : (PySem.strKind P w).is z (.str z tk) = true := strKind_is P w z tk
  unfold setAddHashed setAddHashedIn
  refine wpAny_holding (wpAny_bind (wpAny_setState_of ho hd hf ?_))
  dsimp only
  rw [byScan_of rfl hb el]
  simp only [↓reduceIte]
  unfold setAddByScan
  refine wpAny_bind (wpAny_bind (wpAny_rule (wpAny_bind (wpAny_setScan_of hk ho hd hf el ?_))))
  cases hfi : List.findIdx? (fun e => (PySem.strKind P w).is z e.2) es.toList with
  | some j =>
    dsimp only
    obtain ⟨hj, pj, _⟩ := List.findIdx?_eq_some_iff_getElem.mp hfi
    have hin : z ∈ L := pm.mem_iff.mp (List.mem_map.mpr ⟨_, List.getElem_mem hj, (ent_is (ge _ (List.getElem_mem hj)) z).mp pj⟩)
    refine wpAny_pure (wpAny_pure (hQ s.heap L _ (Heap.SameBut.refl a s.heap) ⟨o, es, ep, t, ho, ⟨hx, hd⟩, ⟨ge, pm, nd⟩, ⟨hb, hf, hr⟩, hl⟩ (Nat.le_succ _) fun y => ⟨.inl, fun q => ?_⟩))
    rcases q with q | q
    · exact q
    · rw [q]; exact hin
  | none =>
    dsimp only
    have hno : z ∉ L := fun q => by
      obtain ⟨e, he, q⟩ := List.mem_map.mp (pm.mem_iff.mpr q)
      have := List.findIdx?_eq_none_iff.mp hfi e he
      rw [(ent_is (ge e he) z).mpr q] at this
      cases this
    have q1 := layNew_perm t es ((PySem.strKind P w).hash z) (.str z tk)
    have q2 := layNew_fits t es ((PySem.strKind P w).hash z) (.str z tk)
    have q3 := layNew_ris t es ((PySem.strKind P w).hash z) (.str z tk) hr
    have q4 := layNew_led t es ((PySem.strKind P w).hash z) (.str z tk)
    generalize layNew t es ((PySem.strKind P w).hash z) (.str z tk) = Z at q1 q2 q3 q4 ⊢
    obtain ⟨ns, u, dm, gv⟩ := Z
    dsimp only at q1 q2 q3 q4 ⊢
    rw [Array.toList_push] at q1
    have q5 : ns.toList.Perm ((hashStr w z, Value.str z tk) :: es.toList) := q1.trans (List.perm_append_singleton _ _)
    have gn : ∀ e ∈ ns.toList, EntT w e := fun e he => by
      rcases List.mem_cons.mp (q5.mem_iff.mp he) with c | c
      · rw [c]; exact ⟨tk, rfl, rfl⟩
      · exact ge e c
    have pn : (ns.toList.map txt).Perm (z :: L) := (q5.map txt).trans (List.Perm.cons z pm)
    have nn : (z :: L).Nodup := List.nodup_cons.mpr ⟨hno, nd⟩
    have hz : ns.size = L.length + 1 := by
      have := pn.length_eq
      rw [List.length_map, Array.length_toList, List.length_cons] at this
      exact this
    have hbn : ns.size < scanBound := by omega
    have hln : w.params.followText "set-order" = true ∨ u.led = true := by
      rcases hl with c | c
      · exact .inl c
      · exact .inr (by rw [q4]; exact c)
    have fin : ∀ h', Heap.SameBut a s.heap h' → TSet w h' a (z :: L) → Q true { s with heap := h' } := fun h' sb r => hQ h' (z :: L) true sb r (Nat.le_refl _) fun y => by
      rw [List.mem_cons]
      exact Or.comm
    have way : ∀ (b : Bool) (s₁ : Shared) (Q' : Unit → Shared → Prop), Q' () s₁ → wpAny (model P w) A (match b with | true => rule "set.scan.the-table-gave-way" | false => pure ()) Q' E s₁ := fun b s₁ Q' q => by
      cases b
      · exact wpAny_pure q
      · exact wpAny_rule q
    refine wpAny_bind (way _ _ _ ?_)
    by_cases hp : u.plain = true
    · rw [if_pos hp]
      refine wpAny_bind ?_
      rw [hashByValue_scannable 8 (show (Value.str z tk).scannable = true from rfl)]
      refine wpAny_pure (tset_tail way ho hx hd gn pn nn hbn ?_ ?_ ?_ fun h' sb r => ?_)
      · split
        · exact q2
        · exact SetTable.fits_plain_off q2
      · split <;> exact q3
      · split <;> exact hln
      · exact wpAny_pure (fin h' sb r)
    · rw [if_neg hp]
      refine wpAny_bind (wpAny_pure ?_)
      simp only [↓reduceIte]
      exact tset_tail way ho hx hd gn pn nn hbn q2 q3 hln fun h' sb r => wpAny_pure (fin h' sb r)
/-! ### set(xs) -/
theorem tset_loop {I : Addr} {fp wr : List Addr} {G : Array GenState → Array GenState → Prop} {n : Nat} {Pv : Nat → Value → Prop} {St : Nat → Shared → Prop} {R : Result → Shared → Prop} (W : WalksS P w A.in1 I fp wr G n Pv St) (hSf : a ∉ fp)
    (xs : List Str) (hn : xs.length = n) (hb : xs.length + 1 < scanBound) (hv : ∀ i v, Pv i v → ∃ z tk, xs[i]? = some z ∧ v = .str z tk) :
    ∀ (d i : Nat) (s : Shared) (L : List Str), i + d = n → St i s → TSet w s.heap a L → L.length ≤ i → (∀ y, y ∈ L ↔ y ∈ xs.take i) →
      (∀ s' M, Moved (a :: wr) G s s' → TSet w s'.heap a M → M.length ≤ n → (∀ y, y ∈ M ↔ y ∈ xs) → R (.ok (.ret .none)) s') →
      codeAny (model P w) A (.builtin "set.update.loop" ⟨[.ref a, .ref I], []⟩) R s := by
  have hSw : a ∉ wr := fun h => hSf (W.sub _ h)
  have more : ∀ b ∈ wr, b ∈ a :: wr := fun b hb => List.mem_cons_of_mem _ hb
  intro d
  induction d with
  | zero =>
    intro i s L hi hst hS hlen hmem hR
    have e : i = n := by omega
    subst e
    refine codeAny_builtin F.entry_set_update_loop ?_
    rw [Around.under_plainId F.plain_set_update_loop _]
    show wpAny _ A.in1 (pyNext (.ref I) >>= _) _ _ s
    refine wpAny_bind (W.done s _ _ hst fun s' hm => ?_)
    refine wpAny_pure (hR s' L (hm.mono more) (hS.keep fun o q => hm.heap a o hSw q) hlen fun y => ?_)
    rw [hmem, List.take_of_length_le (by omega)]
  | succ d ih =>
    intro i s L hi hst hS hlen hmem hR
    refine codeAny_builtin F.entry_set_update_loop ?_
    rw [Around.under_plainId F.plain_set_update_loop _]
    show wpAny _ A.in1 (pyNext (.ref I) >>= _) _ _ s
    refine wpAny_bind (W.item i s _ _ (by omega) hst fun v s1 hP hst1 hm1 => ?_)
    obtain ⟨z, tk, hz, rfl⟩ := hv i v hP
    show wpAny _ A.in1 (holding [Value.str z tk] (setAdd a (.str z tk)) >>= _) _ _ s1
    refine wpAny_bind (wpAny_holding ?_)
    unfold setAdd
    refine wpAny_holding (wpAny_bind ((PySem.strKind P w).pyHash (k := z) (strKind_is _ _ _ _) ?_))
    refine tset_add (s := { s1 with toks := s1.toks + 1 }) (hS.keep fun o q => hm1.heap a o hSw q) (by omega) fun h2 M b sb hM lM mM => ?_
    refine wpAny_pure ⟨plainId_quiet F.plain_set_update_loop _, ih (i + 1) _ M (by omega) (W.frame _ s1 _ _ hst1 (Nat.le_succ _) fun b hb o q => ?_) hM (by omega) (fun y => ?_) fun s3 M3 hm3 h3 l3 e3 => hR s3 M3 (Moved.trans W.gtrans ((hm1.mono more).then_heap (Nat.le_succ _) fun b o hb q => ?_) hm3) h3 l3 e3⟩
    · rw [sb.2 b fun c => hSf (c ▸ hb)]
      exact q
    · rw [mM, hmem, List.take_add_one, hz, List.mem_append]
      simp
    · rw [sb.2 b fun c => hb (c ▸ List.mem_cons_self)]
      exact q
/-- an empty set, laid -/
abbrev set0 (w : World) : Obj := { cls := .type "set", dict := none, data := .set #[] 0 (.fresh 0 0 (!w.params.followText "set-order")) }
theorem tset_fresh {h : Heap} {a : Addr} (ho : h.get? a = some (set0 w)) : TSet w h a [] := by
  refine ⟨_, #[], 0, _, ho, ⟨⟨rfl, rfl, rfl⟩, rfl⟩, ⟨fun e he => by simp at he, List.Perm.refl _, List.nodup_nil⟩, ⟨by decide, by rfl, List.Pairwise.nil⟩, ?_⟩
  show _ ∨ (!w.params.followText "set-order") = true
  cases w.params.followText "set-order"
  · exact .inr rfl
  · exact .inl rfl
theorem call_setT {l : Addr} {items : Array Value} (xs : List Str) {Q : Value → Shared → Prop} (hh : A.handled = none) (hl : s.heap.IsList l items) (hx : StrsAre items.toList xs) (hb : xs.length + 1 < scanBound)
    (h : ∀ (h' : Heap) (tk : Nat) (M : List Str), TSet w h' s.heap.objs.size M → M.length ≤ xs.length → (∀ y, y ∈ M ↔ y ∈ xs) → (∀ b o, s.heap.get? b = some o → h'.get? b = some o) → Q (.ref s.heap.objs.size) { s with heap := h', toks := tk }) :
    wpAny (model P w) A (call (.type "set") [.ref l]) Q E s := by
  have hsz : xs.length = items.size := by rw [← StrsAre.len_eq hx, Array.length_toList]
  obtain ⟨c, tl, hmro⟩ := F.called_set.mro
  have hmade := F.called_set.made
  have hsub := F.called_set.sub
  have n1 := F.called_set.notType
  have n2 := F.called_set.canCreate
  have n3 := F.typeCall_set_1 (.ref l)
  refine wpAny_call (codeAny_of_tree ?_)
  show wpAny _ _ (callAny (.type "set") _) _ _ _
  refine wpAny_pure ⟨Code.quiet_builtin _ (by decide +kernel), codeAny_builtin F.entry_type_call ?_⟩
  rw [Around.under_plain (weight_type_call_type "set" [.ref l] []) rfl]
  repeat (any_goals (first | assumption | wp_step))
  refine codeAny_mono (code_set_led1 (.ref l) (E := E) (Q₁ := fun v s1 => v = .ref s.heap.objs.size ∧ s1 = { s with heap := s.heap.push (set0 w) }) ⟨rfl, rfl⟩) fun r s1 hr => ?_
  match r, hr with
  | .error e, hr => exact hr
  | .ok (.ret v), ⟨e1, e2⟩ =>
    subst e1 e2
    have hS : (s.heap.push (set0 w)).get? s.heap.objs.size = some (set0 w) := Heap.get?_push_size _ rfl
    have hT : Shared.TypeIs { s with heap := s.heap.push (set0 w) } (.ref s.heap.objs.size) "set" := ⟨_, hS, rfl⟩
    have i1 := F.called_set.init.lookup
    have i2 := F.called_set.init.bind (.ref s.heap.objs.size)
    repeat (any_goals (first | assumption | wp_step))
    refine codeAny_mono (codeAny_call_builtin (R := wants (fun r s2 => r = .none ∧ ∃ h' tk M, s2 = { s with heap := h', toks := tk } ∧ TSet w h' s.heap.objs.size M ∧ M.length ≤ xs.length ∧ (∀ y, y ∈ M ↔ y ∈ xs) ∧ (∀ b o, s.heap.get? b = some o → h'.get? b = some o)) E)
      F.called_set.init.plain F.entry_set_init (check_set_init_1 hT ?_)) fun r2 s2 hr2 => ?_
    · obtain ⟨⟨kc, kd, ka, ks⟩, hol, hcl, nl, hdl⟩ := hl
      simp only at hcl hdl
      subst hcl hdl
      have ol : (s.heap.push (set0 w)).get? l = some { cls := .type "list", dict := kd, data := .seq items nl, slots := ks } := Heap.get?_push_of_some _ hol
      have s1 := F.sub_list_set
      have s2 := F.sub_list_frozenset
      have s3 : (Value.type "list" == Value.type "dict") = false := by decide
      have hl1 : (s.heap.push (set0 w)).IsList l items := ⟨_, ol, rfl, nl, rfl⟩
      unfold Builtin.«set.__init__» noKeywords Builtin.Frozenset.updateFrom
      generalize hPI : pyIter = PI
      wp_walk
      subst hPI
      refine wpAny_pyIter_list hl1 (wpAny_bind (wpAny_runValue ?_))
      have hlt : l < s.heap.objs.size := Heap.lt_size hol
      have hz : (s.heap.push (set0 w)).objs.size = s.heap.objs.size + 1 := Heap.size_push ..
      have hA : A.in1.in1.in1.handled = none := by simp [hh]
      have nI : l ≠ (s.heap.push (set0 w)).objs.size := by rw [hz]; exact Nat.ne_of_lt (Nat.lt_succ_of_lt hlt)
      have nS : s.heap.objs.size ∉ [(s.heap.push (set0 w)).objs.size, l] := by
        rw [hz]
        simp only [List.mem_cons, List.not_mem_nil, or_false, not_or]
        exact ⟨Nat.ne_of_lt (Nat.lt_succ_self _), Nat.ne_of_gt hlt⟩
      refine tset_loop ((Walks.list hA _ l nI items).toS) nS xs hsz hb (fun i v hv => ?_) items.size 0 _ [] (by omega) ⟨⟨_, Heap.get?_push_size _ rfl, rfl, rfl⟩, hl1.push _⟩ (tset_fresh (Heap.get?_push_of_some _ hS)) (Nat.le_refl _) (fun y => by simp) fun s' M hm hM lM mM => ?_
      · have hi : i < xs.length := by rw [hsz]; exact (Array.getElem?_eq_some_iff.mp hv).1
        obtain ⟨tk, e⟩ := SS.strs_at hx i v (by rw [Array.getElem?_toList]; exact hv)
        refine ⟨xs[i], tk, List.getElem?_eq_getElem hi, ?_⟩
        rw [e, List.getD_eq_getElem?_getD, List.getElem?_eq_getElem hi]
        rfl
      · obtain ⟨h', g', d', tk', os'⟩ := s'
        obtain rfl : g' = s.gens := hm.gens
        obtain rfl : d' = s.drawn := hm.drawn
        obtain rfl : os' = s.os := hm.os
        show wpAny _ _ _ _ _ _
        refine wpAny_pure ?_
        show wpAny _ _ (ret Value.none) _ _ _
        refine wpAny_pure ⟨rfl, h', tk', M, rfl, hM, by rw [hsz]; exact lM, mM, fun b o q => ?_⟩
        have hb0 : b < s.heap.objs.size := Heap.lt_size q
        refine hm.heap b o ?_ (Heap.get?_push_of_some _ (Heap.get?_push_of_some _ q))
        rw [hz]
        simp only [List.mem_cons, List.not_mem_nil, or_false, not_or]
        exact ⟨Nat.ne_of_lt hb0, Nat.ne_of_lt (Nat.lt_succ_of_lt hb0)⟩
    · match r2, hr2 with
      | .error e, hr2 => exact hr2
      | .ok (.ret v), ⟨e1, h', tk, M, e2, q1, q2, q3, q4⟩ =>
        subst e1 e2
        repeat (any_goals (first | assumption | wp_step))
        exact h _ _ _ q1 q2 q3 q4
end
/-! ### the rules -/
/-- a set of texts, tracked -/
def SetT (w : World) (a : Addr) (L : List Str) : HO := .ext fun h => TSet w h a L
section
variable {X : Cx} {pins : List (Addr × Obj)} {σ : L2.St} {H : Hp} {s : Shared} {a : Addr} {L : List Str}
theorem setT_new {P : Program} {w : World} {H : Hp} {h : Heap} (R : TSet w h a L) : ObjOk P w H h a (SetT w a L) := by
  have ⟨o, _, _, _, ho, _⟩ := R
  exact ⟨R, ⟨o, ho⟩, fun h1 h2 p k => TSet.keep p k⟩
/-- set(xs), xs a list of texts -/
def rSetT (K : PySem.W.Frag) (w : World) : List V → Hp → VK → Prop := fun vs H Q => ∃ (l : Addr) (ys : List Str), vs = [.ref l] ∧ SqL K H l (ys.map V.str) ∧ ys.length ≤ 1000 ∧
  ∀ p M, H p = none → M.Nodup → M.length ≤ ys.length → (∀ y, y ∈ M ↔ y ∈ ys) → Q (.ref p) (upd H p (SetT w p M))
theorem cr_setT (hc : X.calm = true) : CallR X (.type "set") (rSetT X.K X.w) := by
  intro pins s σ H vs us Q I r h
  obtain ⟨l, ys, rfl, hl, hn, q⟩ := h
  rw [Vals.ref1 r]
  obtain ⟨its, rv, pl, hz⟩ := I.list hl
  refine call_setT ys (I.ok.hd hc) pl.isList (by simpa using rv.strs) (by unfold scanBound; omega) fun h' tk M hM lM mM k => ?_
  have nd : M.Nodup := by
    obtain ⟨_, _, _, _, _, _, ⟨_, _, nd⟩, _⟩ := hM
    exact nd
  exact ⟨.ref s.heap.objs.size, upd H s.heap.objs.size (SetT X.w s.heap.objs.size M), I.laid (t' := tk) k (Nat.le_refl _) (setT_new hM), rfl, q _ M (I.hok.fresh (Nat.le_refl _)) nd lM mM⟩
/-- len(set) -/
def rLenT (w : World) : List V → Hp → VK → Prop := fun vs H Q => ∃ (a : Addr) (M : List Str), vs = [.ref a] ∧ H a = some (SetT w a M) ∧ Q (.int M.length) H
theorem cr_lenT : CallR X (.builtin "len") (rLenT X.w) := by
  intro pins s σ H vs us Q I r h
  obtain ⟨a, M, rfl, ha, q⟩ := h
  rw [Vals.ref1 r]
  obtain ⟨o, es, ep, t, ho, ⟨hx, hd⟩, ⟨ge, pm, nd⟩, ⟨hb, hf, hr⟩, hl⟩ := (show TSet X.w s.heap a M from (I.hok a _ ha).1)
  have hz : es.size = M.length := by
    have := pm.length_eq
    rw [List.length_map, Array.length_toList] at this
    exact this
  refine call_len_set ho hx hd hf (by unfold scanBound at hb; omega) ⟨.int M.length, H, I.tok _, ⟨s.toks + 1, ?_⟩, q⟩
  rw [hz]
/-- sorted(set), fewer than 64 -/
def rSortT (w : World) : List V → Hp → VK → Prop := fun vs H Q => ∃ (a : Addr) (M : List Str), vs = [.ref a] ∧ H a = some (SetT w a M) ∧ M.length < 64 ∧ ∀ ys p, ys.Perm M → sortedS ys = true → H p = none → Q (.ref p) (upd H p (.lst (ys.map V.str)))
theorem strs_txt {w : World} : ∀ {l : List (Int × Value)}, (∀ e ∈ l, EntT w e) → StrsAre (l.map (·.2)) (l.map txt)
  | [], _ => .nil
  | e :: l, g => by
    obtain ⟨tk, h1, _⟩ := g e (by simp)
    rw [List.map_cons, List.map_cons, h1]
    exact .cons _ tk (strs_txt fun x hx => g x (List.mem_cons_of_mem _ hx))
theorem strs_perm {vs us : List Value} {ks : List Str} (p : vs.Perm us) (h : StrsAre us ks) : ∃ ks', StrsAre vs ks' ∧ ks'.Perm ks := by
  induction p generalizing ks with
  | nil => exact ⟨ks, h, List.Perm.refl _⟩
  | cons x p ih =>
    cases h with
    | cons k t h =>
      obtain ⟨ks', h1, h2⟩ := ih h
      exact ⟨k :: ks', .cons k t h1, h2.cons k⟩
  | swap x y l =>
    cases h with
    | cons k t h =>
      cases h with
      | cons k2 t2 h => exact ⟨k2 :: k :: _, .cons k2 t2 (.cons k t h), List.Perm.swap _ _ _⟩
  | trans p1 p2 ih1 ih2 =>
    obtain ⟨k2, h2, q2⟩ := ih2 h
    obtain ⟨k1, h1, q1⟩ := ih1 h2
    exact ⟨k1, h1, q1.trans q2⟩
theorem cr_sortT (hc : X.calm = true) : CallR X (.builtin "sorted") (rSortT X.w) := by
  intro pins s σ H vs us Q I r h
  obtain ⟨a, M, rfl, ha, h64, q⟩ := h
  rw [Vals.ref1 r]
  obtain ⟨o, es, ep, t, ho, ⟨hx, hd⟩, ⟨ge, pm, nd⟩, ⟨hb, hf, hr⟩, hl⟩ := (show TSet X.w s.heap a M from (I.hok a _ ha).1)
  refine Calls.call_function_entry kind_sorted plain_sorted entry_sorted (args_sorted1 _) ?_
  unfold Builtin.«sorted»
  refine wpAny_bind (m := checkCount "sorted" 1 1 _) (wpAny_pure ?_)
  refine wpAny_bind (collect_set (A := X.A.in1) (I.ok.hd hc) ⟨o, ho, hx.1, hd⟩ hf hb hr hl fun s1 out k1 hz g1 o1 po => ?_)
  obtain ⟨ks, hS, pk⟩ := strs_perm po (strs_txt ge)
  have hlen : out.length = M.length := by
    have e1 := po.length_eq
    have e2 := pm.length_eq
    rw [List.length_map] at e1 e2
    rw [e1, e2]
  refine wpAny_bind (wpAny_newList ?_ (by rw [hlen, sizeLine_eq]; omega))
  have oL : (s1.heap.push (seqObj "list" out.toArray 0)).get? s1.heap.objs.size = some (seqObj "list" out.toArray 0) := Heap.get?_push_size _ rfl
  refine wpAny_bind (wpAny_holding (wpAny_call_entry slot_list_sort ⟨_, oL, rfl⟩ entry_list_sort
    (list_sort_treeK strKind_oneLt oL hS.keysOf (fun v₁ v₂ rest e => keyKind_strs (by rw [← e]; exact hS)) (by rw [hlen]; exact h64) fun st' hp hs => ⟨_, rfl, ?_⟩) (args_list_sort _)))
  obtain ⟨ys, y1, y2, y3⟩ := sorted_out_str hS hp hs
  obtain ⟨c, hc'⟩ := sortedHeap_at (vs := out) (out := (arrOf st').map (·.2)) oL
  have pM : ys.Perm M := y2.trans (pk.trans pm)
  have hp0 : H s1.heap.objs.size = none := I.hok.fresh hz
  have kk : ∀ b u, s.heap.get? b = some u → (sortedHeap (s1.heap.push (seqObj "list" out.toArray 0)) s1.heap.objs.size out ((arrOf st').map (·.2))).get? b = some u := fun b u e => by
    have e1 := k1 b u e
    have lt := Heap.lt_size e1
    rw [sortedHeap_old (Nat.ne_of_lt lt) (by rw [size_push']; exact Nat.lt_succ_of_lt lt)]
    exact Heap.get?_push_of_some _ e1
  have hys : (ys.map V.str).length ≤ sizeLine := by
    rw [List.length_map, pM.length_eq, sizeLine_eq]
    omega
  refine wpAny_pure ⟨_, rfl, ?_⟩
  generalize hh' : sortedHeap (s1.heap.push (seqObj "list" out.toArray 0)) s1.heap.objs.size out ((arrOf st').map (·.2)) = h' at hc' kk ⊢
  have J : Inv X pins σ (upd H s1.heap.objs.size (.lst (ys.map V.str))) { s with heap := h', gens := s1.gens, drawn := s1.drawn, toks := s1.toks } :=
    I.call (ch := []) (Un.laid kk hz hp0) (I.hok.laid kk hz ⟨hys, ((arrOf st').map (·.2)).toList, c, vals_of_strs y1, by rw [Array.toArray_toList]; exact hc'⟩) (by rw [g1]; exact I.bare) (fun _ z => nomatch z)
  refine ⟨.ref s1.heap.objs.size, _, ?_, rfl, q ys _ pM y3 hp0⟩
  have e : ({ s1 with heap := h' } : Shared) = { s with heap := h', gens := s1.gens, drawn := s1.drawn, toks := s1.toks } := by
    obtain ⟨_, _, _, _, os1⟩ := s1
    obtain ⟨_, _, _, _, os0⟩ := s
    cases o1
    rfl
  rw [e]
  exact J
end
end Ls
end
section
set_option Elab.async false
set_option linter.all false
set_option maxRecDepth 100000
set_option maxHeartbeats 4000000
namespace K02
open PySem PySem.Spec PyProof.Rows L2 Ls
open C8 (pss_cut tCut)
open TL
def top (i : Nat) : Stmt := PySem.Challenge.pw_loopstow_k02_deeds_refused.main.body.getD i (.Pass ⟨0, 0, 0, 0⟩)
def bns : List Str := ["len", "int", "abs", "list", "str", "isinstance", "all", "range", "tuple", "super", "repr", "set", "ValueError"]
def lettersS : Str := "abcdefghijklmnopqrstuvwxyz"
/-- what the top has left, for the defs -/
structure Tx (K : PySem.W.Frag) (mg : Str → Option Value) (CE CN CB CW CY CD CU CM CO : Addr) (tL tN tU : Tok) : Prop where
  bn : ∀ x ∈ bns, mg x = none
  m_LETTERS : mg "LETTERS" = some (.str lettersS tL)
  m_LONGEST_NAME : mg "LONGEST_NAME" = some (.int 6 tN)
  m_MOST_USED : mg "MOST_USED" = some (.int 3 tU)
  m_StowError : mg "StowError" = some (.ref CE)
  m_BadName : mg "BadName" = some (.ref CN)
  m_BadDeed : mg "BadDeed" = some (.ref CB)
  m_Twice : mg "Twice" = some (.ref CW)
  m_TooMany : mg "TooMany" = some (.ref CY)
  m_Deed : mg "Deed" = some (.ref CD)
  m_Use : mg "Use" = some (.ref CU)
  m_Make : mg "Make" = some (.ref CM)
  m_Do : mg "Do" = some (.ref CO)
/-! ### the pen -/
/-- a pen stands at p, its cells at c; at most n cells were read -/
def PenAt (H : Hp) (p c : Addr) (n : Nat) : Prop := ∃ (ns : List Int) (a r : Int), H p = some (.lst [.ref c, .int a, .int r]) ∧ H c = some (.lst (ns.map V.int)) ∧ p ≠ c ∧ 0 ≤ a ∧ a ≤ n ∧ 0 ≤ r ∧ ns.length ≤ 63
theorem PenAt.mono {H : Hp} {p c : Addr} {n m : Nat} (h : PenAt H p c n) (l : n ≤ m) : PenAt H p c m := let ⟨ns, a, r, h1, h2, h3, h4, h5, h6, h7⟩ := h; ⟨ns, a, r, h1, h2, h3, h4, by omega, h6, h7⟩
theorem PenAt.upd {H : Hp} {p c a : Addr} {n : Nat} {o : HO} (h : PenAt H p c n) (np : p ≠ a) (nc : c ≠ a) : PenAt (upd H a o) p c n := by
  obtain ⟨ns, b, r, h1, h2, h3⟩ := h
  exact ⟨ns, b, r, by rw [upd_ne np]; exact h1, by rw [upd_ne nc]; exact h2, h3⟩
theorem PenAt.ext {H H' : Hp} {p c : Addr} {n : Nat} (h : PenAt H p c n) (e : Ext H H') : PenAt H' p c n := by
  obtain ⟨ns, b, r, h1, h2, h3⟩ := h
  exact ⟨ns, b, r, e _ _ h1, e _ _ h2, h3⟩
theorem PenAt.ne {H : Hp} {p c a : Addr} {n : Nat} (h : PenAt H p c n) (ha : H a = none) : p ≠ a ∧ c ≠ a := by
  obtain ⟨ns, b, r, h1, h2, _⟩ := h
  exact ⟨ne_of_none h1 ha, ne_of_none h2 ha⟩
theorem PenAt.tabs {H H' : Hp} {p c : Addr} {n : Nat} {TT : List (Addr × Str)} (h : PenAt H p c n) (t : LamX.Tabs TT H) (k : Keep p c H H') : LamX.Tabs TT H' := by
  obtain ⟨ns, b, r, h1, h2, _⟩ := h
  exact tabs_keep t k h1 h2
theorem PenAt.extN {H H' : Hp} {p c : Addr} {n : Nat} (h : PenAt H p c n) (e : LamX.ExtN H H') : PenAt H' p c n := by
  obtain ⟨ns, b, r, h1, h2, h3⟩ := h
  exact ⟨ns, b, r, e _ _ h1 (fun ps z => nomatch z), e _ _ h2 (fun ps z => nomatch z), h3⟩
def spDraw : Sp := fun vs H Q _ => ∃ (p c : Addr) (n : Nat) (many : Int), vs = [.ref p, .int many] ∧ PenAt H p c n ∧ n < 1048576 ∧ 0 < many ∧ many < 1073741824 ∧
  ∀ (j : Int) (H' : Hp), 0 ≤ j → j < many → PenAt H' p c (n + 1) → Keep p c H H' → Q (.int j) H'
section
variable {P : Program} {w : World} {K : PySem.W.Frag} {mg : Str → Option Value} {base : Heap} {CE CN CB CW CY CD CU CM CO : Addr} {tL tN tU : Tok}
abbrev s__law_draw : Stmt := top 23
abbrev N__law_draw : List Str := ["_law_pen_here", "_law_many", "_law_digit", "_law_at", "_law_cell", "_law_great", "_law_mixed"]
theorem sc__law_draw : FnScope N__law_draw ["_law_pen_here", "_law_many"] (defScope s__law_draw) := ⟨rfl, rfl, rfl, by decide +kernel, rfl, by decide +kernel, by decide +kernel⟩
theorem pow18 : ((10 : Int) ^ (18 : Int).toNat) = 1000000000000000000 := by decide +kernel
theorem ok_draw {f : Addr} {fd : FuncData} (F : Fun K "_law_draw" "_law_draw" s__law_draw f fd) (T : Tx K mg CE CN CB CW CY CD CU CM CO tL tN tU) : FnOk P w K mg base CX0 1 f fd ["_law_pen_here", "_law_many"] spDraw := by
  refine F.ok sc__law_draw (fun vs H Q E h => ?_) (fun cdv A outer s H vs Q E hr h => ?_)
  · obtain ⟨p, c, n, many, rfl, _⟩ := h
    rfl
  · obtain ⟨p, c, n, many, rfl, ⟨ns, a, r, hp, hc, npc, a0, an, r0, hz⟩, n1, m0, m1, k⟩ := h
    have hu := hu_of hr
    refine ⟨_, (pss_cons (ps_if (pt_cmpR op_gt (pe_ix ix_list (pv 0) pe_int (fun _ _ => rfl)) pe_int (nomark _)) (pss_cons (ps_set (i := 2) sc__law_draw.nd rfl (by first | exact Or.inl rfl | exact Or.inr rfl) (pe_op op_mod (pe_callTy call_int1 (by rfl) (T.bn _ (by decide +kernel)) (by decide +kernel) (pa_cons (pe_ix ix_list (pv 0) pe_int (fun _ _ => rfl)) pa_nil)) (pv 1)))
      (pss_cons (ps_asg (pe_op op_fdiv (pe_callTy call_int1 (by rfl) (T.bn _ (by decide +kernel)) (by decide +kernel) (pa_cons (pe_ix ix_list (pv 0) pe_int (fun _ _ => rfl)) pa_nil)) (pv 1)) (pg_sub (pv 0) pe_int set_list))
      (pss_one (ps_ret (pv 2))))) pss_nil)
      (pss_cons (ps_set (i := 3) sc__law_draw.nd rfl (by first | exact Or.inl rfl | exact Or.inr rfl) (pe_ix ix_list (pv 0) pe_int (fun _ _ => rfl)))
      (pss_cons (ps_asg (pe_op op_add (pv 3) pe_int) (pg_sub (pv 0) pe_int set_list))
      (pss_cons (ps_set (i := 4) sc__law_draw.nd rfl (by first | exact Or.inl rfl | exact Or.inr rfl) (pe_op op_add (pe_op op_mul pe_int (pv 3)) pe_int))
      (pss_cut (ps_if (pt_cmpR (op_neNil hr) (pe_ix ix_list (pv 0) pe_int (fun _ _ => rfl)) (pe_lst pa_nil) (nomark _)) (pss_one (ps_set (i := 4) sc__law_draw.nd rfl (by first | exact Or.inl rfl | exact Or.inr rfl) (pe_ix ix_list (pe_ix ix_list (pv 0) pe_int (fun _ _ => rfl)) (pe_op op_mod (pe_callTy call_int1 (by rfl) (T.bn _ (by decide +kernel)) (by decide +kernel) (pa_cons (pv 3) pa_nil)) (pe_callB call_len_seq (by rfl) (T.bn _ (by decide +kernel)) (by decide +kernel) (pa_cons (pe_ix ix_list (pv 0) pe_int (fun _ _ => rfl)) pa_nil))) (fun _ _ => rfl)))) pss_nil)
      (pss_cut (ps_if ((pw_and (pt_cmpR op_lt (pv 3) (pe_callB call_len_seq (by rfl) (T.bn _ (by decide +kernel)) (by decide +kernel) (pa_cons (pe_ix ix_list (pv 0) pe_int (fun _ _ => rfl)) pa_nil)) (nomark _)) (pw_and1 (pt_cmpR op_ge (pe_callB call_abs (by rfl) (T.bn _ (by decide +kernel)) (by decide +kernel) (pa_cons (pv 4) pa_nil)) (pe_op op_pow pe_int pe_int) (nomark _))))).pt (pss_cons (ps_set (i := 5) sc__law_draw.nd rfl (by first | exact Or.inl rfl | exact Or.inr rfl) (pe_op op_add (pe_op op_mul pe_int (pe_op op_sub (pe_callB call_abs (by rfl) (T.bn _ (by decide +kernel)) (by decide +kernel) (pa_cons (pv 4) pa_nil)) (pe_op op_pow pe_int pe_int))) (pe_callTy call_int1 (by rfl) (T.bn _ (by decide +kernel)) (by decide +kernel) (pa_cons (pe_cmpR op_lt (pv 4) pe_int (nomark _)) pa_nil))))
      (pss_cons (ps_asg (pe_op op_fdiv (pe_callTy call_int1 (by rfl) (T.bn _ (by decide +kernel)) (by decide +kernel) (pa_cons (pv 5) pa_nil)) (pv 1)) (pg_sub (pv 0) pe_int set_list))
      (pss_one (ps_ret (pe_op op_mod (pe_callTy call_int1 (by rfl) (T.bn _ (by decide +kernel)) (by decide +kernel) (pa_cons (pv 5) pa_nil)) (pv 1)))))) pss_nil)
      (pss_cons (ps_set (i := 6) sc__law_draw.nd rfl (by first | exact Or.inl rfl | exact Or.inr rfl) (pe_op op_mod (pe_callTy call_int1 (by rfl) (T.bn _ (by decide +kernel)) (by decide +kernel) (pa_cons (pe_op op_pow (pe_op op_add (pe_op op_add (pe_op op_mod (pe_callTy call_int1 (by rfl) (T.bn _ (by decide +kernel)) (by decide +kernel) (pa_cons (pv 4) pa_nil)) pe_int) (pe_op op_mul pe_int (pv 3))) pe_int) pe_int) pa_nil)) pe_int))
      (pss_cons (ps_set (i := 6) sc__law_draw.nd rfl (by first | exact Or.inl rfl | exact Or.inr rfl) (pe_op op_mod (pe_callTy call_int1 (by rfl) (T.bn _ (by decide +kernel)) (by decide +kernel) (pa_cons (pe_op op_pow (pe_op op_add (pe_op op_add (pe_op op_mul (pv 6) (pe_op op_add (pe_op op_mul pe_int (pv 3)) pe_int)) (pe_op op_mul (pe_op op_mul pe_int (pv 3)) (pv 3))) pe_int) pe_int) pa_nil)) pe_int))
      (pss_one (ps_ret (pe_op op_mod (pe_callTy call_int1 (by rfl) (T.bn _ (by decide +kernel)) (by decide +kernel) (pa_cons (pe_op op_fdiv (pv 6) pe_int) pa_nil)) (pv 1)))))))))))), ?_⟩
    refine ⟨_, rfl, p, _, 2, .int r, rfl, rfl, SqL.of hp, atI_nat (j := 2) rfl, r, 0, rfl, rfl, _, rfl, ?_⟩
    refine ite2 (fun hpos => ?_) (fun hno => ?_)
    · have hpos' : 0 < r := by simpa using hpos
      refine ⟨_, rfl, p, _, 2, .int r, rfl, rfl, SqL.of hp, atI_nat (j := 2) rfl, .inl ⟨r, rfl, _, rfl, _, _, rfl, rfl, m0, ?_⟩⟩
      refine ⟨_, rfl, p, _, 2, .int r, rfl, rfl, SqL.of hp, atI_nat (j := 2) rfl, .inl ⟨r, rfl, _, rfl, _, _, rfl, rfl, ⟨m0, m1⟩, ?_⟩⟩
      refine ⟨_, rfl, p, _, 2, 2, rfl, rfl, hp, rfl, ?_⟩
      refine ⟨_, rfl, k _ _ (Int.emod_nonneg _ (by omega)) (Int.emod_lt_of_pos _ m0) ⟨ns, a, r / many, upd_same, by rw [upd_ne npc.symm]; exact hc, npc, a0, by omega, Int.ediv_nonneg (by omega) (by omega), hz⟩ Keep.upd1⟩
    · refine ⟨_, rfl, p, _, 1, .int a, rfl, rfl, SqL.of hp, atI_nat (j := 1) rfl, ?_⟩
      refine ⟨_, rfl, _, _, rfl, rfl, ?_⟩
      refine ⟨_, rfl, p, _, 1, 1, rfl, rfl, hp, rfl, ?_⟩
      have hp1 : (upd H p (.lst [.ref c, .int (a + 1), .int r])) p = some (.lst [.ref c, .int (a + 1), .int r]) := upd_same
      have hc1 : (upd H p (.lst [.ref c, .int (a + 1), .int r])) c = some (.lst (ns.map V.int)) := by rw [upd_ne npc.symm]; exact hc
      have kp1 : Keep p c H (upd H p (.lst [.ref c, .int (a + 1), .int r])) := Keep.upd1
      refine ⟨_, rfl, _, _, rfl, rfl, .inl ⟨by decide, by decide⟩, _, _, rfl, rfl, ?_⟩
      -- behind the if: the cell is a number
      refine ⟨fun σ' H' => ∃ z : Int, σ' = [some (.ref p), some (.int many), none, some (.int a), some (.int z), none, none] ∧ H' p = some (.lst [.ref c, .int (a + 1), .int r]) ∧ H' c = some (.lst (ns.map V.int)) ∧ Keep p c H H', ?_, ?_⟩
      · refine ⟨_, rfl, p, _, 0, .ref c, rfl, rfl, SqL.of hp1, atI_nat (j := 0) rfl, (by show 0 ≤ sizeLine; decide), fun l hl => ?_⟩
        have npl : p ≠ l := ne_of_none hp1 hl
        have ncl : c ≠ l := ne_of_none hc1 hl
        refine ⟨c, l, _, rfl, rfl, by rw [upd_ne ncl]; exact hc1, upd_same, _, rfl, ?_⟩
        have hp2 : (upd (upd H p (.lst [.ref c, .int (a + 1), .int r])) l (.lst [])) p = some (.lst [.ref c, .int (a + 1), .int r]) := by rw [upd_ne npl]; exact hp1
        have hc2 : (upd (upd H p (.lst [.ref c, .int (a + 1), .int r])) l (.lst [])) c = some (.lst (ns.map V.int)) := by rw [upd_ne ncl]; exact hc1
        have kp2 : Keep p c H (upd (upd H p (.lst [.ref c, .int (a + 1), .int r])) l (.lst [])) := kp1.trans (Keep.new hl)
        cases ns with
        | nil =>
          refine iteF ?_
          exact ⟨_, rfl, hp2, hc2, kp2⟩
        | cons n0 ns =>
          refine iteT ?_
          have hlen : (0 : Int) < (((n0 :: ns).map V.int).length : Nat) := by simp
          have j0 := Int.emod_nonneg a (Int.ne_of_gt hlen)
          have j1 := Int.emod_lt_of_pos a hlen
          refine ⟨_, rfl, p, _, 0, .ref c, rfl, rfl, SqL.of hp2, atI_nat (j := 0) rfl, _, rfl, .inl ⟨a, rfl, _, rfl, p, _, 0, .ref c, rfl, rfl, SqL.of hp2, atI_nat (j := 0) rfl, c, _, rfl, .inl (SqL.of hc2), _, _, rfl, rfl, hlen, ?_⟩⟩
          have hj : (a % (((n0 :: ns).map V.int).length : Nat)).toNat < ((n0 :: ns).map V.int).length := by omega
          refine ⟨c, _, _, ((n0 :: ns).map V.int)[(a % (((n0 :: ns).map V.int).length : Nat)).toNat], rfl, rfl, SqL.of hc2, atI_at (j := (a % (((n0 :: ns).map V.int).length : Nat)).toNat) (by omega) (List.getElem?_eq_getElem hj), ?_⟩
          rw [List.getElem_map]
          exact ⟨_, rfl, hp2, hc2, kp2⟩
      · rintro σ' H1 ⟨z, rfl, hp1, hc1, kp1⟩
        have ab : (0 : Int) ≤ (if z < 0 then -z else z) := by split <;> omega
        have last : ∀ j : Int, 0 ≤ j → j < many → Q (.int j) H1 := fun j j0 j1 => k j H1 j0 j1 ⟨ns, a + 1, r, hp1, hc1, npc, by omega, by omega, r0, hz⟩ kp1
        refine ⟨fun σ' H' => σ' = [some (.ref p), some (.int many), none, some (.int a), some (.int z), none, none] ∧ H' = H1, ?_, ?_⟩
        · refine ⟨_, rfl, _, rfl, p, _, 0, .ref c, rfl, rfl, SqL.of hp1, atI_nat (j := 0) rfl, c, _, rfl, .inl (SqL.of hc1), _, _, rfl, rfl, _, rfl, ?_⟩
          refine ite2 (fun h1 => ?_) (fun h1 => ?_)
          · refine ⟨_, rfl, z, rfl, _, _, rfl, rfl, ⟨by decide, by decide, by decide⟩, _, _, rfl, rfl, _, rfl, ?_⟩
            refine ite2 (fun h2 => ?_) (fun h2 => ?_)
            · refine ⟨_, rfl, z, rfl, _, _, rfl, rfl, ⟨by decide, by decide, by decide⟩, _, _, rfl, rfl, _, _, rfl, rfl, .inl ⟨by decide, by decide⟩, ?_⟩
              refine ⟨_, rfl, _, _, rfl, rfl, .inr ⟨_, rfl, _, _, rfl, rfl, ?_⟩⟩
              refine ⟨_, rfl, .inl ⟨_, rfl, _, rfl, _, _, rfl, rfl, ⟨m0, m1⟩, ?_⟩⟩
              refine ⟨_, rfl, p, _, 2, 2, rfl, rfl, hp1, rfl, ?_⟩
              refine ⟨_, rfl, .inl ⟨_, rfl, _, rfl, _, _, rfl, rfl, m0, ?_⟩⟩
              refine k _ _ (Int.emod_nonneg _ (by omega)) (Int.emod_lt_of_pos _ m0) ⟨ns, a + 1, _, upd_same, by rw [upd_ne npc.symm]; exact hc1, npc, by omega, by omega, ?_, hz⟩ (kp1.trans Keep.upd1)
              refine Int.ediv_nonneg ?_ (by omega)
              have : (0 : Int) ≤ (if decide (z < 0) = true then 1 else 0) := by split <;> decide
              have h3 : ((10 : Int) ^ (18 : Int).toNat) ≤ (if z < 0 then -z else z) := by simpa using h2
              omega
            · exact ⟨rfl, rfl⟩
          · exact ⟨rfl, rfl⟩
        · rintro σ' H' ⟨rfl, rfl⟩
          have z0 := Int.emod_nonneg z (show (2147483563 : Int) ≠ 0 by decide)
          have z1 := Int.emod_lt_of_pos z (show (0 : Int) < 2147483563 by decide)
          refine ⟨_, rfl, .inl ⟨z, rfl, _, _, rfl, rfl, (by show (0 : Int) < 2147483563; decide), ?_⟩⟩
          refine ⟨_, rfl, _, _, rfl, rfl, .inl ⟨by decide, by decide⟩, _, _, rfl, rfl, _, _, rfl, rfl, _, _, rfl, rfl, ⟨by decide, by decide, ?_⟩, .inl ⟨_, rfl, _, _, rfl, rfl, (by show (0 : Int) < 2147483587; decide), ?_⟩⟩
          · show (z % 2147483563 + 50053 * a + 73).natAbs < 2 ^ 64
            have : (2 : Nat) ^ 64 = 18446744073709551616 := by decide
            omega
          obtain ⟨m, hm⟩ : ∃ m, (z % 2147483563 + 50053 * a + 73) ^ (3 : Int).toNat % 2147483587 = m := ⟨_, rfl⟩
          have q0 : 0 ≤ m := by rw [← hm]; exact Int.emod_nonneg _ (by decide)
          have q1 : m < 2147483587 := by rw [← hm]; exact Int.emod_lt_of_pos _ (by decide)
          have a1 : a ≤ 1048576 := by omega
          have e1 : m * (2 * a + 79) ≤ 2147483587 * 2097231 := Int.mul_le_mul (by omega) (by omega) (by omega) (by decide)
          have e2 : 0 ≤ m * (2 * a + 79) := Int.mul_nonneg q0 (by omega)
          have e3 : 61099 * a * a ≤ 61099 * 1048576 * 1048576 := Int.mul_le_mul (by omega) a1 a0 (by decide)
          have e4 : 0 ≤ 61099 * a * a := Int.mul_nonneg (by omega) a0
          refine ⟨_, rfl, _, rfl, _, _, rfl, rfl, .inl ⟨by decide, by decide⟩, _, _, rfl, rfl, _, _, rfl, rfl, .inl ⟨by omega, by omega⟩, ?_⟩
          refine ⟨_, rfl, _, _, rfl, rfl, .inl ⟨by decide, by decide⟩, _, rfl, _, _, rfl, rfl, .inr ⟨by omega, by omega⟩, _, _, rfl, rfl, _, _, rfl, rfl, _, _, rfl, rfl, ⟨by decide, by decide, ?_⟩, .inl ⟨_, rfl, _, _, rfl, rfl, (by show (0 : Int) < 2147483629; decide), ?_⟩⟩
          · show ((z % 2147483563 + 50053 * a + 73) ^ (3 : Int).toNat % 2147483587 * (2 * a + 79) + 61099 * a * a + 23).natAbs < 2 ^ 64
            rw [hm]
            have : (2 : Nat) ^ 64 = 18446744073709551616 := by decide
            generalize m * (2 * a + 79) = u at e1 e2
            generalize 61099 * a * a = v at e3 e4
            omega
          refine ⟨_, rfl, _, _, rfl, rfl, ⟨by decide, by decide⟩, .inl ⟨_, rfl, _, rfl, _, _, rfl, rfl, m0, ?_⟩⟩
          exact last _ (Int.emod_nonneg _ (by omega)) (Int.emod_lt_of_pos _ m0)
/-! ### the pen made; a pick -/
def spPen (K : PySem.W.Frag) : Sp := fun vs H Q _ => ∃ (a : Addr) (ns : List Int), vs = [.ref a] ∧ SqL K H a (ns.map V.int) ∧ ns.length ≤ 1000 ∧ ∀ p c H', PenAt H' p c 0 → Ext H H' → H p = none → H c = none → Q (.ref p) H'
abbrev s__law_pen : Stmt := top 22
abbrev N__law_pen : List Str := ["_law_script"]
theorem sc__law_pen : FnScope N__law_pen ["_law_script"] (defScope s__law_pen) := ⟨rfl, rfl, rfl, by decide +kernel, rfl, by decide +kernel, by decide +kernel⟩
theorem ok_pen {f : Addr} {fd : FuncData} (F : Fun K "_law_pen" "_law_pen" s__law_pen f fd) (T : Tx K mg CE CN CB CW CY CD CU CM CO tL tN tU) : FnOk P w K mg base CX0 1 f fd ["_law_script"] (spPen K) := by
  refine F.ok sc__law_pen (fun vs H Q E h => ?_) (fun cdv A outer s H vs Q E hr h => ?_)
  · obtain ⟨a, ns, rfl, _⟩ := h
    rfl
  · obtain ⟨a, ns, rfl, ha, hn, k⟩ := h
    refine ⟨_, (pss_one (ps_ret (pe_lst (pa_cons (pe_callTy call_list_of (by rfl) (T.bn _ (by decide +kernel)) (by decide +kernel) (pa_cons (pe_slice sl_list (pv 0) po_none (po_some pe_int)) pa_nil)) (pa_cons pe_int (pa_cons pe_int pa_nil)))))), ?_⟩
    refine ⟨_, rfl, 63, rfl, a, _, rfl, ha, fun q hq => ?_⟩
    refine ⟨q, _, rfl, .inl (SqL.of upd_same), fun c hc => ?_⟩
    have nqc : q ≠ c := ne_of_none upd_same hc
    refine ⟨(by show 3 ≤ sizeLine; decide), fun p hp => ?_⟩
    have npc : p ≠ c := (ne_of_none upd_same hp).symm
    have e1 := Ext.upd (o := HO.lst (((ns.map V.int).drop (HT.sIx (ns.map V.int).length 0 none)).take (HT.sIx (ns.map V.int).length (ns.map V.int).length (some 63) - HT.sIx (ns.map V.int).length 0 none))) hq
    refine k p c _ ⟨(ns.drop (HT.sIx (ns.map V.int).length 0 none)).take (HT.sIx (ns.map V.int).length (ns.map V.int).length (some 63) - HT.sIx (ns.map V.int).length 0 none), 0, 0, upd_same, ?_, npc, by decide, by decide, by decide, ?_⟩ ((e1.trans (Ext.upd hc)).trans (Ext.upd hp)) ?_ ?_
    · rw [upd_ne npc.symm, upd_same, List.map_take, List.map_drop]
      rfl
    · have : HT.sIx (ns.map V.int).length (ns.map V.int).length (some 63) ≤ 63 := by
        unfold HT.sIx
        simp
        omega
      rw [List.length_take]
      omega
    · exact ext_free (e1.trans (Ext.upd hc)) hp
    · exact ext_free e1 hc
def spPick (K : PySem.W.Frag) : Sp := fun vs H Q _ => ∃ (p c : Addr) (n : Nat) (v : V), vs = [.ref p, v] ∧ PenAt H p c n ∧ n < 1048576 ∧
  ((∃ (l : Addr) (xs : List V), v = .ref l ∧ l ≠ p ∧ l ≠ c ∧ H l = some (.lst xs) ∧ 0 < xs.length ∧ xs.length ≤ 1000 ∧ ∀ x H', x ∈ xs → PenAt H' p c (n + 1) → Keep p c H H' → Q x H') ∨
    ∃ z : Str, v = .str z ∧ 0 < z.length ∧ z.length ≤ 1000 ∧ ∀ c' H', c' ∈ tl z → PenAt H' p c (n + 1) → Keep p c H H' → Q (.str ⟨#[c']⟩) H')
abbrev s__law_pick : Stmt := top 24
abbrev N__law_pick : List Str := ["_law_pen_here", "_law_some"]
theorem sc__law_pick : FnScope N__law_pick ["_law_pen_here", "_law_some"] (defScope s__law_pick) := ⟨rfl, rfl, rfl, by decide +kernel, rfl, by decide +kernel, by decide +kernel⟩
theorem ok_pick {f : Addr} {fd : FuncData} (F : Fun K "_law_pick" "_law_pick" s__law_pick f fd) (T : Tx K mg CE CN CB CW CY CD CU CM CO tL tN tU) (c__law_draw : Cal P w K mg base CX0 1 "_law_draw" spDraw) : FnOk P w K mg base CX0 2 f fd ["_law_pen_here", "_law_some"] (spPick K) := by
  refine F.ok sc__law_pick (fun vs H Q E h => ?_) (fun cdv A outer s H vs Q E hr h => ?_)
  · obtain ⟨p, c, n, v, rfl, _⟩ := h
    rfl
  · obtain ⟨p, c, n, v, rfl, hp, hn, h⟩ := h
    refine ⟨_, (pss_one (ps_ret (pe_ix ix_seq (pv 1) (pe_cal c__law_draw (hr.mono (by decide)) (by rfl) pass0 (pa_cons (pv 0) (pa_cons (pe_callB (CallR.or call_len_seq call_len_str) (by rfl) (T.bn _ (by decide +kernel)) (by decide +kernel) (pa_cons (pv 1) pa_nil)) pa_nil))) (fun _ _ => rfl)))), ?_⟩
    rcases h with ⟨l, xs, rfl, n1, n2, hl, h0, h1, k⟩ | ⟨z, rfl, h0, h1, k⟩
    · refine ⟨_, rfl, _, rfl, _, rfl, .inl ⟨l, _, rfl, .inl (SqL.of hl), p, c, n, _, rfl, hp, hn, by omega, by omega, fun j H1 j0 j1 hp1 kp => ?_⟩⟩
      have hl1 := kp l _ hl n1 n2
      have hj : j.toNat < xs.length := by omega
      exact .inl ⟨l, xs, j, xs[j.toNat], rfl, rfl, SqL.of hl1, atI_at (j := j.toNat) (by omega) (List.getElem?_eq_getElem hj), k _ H1 (List.getElem_mem hj) hp1 kp⟩
    · refine ⟨_, rfl, _, rfl, _, rfl, .inr ⟨z, rfl, Nat.le_of_lt (small1000 h1), p, c, n, _, rfl, hp, hn, by omega, by omega, fun j H1 j0 j1 hp1 kp => ?_⟩⟩
      have hj : j.toNat < z.cps.toList.length := by
        have : z.cps.toList.length = z.length := by simp; rfl
        omega
      exact .inr (.inr ⟨z, j, z.cps.toList[j.toNat], rfl, rfl, Nat.le_of_lt (small1000 h1), atI_at (j := j.toNat) (by omega) (List.getElem?_eq_getElem hj), k _ H1 (List.getElem_mem hj) hp1 kp⟩)
end
end K02
end
section
set_option Elab.async false
set_option autoImplicit false
set_option linter.all false
set_option maxRecDepth 100000
set_option maxHeartbeats 4000000
namespace K02
open PySem PySem.Spec PyProof.Rows L2 Ls
open C8 (pss_cut tCut)
open TL
/-! ### the data -/
def isName (z : Str) : Bool := decide (1 ≤ z.length) && (decide (z.length ≤ 6) && (tl z).all fun c => decide (c ∈ tl lettersS))
/-- the name that a value is -/
def nameOf : PyData → Option Str
  | .str z => if isName z = true then some z else none
  | _ => none
theorem nameOf_some {d : PyData} {n : Str} (h : nameOf d = some n) : d = .str n ∧ isName n = true := by
  cases d with
  | str z =>
    have h : (if isName z = true then some z else none) = some n := h
    by_cases e : isName z = true
    · rw [if_pos e] at h
      cases h
      exact ⟨rfl, e⟩
    · rw [if_neg e] at h
      cases h
  | _ => cases h
theorem nameOf_str {z : Str} (h : isName z = true) : nameOf (.str z) = some z := if_pos h
theorem nameOf_no {z : Str} (h : isName z = false) : nameOf (.str z) = none := if_neg (by rw [h]; exact Bool.false_ne_true)
theorem name_len {z : Str} (h : isName z = true) : 1 ≤ z.length ∧ z.length ≤ 6 := by
  unfold isName at h
  simp only [Bool.and_eq_true, decide_eq_true_eq] at h
  exact ⟨h.1, h.2.1⟩
theorem name_sub {z : Str} (h : isName z = true) : ∀ c ∈ tl z, c ∈ tl lettersS := by
  unfold isName at h
  simp only [Bool.and_eq_true, decide_eq_true_eq, List.all_eq_true] at h
  exact h.2.2
theorem name_no {z : Str} (h : isName z = true) {c : Nat} (hc : c ∉ tl lettersS) : c ∉ tl z := fun hm => hc (name_sub h c hm)
section
variable {P : Program} {w : World} {K : PySem.W.Frag} {mg : Str → Option Value} {base : Heap} {CE CN CB CW CY CD CU CM CO : Addr} {tL tN tU : Tok}
/-! ### is_name -/
def spName : Sp := fun vs H Q _ => ∃ (v : V) (d : PyData), vs = [v] ∧ TV H v d ∧ SmD d ∧ ∀ H', Ext H H' → Q (.bl (nameOf d).isSome) H'
abbrev s_is_name : Stmt := top 11
abbrev N_is_name : List Str := ["value", "letter"]
theorem sc_is_name : FnScope N_is_name ["value"] (defScope s_is_name) := ⟨rfl, rfl, rfl, by decide +kernel, rfl, by decide +kernel, by decide +kernel⟩
theorem ok_name {f : Addr} {fd : FuncData} (F : Fun K "is_name" "is_name" s_is_name f fd) (T : Tx K mg CE CN CB CW CY CD CU CM CO tL tN tU) : FnOk P w K mg base CX0 1 f fd ["value"] spName := by
  refine F.ok sc_is_name (fun vs H Q E h => ?_) (fun cdv A outer s H vs Q E hr h => ?_)
  · obtain ⟨v, d, rfl, _⟩ := h
    rfl
  · obtain ⟨v, d, rfl, hv, sm, k⟩ := h
    refine ⟨_, (pss_cons (ps_if ((pw_or (pt_not (pt_val (pe_callB call_isi (by rfl) (T.bn _ (by decide +kernel)) (by decide +kernel) (pa_cons (pv 0) (pa_cons (pe_gty (T := "str") (by rfl) (T.bn _ (by decide +kernel)) (by decide +kernel)) pa_nil))))) (pw_or1 (pt_not (pt_chain op_le op_le pe_int (pe_callB call_len_str (by rfl) (T.bn _ (by decide +kernel)) (by decide +kernel) (pa_cons (pv 0) pa_nil)) (pe_gint (by rfl) T.m_LONGEST_NAME)))))).pt (pss_one (ps_ret pe_bl)) pss_nil)
      (pss_one (ps_ret (pe_callB (cr_all rfl) (by rfl) (T.bn _ (by decide +kernel)) (by decide +kernel) (pa_cons (pe_lc (own := [("letter", 1)]) rfl sc_is_name.nd (pi_str (pv 0)) (blkOk_by (own := [("letter", 1)]) (N := N_is_name) (sc := defScope s_is_name) (by decide +kernel)) (fun _ _ _ _ _ => (pg_name (i := 1) sc_is_name.nd rfl (by first | exact Or.inl rfl | exact Or.inr rfl))) (fun _ _ _ _ _ => pts_nil) (fun _ _ _ _ _ => (pe_cmpR op_in_sign (pv 1) (pe_gstr (by rfl) T.m_LETTERS) rfl))) pa_nil))))), ?_⟩
    refine ⟨_, rfl, _, _, _, _, isStrD d, rfl, .ty "str", tyX_of hv, kit_str d, _, rfl, ?_⟩
    cases hd : isStrD d with
    | false =>
      refine iteT ?_
      have e1 : (nameOf d).isSome = false := by
        cases d <;> first | rfl | cases hd
      have := k H Ext.rfl'
      rw [e1] at this
      exact this
    | true =>
    obtain ⟨z, rfl⟩ := strD hd
    cases tv_str hv
    have hz : z.length ≤ 1000 := sm z rfl
    refine iteF ?_
    have hzl : z.length ≤ sizeLine := Nat.le_of_lt (small1000 hz)
    have eN : ∀ b, isName z = b → (nameOf (.str z)).isSome = b := fun b h => by
      show (if isName z = true then some z else none).isSome = b
      cases b with
      | true => rw [if_pos h]; rfl
      | false => rw [if_neg (by rw [h]; exact Bool.false_ne_true)]; rfl
    refine ⟨_, rfl, z, rfl, hzl, _, _, rfl, rfl, ?_⟩
    by_cases h1 : 1 ≤ z.length
    · refine ⟨true, by simp; omega, ?_⟩
      refine iteT ?_
      refine ⟨_, _, rfl, rfl, ?_⟩
      by_cases h6 : z.length ≤ 6
      · refine ⟨true, by simp; omega, ?_⟩
        refine iteF ?_
        -- the signs
        refine ⟨_, rfl, z, rfl, fun D hD => ?_⟩
        refine lc_map walk_str [D] (by simp) (fun _ => True) (fun i y _ => ∃ c, z.cps[i]? = some c ∧ y = .bl (decide (c ∈ tl lettersS))) (by have : z.length = z.cps.size := rfl; omega) (fun _ _ _ _ _ h => h) (fun _ _ _ => trivial) trivial (fun _ _ _ => trivial) ?_ ?_
        · rintro i x H1 H2 acc C hi e _ hD1 ⟨rfl, c, hc, rfl⟩ hC
          refine ⟨rfl, _, rfl, c, _, rfl, rfl, hC _ _ hD1 Ext.rfl' trivial ⟨c, hc, rfl⟩⟩
        · intro H1 ys e _ hD1 hl hy
          have hys : ys = ((tl z).map fun c => decide (c ∈ tl lettersS)).map V.bl := by
            refine List.ext_getElem? fun j => ?_
            cases q : ys[j]? with
            | none =>
              have : ys.length ≤ j := List.getElem?_eq_none_iff.mp q
              symm
              rw [List.getElem?_eq_none_iff]
              simp
              have : z.cps.size ≤ j := by omega
              exact this
            | some y =>
              obtain ⟨c, hc, rfl⟩ := hy j y q
              have hc' : (tl z)[j]? = some c := by rw [← hc]; simp [tl]
              simp [List.getElem?_map, hc']
          subst hys
          refine ⟨D, _, rfl, SqL.of hD1, ?_⟩
          have e1 : isName z = (((tl z).map fun c => decide (c ∈ tl lettersS)).all id) := by
            unfold isName
            rw [decide_eq_true h1, decide_eq_true h6, Bool.true_and, Bool.true_and, List.all_map]
            rfl
          rw [← eN _ e1]
          refine k _ fun b o q => ?_
          have := e b o (by rw [hid_at (by simpa using ne_of_none q hD)]; exact q)
          exact (hid_some this).2
      · refine ⟨false, by simp; omega, ?_⟩
        refine iteT ?_
        have e1 : isName z = false := by unfold isName; rw [decide_eq_false h6, Bool.false_and, Bool.and_false]
        have := k H Ext.rfl'
        rw [eN _ e1] at this
        exact this
    · refine ⟨false, by simp; omega, ?_⟩
      refine iteF ?_
      refine ⟨false, rfl, ?_⟩
      refine iteT ?_
      have e1 : isName z = false := by unfold isName; rw [decide_eq_false h1, Bool.false_and]
      have := k H Ext.rfl'
      rw [eN _ e1] at this
      exact this
/-! ### errors -/
abbrev s_BadName_init : Stmt := inClass (top 3) 0
theorem sc_BadName_init : ScS ["self", "value"] ["self", "value"] (defScope s_BadName_init) := ⟨rfl, rfl, rfl, by decide +kernel, rfl, by decide +kernel, by decide +kernel, by decide +kernel⟩
theorem ok_BadName_init {f cda cc C : Addr} {fd : FuncData} (F : Ls.FunS K "__init__" "BadName.__init__" s_BadName_init f fd cda cc) (S : SupE P K mg C C cc cda) (no : PySem.W.findIn K (.ref C) "value" = some none) :
    FnOk P w K mg base CX0 1 f fd ["self", "value"] (spX C ["value"]) := by
  obtain ⟨oc, od, kV, doc, pm, an, ct, osl, rfl, lk, hcd⟩ := F.ex
  refine fn_superE (N := ["self", "value"]) lk hcd sc_BadName_init rfl rfl rfl rfl rfl (fun vs H Q E h => ?_) (fun A outer s H vs Q E hr h => ?_) (fun _ => rfl) (fun _ => rfl) (fun _ => rfl) (fun _ => rfl) (fun _ => rfl)
  · obtain ⟨a, ys, rfl, hl, _⟩ := h
    simpa using hl
  · obtain ⟨a, ys, rfl, hl, ha, k⟩ := h
    obtain ⟨y, rfl⟩ : ∃ y, ys = [y] := by
      match ys, hl with
      | [y], _ => exact ⟨y, rfl⟩
    refine ⟨a, C, C, [y], _, _, rfl, ha, S, pa_cons pe_str pa_nil, pss_one (ps_ost (pv 0) (pv 1) rfl), ?_⟩
    refine ⟨(by show 1 ≤ 1000; decide), ha, _, rfl, _, rfl, a, C, rfl, S.oex, no, .inl ⟨ha, fun dx n ne => ?_⟩⟩
    refine k dx _ n ne upd_same (by rw [upd_ne ne]; exact upd_same) fun b h1 h2 => ?_
    rw [upd_ne h1, upd_ne h2]
abbrev s_BadDeed_init : Stmt := inClass (top 4) 0
theorem sc_BadDeed_init : ScS ["self", "value"] ["self", "value"] (defScope s_BadDeed_init) := ⟨rfl, rfl, rfl, by decide +kernel, rfl, by decide +kernel, by decide +kernel, by decide +kernel⟩
theorem ok_BadDeed_init {f cda cc C : Addr} {fd : FuncData} (F : Ls.FunS K "__init__" "BadDeed.__init__" s_BadDeed_init f fd cda cc) (S : SupE P K mg C C cc cda) (no : PySem.W.findIn K (.ref C) "value" = some none) :
    FnOk P w K mg base CX0 1 f fd ["self", "value"] (spX C ["value"]) := by
  obtain ⟨oc, od, kV, doc, pm, an, ct, osl, rfl, lk, hcd⟩ := F.ex
  refine fn_superE (N := ["self", "value"]) lk hcd sc_BadDeed_init rfl rfl rfl rfl rfl (fun vs H Q E h => ?_) (fun A outer s H vs Q E hr h => ?_) (fun _ => rfl) (fun _ => rfl) (fun _ => rfl) (fun _ => rfl) (fun _ => rfl)
  · obtain ⟨a, ys, rfl, hl, _⟩ := h
    simpa using hl
  · obtain ⟨a, ys, rfl, hl, ha, k⟩ := h
    obtain ⟨y, rfl⟩ : ∃ y, ys = [y] := by
      match ys, hl with
      | [y], _ => exact ⟨y, rfl⟩
    refine ⟨a, C, C, [y], _, _, rfl, ha, S, pa_cons pe_str pa_nil, pss_one (ps_ost (pv 0) (pv 1) rfl), ?_⟩
    refine ⟨(by show 1 ≤ 1000; decide), ha, _, rfl, _, rfl, a, C, rfl, S.oex, no, .inl ⟨ha, fun dx n ne => ?_⟩⟩
    refine k dx _ n ne upd_same (by rw [upd_ne ne]; exact upd_same) fun b h1 h2 => ?_
    rw [upd_ne h1, upd_ne h2]
abbrev s_Twice_init : Stmt := inClass (top 5) 0
theorem sc_Twice_init : ScS ["self", "name"] ["self", "name"] (defScope s_Twice_init) := ⟨rfl, rfl, rfl, by decide +kernel, rfl, by decide +kernel, by decide +kernel, by decide +kernel⟩
theorem ok_Twice_init {f cda cc C : Addr} {fd : FuncData} (F : Ls.FunS K "__init__" "Twice.__init__" s_Twice_init f fd cda cc) (S : SupE P K mg C C cc cda) (no : PySem.W.findIn K (.ref C) "name" = some none) :
    FnOk P w K mg base CX0 1 f fd ["self", "name"] (spX C ["name"]) := by
  obtain ⟨oc, od, kV, doc, pm, an, ct, osl, rfl, lk, hcd⟩ := F.ex
  refine fn_superE (N := ["self", "name"]) lk hcd sc_Twice_init rfl rfl rfl rfl rfl (fun vs H Q E h => ?_) (fun A outer s H vs Q E hr h => ?_) (fun _ => rfl) (fun _ => rfl) (fun _ => rfl) (fun _ => rfl) (fun _ => rfl)
  · obtain ⟨a, ys, rfl, hl, _⟩ := h
    simpa using hl
  · obtain ⟨a, ys, rfl, hl, ha, k⟩ := h
    obtain ⟨y, rfl⟩ : ∃ y, ys = [y] := by
      match ys, hl with
      | [y], _ => exact ⟨y, rfl⟩
    refine ⟨a, C, C, [y], _, _, rfl, ha, S, pa_cons pe_str pa_nil, pss_one (ps_ost (pv 0) (pv 1) rfl), ?_⟩
    refine ⟨(by show 1 ≤ 1000; decide), ha, _, rfl, _, rfl, a, C, rfl, S.oex, no, .inl ⟨ha, fun dx n ne => ?_⟩⟩
    refine k dx _ n ne upd_same (by rw [upd_ne ne]; exact upd_same) fun b h1 h2 => ?_
    rw [upd_ne h1, upd_ne h2]
abbrev s_TooMany_init : Stmt := inClass (top 6) 0
theorem sc_TooMany_init : ScS ["self", "most"] ["self", "most"] (defScope s_TooMany_init) := ⟨rfl, rfl, rfl, by decide +kernel, rfl, by decide +kernel, by decide +kernel, by decide +kernel⟩
theorem ok_TooMany_init {f cda cc C : Addr} {fd : FuncData} (F : Ls.FunS K "__init__" "TooMany.__init__" s_TooMany_init f fd cda cc) (S : SupE P K mg C C cc cda) (no : PySem.W.findIn K (.ref C) "most" = some none) :
    FnOk P w K mg base CX0 1 f fd ["self", "most"] (spX C ["most"]) := by
  obtain ⟨oc, od, kV, doc, pm, an, ct, osl, rfl, lk, hcd⟩ := F.ex
  refine fn_superE (N := ["self", "most"]) lk hcd sc_TooMany_init rfl rfl rfl rfl rfl (fun vs H Q E h => ?_) (fun A outer s H vs Q E hr h => ?_) (fun _ => rfl) (fun _ => rfl) (fun _ => rfl) (fun _ => rfl) (fun _ => rfl)
  · obtain ⟨a, ys, rfl, hl, _⟩ := h
    simpa using hl
  · obtain ⟨a, ys, rfl, hl, ha, k⟩ := h
    obtain ⟨y, rfl⟩ : ∃ y, ys = [y] := by
      match ys, hl with
      | [y], _ => exact ⟨y, rfl⟩
    refine ⟨a, C, C, [y], _, _, rfl, ha, S, pa_cons pe_str pa_nil, pss_one (ps_ost (pv 0) (pv 1) rfl), ?_⟩
    refine ⟨(by show 1 ≤ 1000; decide), ha, _, rfl, _, rfl, a, C, rfl, S.oex, no, .inl ⟨ha, fun dx n ne => ?_⟩⟩
    refine k dx _ n ne upd_same (by rw [upd_ne ne]; exact upd_same) fun b h1 h2 => ?_
    rw [upd_ne h1, upd_ne h2]
end
end K02
end
section
set_option Elab.async false
set_option autoImplicit false
set_option linter.all false
set_option maxRecDepth 100000
set_option maxHeartbeats 4000000
namespace K02
open PySem PySem.Spec PyProof.Rows L2 Ls
open C8 (pss_cut tCut)
open TL
/-! ### what is due, in plain Lean -/
def badOf : List PyData → Option PyData
  | [] => none
  | d :: r => if nameOf d = none then some d else badOf r
def namesOf (ds : List PyData) : List Str := ds.filterMap nameOf
/-- the first that stood before -/
def twi : List Str → List Str → Option Str
  | _, [] => none
  | seen, z :: r => if z ∈ seen then some z else twi (seen ++ [z]) r
inductive Flt
  | name (d : PyData)
  | twice (z : Str)
  | many
  | deed
def usedF (ds : List PyData) : Option Flt :=
  match badOf ds with
  | some d => some (.name d)
  | none => match twi [] (namesOf ds) with
    | some z => some (.twice z)
    | none => if 3 < ds.length then some .many else if ds = [] then some .deed else none
theorem bad_none : ∀ {ds : List PyData}, badOf ds = none → ds = (namesOf ds).map .str ∧ ∀ z ∈ namesOf ds, isName z = true
  | [], _ => ⟨rfl, by simp [namesOf]⟩
  | d :: r, h => by
    have h : (if nameOf d = none then some d else badOf r) = none := h
    by_cases q : nameOf d = none
    · rw [if_pos q] at h
      cases h
    · rw [if_neg q] at h
      obtain ⟨h1, h2⟩ := bad_none h
      cases hn : nameOf d with
      | none => exact absurd hn q
      | some n =>
        obtain ⟨e, g⟩ := nameOf_some hn
        have en : namesOf (d :: r) = n :: namesOf r := by
          show List.filterMap nameOf (d :: r) = _
          rw [List.filterMap_cons, hn]
          rfl
        rw [en]
        refine ⟨?_, fun z hz => ?_⟩
        · rw [List.map_cons, ← h1, e]
        · rcases List.mem_cons.mp hz with rfl | hz
          · exact g
          · exact h2 z hz
theorem bad_at : ∀ {ds : List PyData} {i : Nat} {d : PyData}, (∀ (j : Nat) d', j < i → ds[j]? = some d' → nameOf d' ≠ none) → ds[i]? = some d → nameOf d = none → badOf ds = some d
  | [], i, d, _, h, _ => by simp at h
  | x :: r, 0, d, _, h, hn => by
    have : x = d := by simpa using h
    subst this
    show (if nameOf x = none then some x else badOf r) = _
    rw [if_pos hn]
  | x :: r, i + 1, d, hb, h, hn => by
    show (if nameOf x = none then some x else badOf r) = _
    rw [if_neg (hb 0 x (by omega) rfl)]
    exact bad_at (i := i) (fun j d' hj hd => hb (j + 1) d' (by omega) (by simpa using hd)) (by simpa using h) hn
theorem bad_all : ∀ {ds : List PyData}, (∀ (j : Nat) d', ds[j]? = some d' → nameOf d' ≠ none) → badOf ds = none
  | [], _ => rfl
  | x :: r, h => by
    show (if nameOf x = none then some x else badOf r) = _
    rw [if_neg (h 0 x rfl)]
    exact bad_all fun j d' hd => h (j + 1) d' (by simpa using hd)
theorem names_str (zs : List Str) (h : ∀ z ∈ zs, isName z = true) : namesOf (zs.map .str) = zs := by
  induction zs with
  | nil => rfl
  | cons z r ih =>
    show List.filterMap nameOf (.str z :: r.map .str) = _
    rw [List.filterMap_cons, nameOf_str (h z (by simp))]
    exact congrArg (z :: ·) (ih fun x hx => h x (List.mem_cons_of_mem _ hx))
/-! ### errors, from a heap that has grown -/
def Errs (C : Addr) (f : Str) (v : V) (H : Hp) (E : XK) : Prop := ∀ dd H', Ext H H' → nw H H' dd = some (.xd [(f, v)]) → E (.ref C) (some dd) H'
theorem Errs.ext {C : Addr} {f : Str} {v : V} {H H1 : Hp} {E : XK} (h : Errs C f v H E) (e : Ext H H1) : Errs C f v H1 E := fun dd H' e' q => h dd H' (e.trans e') (nw_back e _ _ q)
theorem Errs.at {C : Addr} {f : Str} {v : V} {H H1 : Hp} {E : XK} (h : Errs C f v H E) (e : Ext H H1) {dd : Addr} (nd : H1 dd = none) : E (.ref C) (some dd) (upd H1 dd (.xd [(f, v)])) :=
  h dd _ (e.trans (Ext.upd nd)) (by rw [nw_at (ext_free e nd)]; exact upd_same)
def FErr (CN CB CW CY : Addr) (H : Hp) (E : XK) : Flt → Prop
  | .name d => ∀ v H1, Ext H H1 → TV H1 v d → Errs CN "value" v H1 E
  | .twice z => Errs CW "name" (.str z) H E
  | .many => Errs CY "most" (.int 3) H E
  | .deed => Errs CB "value" .non H E
theorem FErr.ext {CN CB CW CY : Addr} {H H1 : Hp} {E : XK} : ∀ {f : Flt}, FErr CN CB CW CY H E f → Ext H H1 → FErr CN CB CW CY H1 E f
  | .name _, h, e => fun v H2 e2 t => h v H2 (e.trans e2) t
  | .twice _, h, e => Errs.ext h e
  | .many, h, e => Errs.ext h e
  | .deed, h, e => Errs.ext h e
/-- values that are handed in -/
structure ArgsAt (H : Hp) (xs : List V) (ds : List PyData) : Prop where
  tv : TVs H xs ds
  sm : ∀ d ∈ ds, SmD d
  ln : xs.length ≤ 100
theorem ArgsAt.ext {H H' : Hp} {xs : List V} {ds : List PyData} (h : ArgsAt H xs ds) (e : Ext H H') : ArgsAt H' xs ds := ⟨h.tv.ext e, h.sm, h.ln⟩
theorem ArgsAt.at_ {H : Hp} {xs : List V} {ds : List PyData} {i : Nat} {v : V} (h : ArgsAt H xs ds) (q : xs[i]? = some v) : ∃ d, ds[i]? = some d ∧ TV H v d ∧ SmD d := by
  obtain ⟨d, h1, h2⟩ := h.tv.at_ q
  exact ⟨d, h1, h2, h.sm d (List.mem_of_getElem? h1)⟩
theorem ArgsAt.names {H : Hp} {xs : List V} {ds : List PyData} (h : ArgsAt H xs ds) (hb : badOf ds = none) : xs = (namesOf ds).map V.str := by
  have e := (bad_none hb).1
  refine List.ext_getElem? fun j => ?_
  have hl := h.tv.len
  have hl2 : ds.length = (namesOf ds).length := by
    have := congrArg List.length e
    rw [List.length_map] at this
    exact this
  cases q : xs[j]? with
  | none =>
    have := List.getElem?_eq_none_iff.mp q
    symm
    rw [List.getElem?_eq_none_iff, List.length_map]
    omega
  | some v =>
    obtain ⟨d, h1, h2⟩ := h.tv.at_ q
    rw [e, List.getElem?_map] at h1
    obtain ⟨z, g1, rfl⟩ := Option.map_eq_some_iff.mp h1
    rw [List.getElem?_map, g1, tv_str h2]
    rfl
theorem eqV_str (a b : Str) : eqV (.str a) (.str b) = decide (b = a) := by
  show (a == b) = _
  by_cases h : b = a
  · subst h
    simp
  · rw [decide_eq_false h]
    exact beq_eq_false_iff_ne.mpr fun e => h e.symm
theorem inV_strs (z : Str) : ∀ l : List Str, inV (.str z) (l.map V.str) = decide (z ∈ l)
  | [] => rfl
  | a :: l => by
    have ih := inV_strs z l
    show (eqV (.str a) (.str z) || inV (.str z) (l.map V.str)) = _
    rw [eqV_str, ih]
    simp only [List.mem_cons, Bool.decide_or]
theorem flat_strs (l : List Str) : (l.map V.str).all flatV = true := by
  rw [List.all_map]
  exact List.all_eq_true.mpr fun _ _ => rfl
section
variable {P : Program} {w : World} {K : PySem.W.Frag} {mg : Str → Option Value} {base : Heap} {CE CN CB CW CY CD CU CM CO : Addr} {tL tN tU : Tok}
/-! ### need_names -/
def spNN (K : PySem.W.Frag) (CN CW : Addr) : Sp := fun vs H Q E => ∃ (l : Addr) (xs : List V) (ds : List PyData), vs = [.ref l] ∧ SqT K H l xs ∧ ArgsAt H xs ds ∧
  (∀ d, badOf ds = some d → ∀ v H1, Ext H H1 → TV H1 v d → Errs CN "value" v H1 E) ∧
  (badOf ds = none → ∀ z, twi [] (namesOf ds) = some z → Errs CW "name" (.str z) H E) ∧
  (badOf ds = none → twi [] (namesOf ds) = none → ∀ a H', Ext H H' → nw H H' a = some (.lst ((namesOf ds).map V.str)) → Q (.ref a) H')
abbrev s_need_names : Stmt := top 12
abbrev N_need_names : List Str := ["values", "found", "value"]
theorem sc_need_names : FnScope N_need_names ["values"] (defScope s_need_names) := ⟨rfl, rfl, rfl, by decide +kernel, rfl, by decide +kernel, by decide +kernel⟩
theorem ok_nn {f : Addr} {fd : FuncData} (F : Fun K "need_names" "need_names" s_need_names f fd) (T : Tx K mg CE CN CB CW CY CD CU CM CO tL tN tU) (c_is_name : Cal P w K mg base CX0 1 "is_name" spName) (x_BadName : Xer P w K mg base CN "BadName" ["value"]) (x_Twice : Xer P w K mg base CW "Twice" ["name"]) :
    FnOk P w K mg base (L2.CX P w) 3 f fd ["values"] (spNN K CN CW) := by
  refine F.okX sc_need_names (fun vs H Q E h => ?_) (fun cdv A outer s H vs Q E hr h => ?_)
  · obtain ⟨l, xs, ds, rfl, _⟩ := h
    rfl
  · obtain ⟨l, xs, ds, rfl, hl, ha, k1, k2, k3⟩ := h
    have h4 : sizeLine = 16777216 := sizeLine_eq
    have hln := ha.ln
    have hlen := ha.tv.len
    refine ⟨_, (pss_cons (ps_set (i := 1) sc_need_names.nd rfl (by first | exact Or.inl rfl | exact Or.inr rfl) (pe_lst pa_nil))
      (pss_cons (ps_for (passes_of rfl) rfl (pi_tup (pv 0)) (pg_name (i := 2) sc_need_names.nd rfl (by first | exact Or.inl rfl | exact Or.inr rfl))
      (pss_one (ps_if (pt_not (pt_val (pe_cal c_is_name (hr.mono (by decide)) (by rfl) pass0 (pa_cons (pv 2) pa_nil)))) (pss_one (ps_raise rfl tkC (pmk_err x_BadName (hr.mono (by decide)) (by rfl) (pa_cons (pv 2) pa_nil)))) pss_nil)))
      (pss_cons (ps_for (passes_of rfl) rfl (pi_tup (pv 0)) (pg_name (i := 2) sc_need_names.nd rfl (by first | exact Or.inl rfl | exact Or.inr rfl))
      (pss_cons (ps_if (pt_cmpR op_in_seq (pv 2) (pv 1) rfl) (pss_one (ps_raise rfl tkC (pmk_err x_Twice (hr.mono (by decide)) (by rfl) (pa_cons (pv 2) pa_nil)))) pss_nil)
      (pss_one (ps_expr (pe_bm PySem.F.plainAttrs_list PySem.F.slot_list_append PySem.F.type_list_append mt_append (pv 1) (pa_cons (pv 2) pa_nil))))))
      (pss_one (ps_ret (pv 1)))))), ?_⟩
    refine ⟨(by show 0 ≤ sizeLine; decide), fun L nL => ?_⟩
    have e0 : Ext H (upd H L (.lst [])) := Ext.upd nL
    refine ⟨_, rfl, l, rfl, ⟨_, hl.ext e0⟩, for_it (walk_tup (xs := xs)) (fun i σ H' => ∃ x2, σ = [some (.ref l), some (.ref L), x2] ∧ Ext H H' ∧ H' L = some (.lst []) ∧ ∀ (j : Nat) d, j < i → ds[j]? = some d → nameOf d ≠ none) ⟨_, rfl, e0, upd_same, fun j d h => absurd h (by omega)⟩ (fun i σ H' _ ⟨_, _, e, _⟩ => hl.ext e) ?_ ?_⟩
    · rintro i x σ _ H1 hi ⟨x2, rfl, e1, hL1, ih⟩ ⟨rfl, hx⟩
      obtain ⟨d, hd, hv, sm⟩ := (ha.ext e1).at_ hx
      refine ⟨_, rfl, x, d, rfl, hv, sm, fun H2 e2 => ⟨_, rfl, ?_⟩⟩
      cases hn : nameOf d with
      | none =>
        refine iteT ?_
        refine ⟨_, rfl, rfl, (by show 1 ≤ 1000; decide), fun dd nd => ?_⟩
        exact (k1 d (bad_at ih hd hn) x H2 (e1.trans e2) (hv.ext e2)).at Ext.rfl' nd
      | some n =>
        refine iteF ?_
        refine ⟨_, rfl, e1.trans e2, e2 _ _ hL1, fun j d' hj hd' => ?_⟩
        by_cases h : j < i
        · exact ih j d' h hd'
        · have : j = i := by omega
          subst this
          rw [hd] at hd'
          cases hd'
          rw [hn]
          simp
    · rintro σ H1 ⟨x2, rfl, e1, hL1, ih⟩
      have hb : badOf ds = none := bad_all fun j d hd => ih j d (by have := (List.getElem?_eq_some_iff.mp hd).1; omega) hd
      have hxs := ha.names hb
      generalize hzs : namesOf ds = zs at hxs k2 k3
      have hzl : xs.length = zs.length := by rw [hxs, List.length_map]
      refine ⟨_, rfl, l, rfl, ⟨_, hl.ext e1⟩, for_it (walk_tup (xs := xs)) (fun i σ H' => ∃ x2, σ = [some (.ref l), some (.ref L), x2] ∧ Ext H H' ∧ H' L = some (.lst ((zs.take i).map V.str)) ∧ twi [] zs = twi (zs.take i) (zs.drop i)) ⟨_, rfl, e1, hL1, by simp⟩ (fun i σ H' _ ⟨_, _, e, _⟩ => hl.ext e) ?_ ?_⟩
      · rintro i x σ _ H2 hi ⟨x2', rfl, e2, hL2, it⟩ ⟨rfl, hx⟩
        rw [hxs, List.getElem?_map] at hx
        obtain ⟨z, hz, rfl⟩ := Option.map_eq_some_iff.mp hx
        have hdr : zs.drop i = z :: zs.drop (i + 1) := by
          obtain ⟨h1, h2⟩ := List.getElem?_eq_some_iff.mp hz
          rw [List.drop_eq_getElem_cons h1, h2]
        have hst : twi (zs.take i) (zs.drop i) = if z ∈ zs.take i then some z else twi (zs.take i ++ [z]) (zs.drop (i + 1)) := by rw [hdr]; rfl
        refine ⟨_, rfl, _, rfl, L, _, rfl, .inl (SqL.of hL2), rfl, flat_strs _, _, rfl, ?_⟩
        rw [inV_strs]
        by_cases hm : z ∈ zs.take i
        · refine iteYes (decide_eq_true hm) ?_
          refine ⟨_, rfl, rfl, (by show 1 ≤ 1000; decide), fun dd nd => (k2 hb z ?_).at e2 nd⟩
          rw [it, hst, if_pos hm]
        · refine iteNo (decide_eq_false hm) ?_
          have htk : zs.take (i + 1) = zs.take i ++ [z] := by rw [List.take_add_one, hz]; rfl
          refine ⟨_, rfl, .inl ⟨rfl, _, SqL.of hL2⟩, _, rfl, L, _, _, rfl, rfl, hL2, ?_, _, rfl, ?_, ?_, ?_⟩
          · rw [List.length_map]
            have := List.length_take_le i zs
            omega
          · intro b o q
            rw [upd_ne (ne_of_none q nL)]
            exact e2 b o q
          · rw [upd_same, htk, List.map_append]
            rfl
          · rw [it, hst, if_neg hm, htk]
      · rintro σ H2 ⟨x2', rfl, e2, hL2, it⟩
        rw [hzl, List.take_length] at hL2
        rw [hzl, List.take_length, List.drop_length] at it
        refine ⟨_, rfl, k3 hb it L H2 e2 ?_⟩
        rw [nw_at nL]
        exact hL2
/-! ### need_used -/
def spNU (K : PySem.W.Frag) (CN CB CW CY : Addr) : Sp := fun vs H Q E => ∃ (l : Addr) (xs : List V) (ds : List PyData), vs = [.ref l] ∧ SqT K H l xs ∧ ArgsAt H xs ds ∧
  (∀ f, usedF ds = some f → FErr CN CB CW CY H E f) ∧ (usedF ds = none → ∀ a H', Ext H H' → nw H H' a = some (.tup ((namesOf ds).map V.str)) → Q (.ref a) H')
abbrev s_need_used : Stmt := top 14
abbrev N_need_used : List Str := ["names", "used"]
theorem sc_need_used : FnScope N_need_used ["names"] (defScope s_need_used) := ⟨rfl, rfl, rfl, by decide +kernel, rfl, by decide +kernel, by decide +kernel⟩
theorem ok_nu {f : Addr} {fd : FuncData} (F : Fun K "need_used" "need_used" s_need_used f fd) (T : Tx K mg CE CN CB CW CY CD CU CM CO tL tN tU) (c_need_names : Cal P w K mg base (L2.CX P w) 3 "need_names" (spNN K CN CW)) (x_TooMany : Xer P w K mg base CY "TooMany" ["most"]) (x_BadDeed : Xer P w K mg base CB "BadDeed" ["value"]) :
    FnOk P w K mg base (L2.CX P w) 4 f fd ["names"] (spNU K CN CB CW CY) := by
  refine F.okX sc_need_used (fun vs H Q E h => ?_) (fun cdv A outer s H vs Q E hr h => ?_)
  · obtain ⟨l, xs, ds, rfl, _⟩ := h
    rfl
  · obtain ⟨l, xs, ds, rfl, hl, ha, ke, k⟩ := h
    have h4 : sizeLine = 16777216 := sizeLine_eq
    refine ⟨_, (pss_cons (ps_set (i := 1) sc_need_used.nd rfl (by first | exact Or.inl rfl | exact Or.inr rfl) (pe_callTy call_tuple_of (by rfl) (T.bn _ (by decide +kernel)) (by decide +kernel) (pa_cons (pe_cal c_need_names (hr.mono (by decide)) (by rfl) passC (pa_cons (pv 0) pa_nil)) pa_nil)))
      (pss_cons (ps_if (pt_cmpR op_gt (pe_callB call_len_seq (by rfl) (T.bn _ (by decide +kernel)) (by decide +kernel) (pa_cons (pv 1) pa_nil)) (pe_gint (by rfl) T.m_MOST_USED) (nomark _)) (pss_one (ps_raise rfl tkC (pmk_err x_TooMany (hr.mono (by decide)) (by rfl) (pa_cons (pe_gint (by rfl) T.m_MOST_USED) pa_nil)))) pss_nil)
      (pss_cons (ps_if (pt_cmpR op_eq (pe_callB call_len_seq (by rfl) (T.bn _ (by decide +kernel)) (by decide +kernel) (pa_cons (pv 1) pa_nil)) pe_int (nomark _)) (pss_one (ps_raise rfl tkC (pmk_err x_BadDeed (hr.mono (by decide)) (by rfl) (pa_cons pe_non pa_nil)))) pss_nil)
      (pss_one (ps_ret (pv 1)))))), ?_⟩
    refine ⟨_, rfl, l, xs, ds, rfl, hl, ha, fun d hd v H1 e1 tv => ?_, fun hb z hz => ?_, fun hb ht a H1 e1 ha1 => ?_⟩
    · have : usedF ds = some (.name d) := by unfold usedF; rw [hd]
      exact ke _ this v H1 e1 tv
    · have : usedF ds = some (.twice z) := by
        unfold usedF
        rw [hb]
        show (match twi [] (namesOf ds) with | some z => some (Flt.twice z) | none => _) = _
        rw [hz]
      exact ke _ this
    · have hu : usedF ds = if 3 < ds.length then some .many else if ds = [] then some .deed else none := by
        unfold usedF
        rw [hb]
        show (match twi [] (namesOf ds) with | some z => some (Flt.twice z) | none => _) = _
        rw [ht]
      have hdl : ds.length = (namesOf ds).length := by
        have := congrArg List.length (bad_none hb).1
        rw [List.length_map] at this
        exact this
      have hzl : ((namesOf ds).map V.str).length = ds.length := by rw [List.length_map, hdl]
      refine ⟨a, _, rfl, .inl ⟨SqL.of (nw_some ha1).2, fun t nt => ?_⟩⟩
      have e2 : Ext H1 (upd H1 t (.tup ((namesOf ds).map V.str))) := Ext.upd nt
      have f2 : (upd H1 t (.tup ((namesOf ds).map V.str))) t = some (.tup ((namesOf ds).map V.str)) := upd_same
      generalize (upd H1 t (.tup ((namesOf ds).map V.str))) = H2 at e2 f2
      have eH := e1.trans e2
      refine ⟨_, rfl, t, _, rfl, .inr (SqT.of f2), _, _, rfl, rfl, _, rfl, ?_⟩
      by_cases h3 : 3 < ds.length
      · refine iteYes (decide_eq_true (by rw [hzl]; omega)) ?_
        rw [if_pos h3] at hu
        exact ⟨rfl, (by show 1 ≤ 1000; decide), fun dd nd => Errs.at (show Errs CY "most" (.int 3) H E from ke _ hu) eH nd⟩
      · refine iteNo (decide_eq_false (by rw [hzl]; omega)) ?_
        rw [if_neg h3] at hu
        refine ⟨_, rfl, t, _, rfl, .inr (SqT.of f2), rfl, _, rfl, ?_⟩
        by_cases h0 : ds = []
        · subst h0
          refine iteYes (decide_eq_true rfl) ?_
          rw [if_pos rfl] at hu
          exact ⟨rfl, (by show 1 ≤ 1000; decide), fun dd nd => Errs.at (show Errs CB "value" .non H E from ke _ hu) eH nd⟩
        · refine iteNo (decide_eq_false fun q => h0 ?_) ?_
          · have q' := V.int.inj q
            rw [hzl] at q'
            exact List.eq_nil_of_length_eq_zero (by omega)
          · rw [if_neg h0] at hu
            refine ⟨_, rfl, k hu t H2 eH ?_⟩
            have : H t = none := ext_free e1 nt
            rw [nw_at this]
            exact f2
/-! ### need_name -/
def spN1 (CN : Addr) : Sp := fun vs H Q E => ∃ (v : V) (d : PyData), vs = [v] ∧ TV H v d ∧ SmD d ∧ (nameOf d = none → Errs CN "value" v H E) ∧ (∀ z, nameOf d = some z → ∀ H', Ext H H' → Q (.str z) H')
abbrev s_need_name : Stmt := top 15
abbrev N_need_name : List Str := ["value"]
theorem sc_need_name : FnScope N_need_name ["value"] (defScope s_need_name) := ⟨rfl, rfl, rfl, by decide +kernel, rfl, by decide +kernel, by decide +kernel⟩
theorem ok_n1 {f : Addr} {fd : FuncData} (F : Fun K "need_name" "need_name" s_need_name f fd) (T : Tx K mg CE CN CB CW CY CD CU CM CO tL tN tU) (c_is_name : Cal P w K mg base CX0 1 "is_name" spName) (x_BadName : Xer P w K mg base CN "BadName" ["value"]) :
    FnOk P w K mg base (L2.CX P w) 3 f fd ["value"] (spN1 CN) := by
  refine F.okX sc_need_name (fun vs H Q E h => ?_) (fun cdv A outer s H vs Q E hr h => ?_)
  · obtain ⟨v, d, rfl, _⟩ := h
    rfl
  · obtain ⟨v, d, rfl, hv, sm, ke, k⟩ := h
    refine ⟨_, (pss_cons (ps_if (pt_not (pt_val (pe_cal c_is_name (hr.mono (by decide)) (by rfl) pass0 (pa_cons (pv 0) pa_nil)))) (pss_one (ps_raise rfl tkC (pmk_err x_BadName (hr.mono (by decide)) (by rfl) (pa_cons (pv 0) pa_nil)))) pss_nil)
      (pss_one (ps_ret (pv 0)))), ?_⟩
    refine ⟨_, rfl, v, d, rfl, hv, sm, fun H1 e1 => ⟨_, rfl, ?_⟩⟩
    cases hn : nameOf d with
    | none =>
      refine iteT ?_
      exact ⟨_, rfl, rfl, (by show 1 ≤ 1000; decide), fun dd nd => (ke hn).at e1 nd⟩
    | some z =>
      refine iteF ?_
      obtain ⟨rfl, _⟩ := nameOf_some hn
      cases tv_str hv
      exact ⟨_, rfl, k z hn H1 e1⟩
end
end K02
end
section
set_option Elab.async false
set_option autoImplicit false
set_option linter.all false
set_option maxRecDepth 100000
set_option maxHeartbeats 4000000
namespace K02
open PySem PySem.Spec PyProof.Rows L2 Ls
open C8 (pss_cut tCut)
open TL
/-- all stays but the object at x -/
def KeepX (x : Addr) (H H' : Hp) : Prop := ∀ b o, H b = some o → b ≠ x → H' b = some o
/-- what the top says of a class of deeds -/
structure ClD (K : PySem.W.Frag) (C : Addr) : Prop where
  cl : Cls K C
  nU : NoAttr K C "used_names"
  nM : NoAttr K C "made_names"
mutual
theorem tv_upd {H : Hp} {x C dx : Addr} {fs : List (Str × V)} {o : HO} (hx : H x = some (.ins C dx fs)) : ∀ {v : V} {d : PyData}, TV H v d → TV (upd H x o) v d
  | _, _, .non => .non
  | _, _, .bl b => .bl b
  | _, _, .int i => .int i
  | _, _, .str z => .str z
  | _, _, .lst q h => .lst (by rw [upd_ne (ne_of q hx (by intro z; cases z))]; exact q) (tvs_upd hx h)
  | _, _, .tup q h => .tup (by rw [upd_ne (ne_of q hx (by intro z; cases z))]; exact q) (tvs_upd hx h)
  | _, _, .dct q h1 h2 => .dct (by rw [upd_ne (ne_of q hx (by intro z; cases z))]; exact q) (tvs_upd hx h1) (tvs_upd hx h2)
theorem tvs_upd {H : Hp} {x C dx : Addr} {fs : List (Str × V)} {o : HO} (hx : H x = some (.ins C dx fs)) : ∀ {vs : List V} {ds : List PyData}, TVs H vs ds → TVs (upd H x o) vs ds
  | _, _, .nil => .nil
  | _, _, .cons h hs => .cons (tv_upd hx h) (tvs_upd hx hs)
end
section
variable {P : Program} {w : World} {K : PySem.W.Frag} {mg : Str → Option Value} {base : Heap} {CE CN CB CW CY CD CU CM CO : Addr} {tL tN tU : Tok}
/-! ### Deed.__init__ -/
def spDI (K : PySem.W.Frag) : Sp := fun vs H Q _ => ∃ (x C dx : Addr) (u m : V), vs = [.ref x, u, m] ∧ H x = some (.ins C dx []) ∧ ClD K C ∧ ∀ H', KeepX x H H' → Q .non H'
abbrev s_Deed_init : Stmt := inClass (top 16) 1
abbrev N_Deed_init : List Str := ["self", "used", "made"]
theorem sc_Deed_init : FnScope N_Deed_init ["self", "used", "made"] (defScope s_Deed_init) := ⟨rfl, rfl, rfl, by decide +kernel, rfl, by decide +kernel, by decide +kernel⟩
theorem ok_DI {f : Addr} {fd : FuncData} (F : Fun K "__init__" "Deed.__init__" s_Deed_init f fd) (T : Tx K mg CE CN CB CW CY CD CU CM CO tL tN tU) : FnOk P w K mg base CX0 1 f fd ["self", "used", "made"] (spDI K) := by
  refine F.ok sc_Deed_init (fun vs H Q E h => ?_) (fun cdv A outer s H vs Q E hr h => ?_)
  · obtain ⟨x, C, dx, u, m, rfl, _⟩ := h
    rfl
  · obtain ⟨x, C, dx, u, m, rfl, hx, hc, k⟩ := h
    refine ⟨_, (pss_cons (ps_fld (pv 0) (pv 1) rfl)
      (pss_one (ps_fld (pv 0) (pv 2) rfl))), ?_⟩
    refine ⟨_, rfl, _, rfl, x, C, dx, _, rfl, hx, hc.cl, hc.nU, (by show 0 < 1000; decide), ?_⟩
    refine ⟨_, rfl, _, rfl, x, C, dx, _, rfl, upd_same, hc.cl, hc.nM, (by show 1 < 1000; decide), ?_⟩
    exact k _ fun b o q hb => by rw [upd_ne hb, upd_ne hb]; exact q
/-! ### Use.__init__ -/
def spUse (CN CB CW CY C : Addr) : Sp := fun vs H Q E => ∃ (x dx : Addr) (xs : List V) (ds : List PyData), vs = .ref x :: xs ∧ H x = some (.ins C dx []) ∧ ArgsAt H xs ds ∧
  (∀ f, usedF ds = some f → FErr CN CB CW CY H E f) ∧ (usedF ds = none → ∀ H', KeepX x H H' → Q .non H')
abbrev s_Use_init : Stmt := inClass (top 17) 0
abbrev N_Use_init : List Str := ["self", "names"]
theorem sc_Use_init : FnScope N_Use_init ["self", "names"] (defScope s_Use_init) := ⟨rfl, rfl, rfl, by decide +kernel, rfl, by decide +kernel, by decide +kernel⟩
theorem ok_Use_init {f : Addr} {fd : FuncData} (F : Fun K "__init__" "Use.__init__" s_Use_init f fd) (T : Tx K mg CE CN CB CW CY CD CU CM CO tL tN tU) (hC : ClD K CU) (c_need_used : Cal P w K mg base (L2.CX P w) 4 "need_used" (spNU K CN CB CW CY)) (c_Deed_init : Clf P w K mg base CX0 1 CD "__init__" (spDI K)) :
    FnR P w K mg base (L2.CX P w) 5 f (spUse CN CB CW CY CU) := by
  obtain ⟨oc, od, kV, doc, pm, an, cdv, ct, osl, rfl, lk, hcd⟩ := F.ex
  have R := StX.fn_star (P := P) (w := w) (mg := mg) (base := base) (CX := L2.CX P w) (k := 4) (N := N_Use_init) (ps := ["self"]) (pv := "names")
    (sp := fun vs H Q E => ∃ (x dx p : Addr) (xs : List V) (ds : List PyData), vs = [.ref x, .ref p] ∧ H x = some (.ins CU dx []) ∧ H p = some (.tup xs) ∧ ArgsAt H xs ds ∧ (∀ f, usedF ds = some f → FErr CN CB CW CY H E f) ∧ (usedF ds = none → ∀ H', KeepX x H H' → Q .non H'))
    lk hcd sc_Use_init StX.cxUp (StX.bind_star1 (B := fun us => bindArgs _ ⟨us, []⟩) (fun a => rfl) fun a r rs => rfl) (fun A outer s H vs Q E hr h => ?_)
  · refine R.imp fun vs H Q E h => ?_
    obtain ⟨x, dx, xs, ds, rfl, hx, ha, ke, k⟩ := h
    refine ⟨[.ref x], xs, rfl, rfl, ?_, fun p np => ⟨x, dx, p, xs, ds, rfl, ?_, upd_same, ha.ext (Ext.upd np), fun f hf => (ke f hf).ext (Ext.upd np), fun hu H' hk => k hu H' fun b o q hb => hk b o ?_ hb⟩⟩
    · have := ha.ln
      have h4 : sizeLine = 16777216 := sizeLine_eq
      omega
    · rw [upd_ne (ne_of_none hx np)]; exact hx
    · rw [upd_ne (ne_of_none q np)]; exact q
  · obtain ⟨x, dx, p, xs, ds, rfl, hx, hp, ha, ke, k⟩ := h
    refine ⟨_, (pss_one (ps_expr (pe_clf c_Deed_init (hr.mono (by decide)) (pe_gref (by rfl) T.m_Deed) pass0 (pa_cons (pv 0) (pa_cons (pe_cal c_need_used (hr.mono (by decide)) (by rfl) passC (pa_cons (pv 1) pa_nil)) (pa_cons (pe_tup pa_nil) pa_nil)))))), ?_⟩
    refine ⟨rfl, _, rfl, _, rfl, p, xs, ds, rfl, SqT.of hp, ha, ke, fun hu a H1 e1 h1 => ?_⟩
    refine ⟨(by show 0 ≤ sizeLine; decide), fun t nt => ?_⟩
    refine ⟨x, CU, dx, _, _, rfl, ?_, hC, fun H2 hk => k hu H2 fun b o q hb => hk b o ?_ hb⟩
    · rw [upd_ne (ne_of_none (e1 _ _ hx) nt)]; exact e1 _ _ hx
    · rw [upd_ne (ne_of_none (e1 _ _ q) nt)]; exact e1 _ _ q
/-! ### Make.__init__ -/
def spMake (CN C : Addr) : Sp := fun vs H Q E => ∃ (x dx : Addr) (v : V) (d : PyData), vs = [.ref x, v] ∧ H x = some (.ins C dx []) ∧ TV H v d ∧ SmD d ∧
  (nameOf d = none → Errs CN "value" v H E) ∧ (nameOf d ≠ none → ∀ H', KeepX x H H' → Q .non H')
abbrev s_Make_init : Stmt := inClass (top 18) 0
abbrev N_Make_init : List Str := ["self", "name"]
theorem sc_Make_init : FnScope N_Make_init ["self", "name"] (defScope s_Make_init) := ⟨rfl, rfl, rfl, by decide +kernel, rfl, by decide +kernel, by decide +kernel⟩
theorem ok_Make_init {f : Addr} {fd : FuncData} (F : Fun K "__init__" "Make.__init__" s_Make_init f fd) (T : Tx K mg CE CN CB CW CY CD CU CM CO tL tN tU) (hC : ClD K CM) (c_need_name : Cal P w K mg base (L2.CX P w) 3 "need_name" (spN1 CN)) (c_Deed_init : Clf P w K mg base CX0 1 CD "__init__" (spDI K)) :
    FnOk P w K mg base (L2.CX P w) 5 f fd ["self", "name"] (spMake CN CM) := by
  refine F.okX sc_Make_init (fun vs H Q E h => ?_) (fun cdv A outer s H vs Q E hr h => ?_)
  · obtain ⟨x, dx, v, d, rfl, _⟩ := h
    rfl
  · obtain ⟨x, dx, v, d, rfl, hx, hv, sm, ke, k⟩ := h
    refine ⟨_, (pss_one (ps_expr (pe_clf c_Deed_init (hr.mono (by decide)) (pe_gref (by rfl) T.m_Deed) pass0 (pa_cons (pv 0) (pa_cons (pe_tup pa_nil) (pa_cons (pe_tup (pa_cons (pe_cal c_need_name (hr.mono (by decide)) (by rfl) passC (pa_cons (pv 1) pa_nil)) pa_nil)) pa_nil)))))), ?_⟩
    refine ⟨rfl, _, rfl, (by show 0 ≤ sizeLine; decide), fun t0 n0 => ?_⟩
    have e0 : Ext H (upd H t0 (.tup [])) := Ext.upd n0
    generalize (upd H t0 (.tup [])) = H0 at e0
    refine ⟨_, rfl, v, d, rfl, hv.ext e0, sm, fun hn => (ke hn).ext e0, fun z hz H1 e1 => ?_⟩
    have e01 := e0.trans e1
    refine ⟨(by show 1 ≤ sizeLine; decide), fun t nt => ?_⟩
    refine ⟨x, CM, dx, _, _, rfl, ?_, hC, fun H2 hk => k (by rw [hz]; simp) H2 fun b o q hb => hk b o ?_ hb⟩
    · rw [upd_ne (ne_of_none (e01 _ _ hx) nt)]; exact e01 _ _ hx
    · rw [upd_ne (ne_of_none (e01 _ _ q) nt)]; exact e01 _ _ q
/-! ### Do.__init__ -/
def spDo (CN CB CW CY C : Addr) : Sp := fun vs H Q E => ∃ (x dx : Addr) (v : V) (d : PyData) (xs : List V) (ds : List PyData), vs = .ref x :: v :: xs ∧ H x = some (.ins C dx []) ∧ TV H v d ∧ SmD d ∧ ArgsAt H xs ds ∧
  (nameOf d = none → Errs CN "value" v H E) ∧ (nameOf d ≠ none → ∀ f, usedF ds = some f → ∀ H1, KeepX x H H1 → FErr CN CB CW CY H1 E f) ∧ (nameOf d ≠ none → usedF ds = none → ∀ H', KeepX x H H' → Q .non H')
abbrev s_Do_init : Stmt := inClass (top 19) 0
abbrev N_Do_init : List Str := ["self", "name", "names"]
theorem sc_Do_init : FnScope N_Do_init ["self", "name", "names"] (defScope s_Do_init) := ⟨rfl, rfl, rfl, by decide +kernel, rfl, by decide +kernel, by decide +kernel⟩
theorem ok_Do_init {f : Addr} {fd : FuncData} (F : Fun K "__init__" "Do.__init__" s_Do_init f fd) (T : Tx K mg CE CN CB CW CY CD CU CM CO tL tN tU) (hC : ClD K CO) (c_need_name : Cal P w K mg base (L2.CX P w) 3 "need_name" (spN1 CN)) (c_need_used : Cal P w K mg base (L2.CX P w) 4 "need_used" (spNU K CN CB CW CY)) :
    FnR P w K mg base (L2.CX P w) 5 f (spDo CN CB CW CY CO) := by
  obtain ⟨oc, od, kV, doc, pm, an, cdv, ct, osl, rfl, lk, hcd⟩ := F.ex
  have R := StX.fn_star (P := P) (w := w) (mg := mg) (base := base) (CX := L2.CX P w) (k := 4) (N := N_Do_init) (ps := ["self", "name"]) (pv := "names")
    (sp := fun vs H Q E => ∃ (x dx p : Addr) (v : V) (d : PyData) (xs : List V) (ds : List PyData), vs = [.ref x, v, .ref p] ∧ H x = some (.ins CO dx []) ∧ H p = some (.tup xs) ∧ TV H v d ∧ SmD d ∧ ArgsAt H xs ds ∧
      (nameOf d = none → Errs CN "value" v H E) ∧ (nameOf d ≠ none → ∀ f, usedF ds = some f → ∀ H1, KeepX x H H1 → FErr CN CB CW CY H1 E f) ∧ (nameOf d ≠ none → usedF ds = none → ∀ H', KeepX x H H' → Q .non H'))
    lk hcd sc_Do_init StX.cxUp (StX.bind_star2 (B := fun us => bindArgs _ ⟨us, []⟩) (fun a b => rfl) fun a b r rs => rfl) (fun A outer s H vs Q E hr h => ?_)
  · refine R.imp fun vs H Q E h => ?_
    obtain ⟨x, dx, v, d, xs, ds, rfl, hx, hv, sm, ha, ke, kf, k⟩ := h
    refine ⟨[.ref x, v], xs, rfl, rfl, ?_, fun p np => ⟨x, dx, p, v, d, xs, ds, rfl, ?_, upd_same, hv.ext (Ext.upd np), sm, ha.ext (Ext.upd np), fun hn => (ke hn).ext (Ext.upd np), fun hn f hf H1 hk => kf hn f hf H1 fun b o q hb => hk b o (by rw [upd_ne (ne_of_none q np)]; exact q) hb, fun hn hu H' hk => k hn hu H' fun b o q hb => hk b o ?_ hb⟩⟩
    · have := ha.ln
      have h4 : sizeLine = 16777216 := sizeLine_eq
      omega
    · rw [upd_ne (ne_of_none hx np)]; exact hx
    · rw [upd_ne (ne_of_none q np)]; exact q
  · obtain ⟨x, dx, p, v, d, xs, ds, rfl, hx, hp, hv, sm, ha, ke, kf, k⟩ := h
    refine ⟨_, (pss_cons (ps_fld (pv 0) (pe_tup (pa_cons (pe_cal c_need_name (hr.mono (by decide)) (by rfl) passC (pa_cons (pv 1) pa_nil)) pa_nil)) rfl)
      (pss_one (ps_fld (pv 0) (pe_cal c_need_used (hr.mono (by decide)) (by rfl) passC (pa_cons (pv 2) pa_nil)) rfl))), ?_⟩
    refine ⟨_, rfl, v, d, rfl, hv, sm, ke, fun z hz H1 e1 => ?_⟩
    have hn : nameOf d ≠ none := by rw [hz]; simp
    refine ⟨(by show 1 ≤ sizeLine; decide), fun t nt => ?_⟩
    have e2 : Ext H1 (upd H1 t (.tup [.str z])) := Ext.upd nt
    generalize (upd H1 t (.tup [.str z])) = H2 at e2
    have e02 := e1.trans e2
    refine ⟨_, rfl, x, CO, dx, _, rfl, e02 _ _ hx, hC.cl, hC.nM, (by show 0 < 1000; decide), ?_⟩
    have nxp : p ≠ x := ne_of hp hx (by intro z; cases z)
    have kx : KeepX x H (upd H2 x (.ins CO dx (putF "made_names" (.ref t) []))) := fun b o q hb => by rw [upd_ne hb]; exact e02 b o q
    have ax : ArgsAt (upd H2 x (.ins CO dx (putF "made_names" (.ref t) []))) xs ds := ⟨tvs_upd (e02 _ _ hx) (ha.tv.ext e02), ha.sm, ha.ln⟩
    have hx3 : (upd H2 x (.ins CO dx (putF "made_names" (.ref t) []))) x = some (.ins CO dx (putF "made_names" (.ref t) [])) := upd_same
    have hp3 := kx p _ hp nxp
    generalize (upd H2 x (.ins CO dx (putF "made_names" (.ref t) []))) = H3 at kx ax hx3 hp3
    refine ⟨_, rfl, p, xs, ds, rfl, SqT.of hp3, ax, fun f hf => kf hn f hf H3 kx, fun hu a H4 e4 h4 => ?_⟩
    refine ⟨_, rfl, x, CO, dx, _, rfl, e4 _ _ hx3, hC.cl, hC.nU, (by show 1 < 1000; decide), k hn hu _ fun b o q hb => ?_⟩
    rw [upd_ne hb]
    exact e4 _ _ (kx b o q hb)
end
end K02
end
section
set_option Elab.async false
set_option autoImplicit false
set_option linter.all false
set_option maxRecDepth 100000
set_option maxHeartbeats 4000000
namespace K02
open PySem PySem.Spec PyProof.Rows L2 Ls
open C8 (pss_cut tCut)
open TL
/-! ### rows of words that tell a deed -/
def usedOf (w0 : Str) (r : List Str) : List Str := if w0 = "use" then r else if w0 = "do" then r.drop 1 else []
def rowOk : List Str → Bool
  | [] => false
  | w0 :: r => r.all isName && (!r.isEmpty && (if w0 = "make" then decide (r.length = 1) else (decide (1 ≤ (usedOf w0 r).length) && (decide ((usedOf w0 r).length ≤ 3) && decide (usedOf w0 r).Nodup))))
def readOk : PyData → Bool
  | .str z => rowOk (Txt.split z " ")
  | _ => false
theorem twi_none : ∀ {seen zs : List Str}, twi seen zs = none ↔ zs.Nodup ∧ ∀ z ∈ zs, z ∉ seen
  | seen, [] => by simp [twi]
  | seen, z :: r => by
    show (if z ∈ seen then some z else twi (seen ++ [z]) r) = none ↔ _
    by_cases h : z ∈ seen
    · rw [if_pos h]
      constructor
      · intro q; cases q
      · intro q; exact absurd h (q.2 z (by simp))
    · rw [if_neg h, twi_none, List.nodup_cons]
      constructor
      · rintro ⟨h1, h2⟩
        refine ⟨⟨fun hz => absurd (h2 z hz) (by simp), h1⟩, fun y hy => ?_⟩
        rcases List.mem_cons.mp hy with rfl | hy
        · exact h
        · intro q
          exact h2 y hy (by simp [q])
      · rintro ⟨⟨h1, h2⟩, h3⟩
        refine ⟨h2, fun y hy q => ?_⟩
        rcases List.mem_append.mp q with q | q
        · exact h3 y (by simp [hy]) q
        · rw [List.mem_singleton.mp q] at hy
          exact h1 hy
theorem used_none {zs : List Str} (hn : ∀ z ∈ zs, isName z = true) (hd : zs.Nodup) (h1 : 1 ≤ zs.length) (h3 : zs.length ≤ 3) : usedF (zs.map .str) = none := by
  have hb : badOf (zs.map PyData.str) = none := bad_all fun j d hd => by
    rw [List.getElem?_map] at hd
    obtain ⟨z, hz, rfl⟩ := Option.map_eq_some_iff.mp hd
    rw [nameOf_str (hn z (List.mem_of_getElem? hz))]
    simp
  unfold usedF
  rw [hb]
  show (match twi [] (namesOf (zs.map PyData.str)) with | some z => some (Flt.twice z) | none => _) = _
  rw [names_str zs hn, twi_none.mpr ⟨hd, by simp⟩]
  show (if 3 < (zs.map PyData.str).length then some Flt.many else if zs.map PyData.str = [] then some .deed else none) = none
  rw [List.length_map, if_neg (by omega), if_neg]
  intro e
  have := congrArg List.length e
  rw [List.length_map] at this
  simp at this
  rw [this] at h1
  simp at h1
abbrev kU : Key := Sum.inr "use"
abbrev kM : Key := Sum.inr "make"
abbrev kD : Key := Sum.inr "do"
def firstV (w0 : Str) (n : Int) : Int := if w0 = "use" then 1 else if w0 = "make" then 2 else if w0 = "do" then 2 else n
theorem first_nn {w0 : Str} {n : Int} (h : 0 ≤ n) : 0 ≤ firstV w0 n := by
  unfold firstV
  split
  · decide
  · split
    · decide
    · split
      · decide
      · exact h
theorem first_get (w0 : Str) (n : Int) : (valV [(kU, V.int 1), (kM, .int 2), (kD, .int 2)] (Sum.inr w0)).getD (.int n) = .int (firstV w0 n) := by
  have ne : ∀ {a b : Str}, ¬ b = a → ¬ ((Sum.inr a : Key) = Sum.inr b) := fun h e => h (Sum.inr.inj e).symm
  unfold firstV
  by_cases h1 : w0 = "use"
  · rw [if_pos h1, valV_pos (by rw [h1])]
    rfl
  · rw [if_neg h1, valV_neg (ne h1)]
    by_cases h2 : w0 = "make"
    · rw [if_pos h2, valV_pos (by rw [h2])]
      rfl
    · rw [if_neg h2, valV_neg (ne h2)]
      by_cases h3 : w0 = "do"
      · rw [if_pos h3, valV_pos (by rw [h3])]
        rfl
      · rw [if_neg h3, valV_neg (ne h3), valV_nil]
        rfl
theorem sIx_pos {n d : Nat} {i : Int} (h : 0 ≤ i) : HT.sIx n d (some i) = min i.toNat n := by
  show (if i < 0 then (i + (n : Int)).toNat else min i.toNat n) = _
  rw [if_neg (by omega)]
theorem cutV_to (xs : List V) {i : Int} (h : 0 ≤ i) : cutV xs none (some i) = xs.take i.toNat := by
  unfold cutV
  rw [sIx_pos h, HT.sIx_none, List.drop_zero, Nat.sub_zero]
  rcases Nat.le_total i.toNat xs.length with h1 | h1
  · rw [Nat.min_eq_left h1]
  · rw [Nat.min_eq_right h1, List.take_of_length_le (Nat.le_refl _), List.take_of_length_le h1]
theorem cutV_from (xs : List V) {i : Int} (h : 0 ≤ i) : cutV xs (some i) none = xs.drop i.toNat := by
  unfold cutV
  rw [sIx_pos h, HT.sIx_none]
  rcases Nat.le_total i.toNat xs.length with h1 | h1
  · rw [Nat.min_eq_left h1]
    exact List.take_of_length_le (by rw [List.length_drop]; omega)
  · rw [Nat.min_eq_right h1, List.drop_of_length_le (Nat.le_refl _), List.drop_of_length_le h1]
    simp
theorem cutM_from (ws : List Str) {i : Int} (h : 0 ≤ i) : cutV (ws.map V.str) (some i) none = (ws.drop i.toNat).map V.str := by rw [cutV_from _ h, List.map_drop]
theorem cutM_to (ws : List Str) {i : Int} (h : 0 ≤ i) : cutV (ws.map V.str) none (some i) = (ws.take i.toNat).map V.str := by rw [cutV_to _ h, List.map_take]
theorem used_drop (w0 : Str) (r : List Str) (h : ¬ w0 = "make") : (w0 :: r).drop (firstV w0 (((w0 :: r).length : Nat) + 1)).toNat = usedOf w0 r := by
  unfold firstV usedOf
  by_cases h1 : w0 = "use"
  · rw [if_pos h1, if_pos h1]
    rfl
  · rw [if_neg h1, if_neg h1, if_neg h]
    by_cases h3 : w0 = "do"
    · rw [if_pos h3, if_pos h3]
      rfl
    · rw [if_neg h3, if_neg h3]
      exact List.drop_of_length_le (by omega)
/-- a list of bools that a comprehension has made -/
theorem bools_of {ys : List V} {α : Type} {l : List α} {f : α → Bool} (hl : ys.length = l.length) (h : ∀ (j : Nat) (y : V), ys[j]? = some y → ∃ z, l[j]? = some z ∧ y = .bl (f z)) : ys = (l.map f).map V.bl := by
  refine List.ext_getElem? fun j => ?_
  cases q : ys[j]? with
  | none =>
    have : ys.length ≤ j := List.getElem?_eq_none_iff.mp q
    symm
    rw [List.getElem?_eq_none_iff, List.length_map, List.length_map]
    omega
  | some y =>
    obtain ⟨z, hz, rfl⟩ := h j y q
    rw [List.getElem?_map, List.getElem?_map, hz]
    rfl
section
variable {P : Program} {w : World} {K : PySem.W.Frag} {mg : Str → Option Value} {base : Heap} {CE CN CB CW CY CD CU CM CO : Addr} {tL tN tU : Tok}
/-! ### is_deed_row -/
def spRow : Sp := fun vs H Q _ => ∃ (l : Addr) (ws : List Str), vs = [.ref l] ∧ H l = some (.lst (ws.map V.str)) ∧ ws ≠ [] ∧ ws.length ≤ 2000 ∧ (∀ z ∈ ws, z.length ≤ 1000) ∧ ∀ H', Ext H H' → Q (.bl (rowOk ws)) H'
abbrev s_is_deed_row : Stmt := top 20
abbrev N_is_deed_row : List Str := ["words", "first", "word", "used"]
theorem sc_is_deed_row : FnScope N_is_deed_row ["words"] (defScope s_is_deed_row) := ⟨rfl, rfl, rfl, by decide +kernel, rfl, by decide +kernel, by decide +kernel⟩
theorem ok_drow {f : Addr} {fd : FuncData} (F : Fun K "is_deed_row" "is_deed_row" s_is_deed_row f fd) (T : Tx K mg CE CN CB CW CY CD CU CM CO tL tN tU) (c_is_name : Cal P w K mg base CX0 1 "is_name" spName) : FnOk P w K mg base CX0 2 f fd ["words"] spRow := by
  refine F.ok sc_is_deed_row (fun vs H Q E h => ?_) (fun cdv A outer s H vs Q E hr h => ?_)
  · obtain ⟨l, ws, rfl, _⟩ := h
    rfl
  · obtain ⟨l, ws, rfl, hl, hne, hwl, hws, k⟩ := h
    have hu := hu_of hr
    have h4 : sizeLine = 16777216 := sizeLine_eq
    refine ⟨_, (pss_cons (ps_set (i := 1) sc_is_deed_row.nd rfl (by first | exact Or.inl rfl | exact Or.inr rfl) (pe_dget2 hu (pe_disp (pps_cons pe_str pe_int (pps_cons pe_str pe_int (pps_cons pe_str pe_int pps_nil))) (by rfl) (by rfl) (fun z => by cases z) (by decide)) (pe_ix ix_list (pv 0) pe_int (fun _ _ => rfl)) (pe_op op_add (pe_callB call_len_seq (by rfl) (T.bn _ (by decide +kernel)) (by decide +kernel) (pa_cons (pv 0) pa_nil)) pe_int) (by constructor <;> rfl)))
      (pss_cons (ps_if ((pw_or (pt_not (pt_val (pe_callB (cr_all rfl) (by rfl) (T.bn _ (by decide +kernel)) (by decide +kernel) (pa_cons (pe_lc (own := [("word", 2)]) rfl sc_is_deed_row.nd (pi_list (pe_slice sl_list (pv 0) (po_some pe_int) po_none)) (blkOk_by (own := [("word", 2)]) (N := N_is_deed_row) (sc := defScope s_is_deed_row) (by decide +kernel)) (fun _ _ _ _ _ => (pg_name (i := 2) sc_is_deed_row.nd rfl (by first | exact Or.inl rfl | exact Or.inr rfl))) (fun _ _ _ _ _ => pts_nil) (fun _ _ _ _ _ => (pe_cal c_is_name (hr.mono (by decide)) (by rfl) pass0 (pa_cons (pv 2) pa_nil)))) pa_nil)))) (pw_or1 (pt_cmpR op_lt (pe_callB call_len_seq (by rfl) (T.bn _ (by decide +kernel)) (by decide +kernel) (pa_cons (pv 0) pa_nil)) pe_int (nomark _))))).pt (pss_one (ps_ret pe_bl)) pss_nil)
      (pss_cons (ps_if (pt_cmpR op_eq (pe_ix ix_list (pv 0) pe_int (fun _ _ => rfl)) pe_str (nomark _)) (pss_one (ps_ret (pe_cmpR op_eq (pe_callB call_len_seq (by rfl) (T.bn _ (by decide +kernel)) (by decide +kernel) (pa_cons (pv 0) pa_nil)) (pv 1) (nomark _)))) pss_nil)
      (pss_cons (ps_set (i := 3) sc_is_deed_row.nd rfl (by first | exact Or.inl rfl | exact Or.inr rfl) (pe_slice sl_list (pv 0) (po_some (pv 1)) po_none))
      (pss_one (ps_ret (pe_and (pe_chain op_le op_le pe_int (pe_callB call_len_seq (by rfl) (T.bn _ (by decide +kernel)) (by decide +kernel) (pa_cons (pv 3) pa_nil)) (pe_gint (by rfl) T.m_MOST_USED)) (pe_one (pe_callB (cr_all rfl) (by rfl) (T.bn _ (by decide +kernel)) (by decide +kernel) (pa_cons (pe_lc (own := [("word", 2)]) rfl sc_is_deed_row.nd (pi_list (pv 3)) (blkOk_by (own := [("word", 2)]) (N := N_is_deed_row) (sc := defScope s_is_deed_row) (by decide +kernel)) (fun _ _ _ _ _ => (pg_name (i := 2) sc_is_deed_row.nd rfl (by first | exact Or.inl rfl | exact Or.inr rfl))) (fun _ _ _ _ _ => pts_nil) (fun _ _ _ _ _ => (pe_cmpR op_eq (pe_countK (K := K) rfl (pv 3) (pa_cons (pv 2) pa_nil)) pe_int (nomark _)))) pa_nil)))))))))), ?_⟩
    obtain ⟨w0, r, rfl⟩ : ∃ w0 r, ws = w0 :: r := by
      cases ws with
      | nil => exact absurd rfl hne
      | cons a b => exact ⟨a, b, rfl⟩
    have lm : ((w0 :: r).map V.str).length = r.length + 1 := by simp
    intro p np
    refine ⟨upd_same, [(kU, .int 1), (kM, .int 2), (kD, .int 2)], rfl, by show 3 ≤ 15; decide, ?_⟩
    rw [upd_upd, show mergeK [] [(kU, V.int 1), (kM, .int 2), (kD, .int 2)] = [(kU, V.int 1), (kM, .int 2), (kD, .int 2)] from by kernel_rfl]
    have e1 : Ext H (upd H p (.dK [(kU, V.int 1), (kM, .int 2), (kD, .int 2)])) := Ext.upd np
    have f1 : (upd H p (.dK [(kU, V.int 1), (kM, .int 2), (kD, .int 2)])) p = some (.dK [(kU, V.int 1), (kM, .int 2), (kD, .int 2)]) := upd_same
    generalize (upd H p (.dK [(kU, V.int 1), (kM, .int 2), (kD, .int 2)])) = H1 at e1 f1
    have hl1 := e1 _ _ hl
    refine ⟨p, rfl, .inl ⟨_, .inl f1⟩, _, rfl, l, _, 0, .str w0, rfl, rfl, SqL.of hl1, atI_nat (j := 0) rfl, _, rfl, l, _, rfl, .inl (SqL.of hl1), _, _, rfl, rfl, _, DGet.k (k := Sum.inr w0) f1, ?_⟩
    rw [first_get]
    -- the names
    refine ⟨_, rfl, 1, rfl, l, _, rfl, SqL.of hl1, fun q nq => ?_⟩
    rw [cutM_from _ (show (0 : Int) ≤ 1 by decide)]
    show _
    have e2 : Ext H1 (upd H1 q (.lst (r.map V.str))) := Ext.upd nq
    have f2 : (upd H1 q (.lst (r.map V.str))) q = some (.lst (r.map V.str)) := upd_same
    have hdr : ((w0 :: r).drop (1 : Int).toNat) = r := rfl
    rw [hdr]
    generalize (upd H1 q (.lst (r.map V.str))) = H2 at e2 f2
    have e02 := e1.trans e2
    have hl2 := e02 _ _ hl
    refine ⟨q, rfl, ⟨_, SqL.of f2⟩, fun D hD => ?_⟩
    have nqD : q ≠ D := ne_of_none f2 hD
    refine lc_map (walk_list (xs := r.map V.str)) [D] (by simp) (fun H' => Ext H2 H') (fun j y _ => ∃ z, r[j]? = some z ∧ y = .bl (isName z)) (by rw [List.length_map]; simp at hwl; omega) (fun _ _ _ _ _ h => h)
      (fun H' o hh b o' z => by rw [upd_ne (ne_of_none z hD)]; exact hh b o' z) (Ext.upd hD) (fun H' _ hh => SqL.of (hh _ _ f2)) ?_ ?_
    · rintro j x H3 _ acc C hj e hh hD3 ⟨rfl, hx⟩ hC
      rw [List.getElem?_map] at hx
      obtain ⟨z, hz, rfl⟩ := Option.map_eq_some_iff.mp hx
      have hzl : z.length ≤ 1000 := hws z (List.mem_cons_of_mem _ (List.mem_of_getElem? hz))
      refine ⟨rfl, _, rfl, _, .str z, rfl, .str z, fun y ey => by cases ey; exact hzl, fun H4 e4 => ?_⟩
      have en : (nameOf (.str z)).isSome = isName z := by
        cases hn : isName z with
        | true => rw [nameOf_str hn]; rfl
        | false => rw [nameOf_no hn]; rfl
      rw [en]
      exact hC _ _ (e4 _ _ hD3) (hid_mono e4) (hh.trans e4) ⟨z, hz, rfl⟩
    · intro H3 ys e hh hD3 hlen hy
      rw [List.length_map] at hlen
      have hys := bools_of (f := isName) hlen hy
      subst hys
      refine ⟨D, _, rfl, SqL.of hD3, _, rfl, ?_⟩
      have hal : ((r.map isName).all id) = r.all isName := by rw [List.all_map]; rfl
      rw [hal]
      have e03 := e02.trans hh
      have hl3 := hh _ _ hl2
      have no : rowOk (w0 :: r) = false → Q (.bl false) H3 := fun h => by
        have := k H3 e03
        rw [h] at this
        exact this
      cases ha : r.all isName with
      | false =>
        refine iteT ?_
        refine no ?_
        show (r.all isName && _) = false
        rw [ha]
        rfl
      | true =>
        refine iteF ?_
        refine ⟨_, rfl, l, _, rfl, .inl (SqL.of hl3), _, _, rfl, rfl, _, rfl, ?_⟩
        cases hr0 : r with
        | nil =>
          subst hr0
          refine iteYes (decide_eq_true (by show ((1 : Nat) : Int) < 2; decide)) ?_
          exact no rfl
        | cons r1 r2 =>
          have hemp : (!r.isEmpty) = true := by rw [hr0]; rfl
          have hrl : 1 ≤ r.length := by rw [hr0]; simp
          have hro : rowOk (w0 :: r) = (if w0 = "make" then decide (r.length = 1) else (decide (1 ≤ (usedOf w0 r).length) && (decide ((usedOf w0 r).length ≤ 3) && decide (usedOf w0 r).Nodup))) := by
            show (r.all isName && (!r.isEmpty && _)) = _
            rw [ha, hemp, Bool.true_and, Bool.true_and]
          rw [← hr0]
          clear hr0
          refine iteNo (decide_eq_false (by rw [lm]; omega)) ?_
          refine ⟨_, rfl, l, _, 0, .str w0, rfl, rfl, SqL.of hl3, atI_nat (j := 0) rfl, rfl, _, rfl, ?_⟩
          by_cases hm : w0 = "make"
          · refine iteYes (by rw [hm]; exact decide_eq_true rfl) ?_
            refine ⟨_, rfl, l, _, rfl, .inl (SqL.of hl3), _, rfl, rfl, ?_⟩
            have ef : firstV w0 (((w0 :: r).map V.str).length + 1) = 2 := by rw [hm]; rfl
            have eb : decide (V.int ((w0 :: r).map V.str).length = V.int (firstV w0 (((w0 :: r).map V.str).length + 1))) = rowOk (w0 :: r) := by
              rw [hro, if_pos hm, ef, lm]
              by_cases h1 : r.length = 1
              · rw [h1]
                rfl
              · rw [decide_eq_false h1]
                exact decide_eq_false fun q => h1 (by have := V.int.inj q; omega)
            rw [eb]
            exact k H3 e03
          · refine iteNo (strNo hm) ?_
            rw [if_neg hm] at hro
            have hfv : 0 ≤ firstV w0 (((w0 :: r).map V.str).length + 1) := first_nn (by omega)
            refine ⟨_, rfl, _, rfl, _, rfl, l, _, rfl, SqL.of hl3, fun t nt => ?_⟩
            rw [cutM_from _ hfv, show (w0 :: r).drop (firstV w0 (((w0 :: r).map V.str).length + 1)).toNat = usedOf w0 r from by rw [List.length_map]; exact used_drop w0 r hm]
            have e4 : Ext H3 (upd H3 t (.lst ((usedOf w0 r).map V.str))) := Ext.upd nt
            have f4 : (upd H3 t (.lst ((usedOf w0 r).map V.str))) t = some (.lst ((usedOf w0 r).map V.str)) := upd_same
            generalize (upd H3 t (.lst ((usedOf w0 r).map V.str))) = H4 at e4 f4
            generalize usedOf w0 r = us at f4 hro
            have e04 := e03.trans e4
            have lu : (us.map V.str).length = us.length := List.length_map _
            have no4 : rowOk (w0 :: r) = false → Q (.bl false) H4 := fun h => by
              have := k H4 e04
              rw [h] at this
              exact this
            refine ⟨_, rfl, t, _, rfl, .inl (SqL.of f4), _, _, rfl, rfl, ?_⟩
            by_cases h1 : 1 ≤ us.length
            · refine ⟨true, by simp; omega, ?_⟩
              refine iteT ?_
              refine ⟨_, _, rfl, rfl, ?_⟩
              by_cases h3 : us.length ≤ 3
              · refine ⟨true, by simp; omega, ?_⟩
                refine iteT ?_
                have hro2 : rowOk (w0 :: r) = decide us.Nodup := by rw [hro, decide_eq_true h1, decide_eq_true h3, Bool.true_and, Bool.true_and]
                refine ⟨_, rfl, t, rfl, ⟨_, SqL.of f4⟩, fun D2 hD2 => ?_⟩
                refine lc_map (walk_list (xs := us.map V.str)) [D2] (by simp) (fun H' => Ext H4 H') (fun j y _ => ∃ z, us[j]? = some z ∧ y = .bl (us.count z == 1)) (by omega) (fun _ _ _ _ _ h => h)
                  (fun H' o hh b o' z => by rw [upd_ne (ne_of_none z hD2)]; exact hh b o' z) (Ext.upd hD2) (fun H' _ hh => SqL.of (hh _ _ f4)) ?_ ?_
                · rintro j x H5 _ acc C hj e hh5 hD5 ⟨rfl, hx⟩ hC
                  rw [List.getElem?_map] at hx
                  obtain ⟨z, hz, rfl⟩ := Option.map_eq_some_iff.mp hx
                  refine ⟨rfl, _, rfl, .inl ⟨rfl, _, SqL.of (hh5 _ _ f4)⟩, _, rfl, t, _, _, rfl, rfl, SqL.of (hh5 _ _ f4), rfl, flat_strs _, rfl, ?_⟩
                  refine hC _ _ hD5 Ext.rfl' hh5 ⟨z, hz, ?_⟩
                  rw [count_strs]
                  congr 1
                  by_cases hc : us.count z = 1
                  · rw [hc]
                    rfl
                  · rw [show (us.count z == 1) = false from beq_eq_false_iff_ne.mpr hc]
                    exact decide_eq_false fun q => hc (by have := V.int.inj q; omega)
                · intro H5 zs e hh5 hD5 hlen5 hy5
                  rw [lu] at hlen5
                  have hzs := bools_of (f := fun z => us.count z == 1) hlen5 hy5
                  subst hzs
                  refine ⟨D2, _, rfl, SqL.of hD5, ?_⟩
                  have ea : ((us.map fun z => us.count z == 1).all id) = rowOk (w0 :: r) := by
                    rw [List.all_map, hro2]
                    show (us.all fun z => us.count z == 1) = decide us.Nodup
                    by_cases hd : us.Nodup
                    · rw [decide_eq_true hd]; exact once_iff.mpr hd
                    · rw [decide_eq_false hd]
                      cases q : (us.all fun z => us.count z == 1) with
                      | false => rfl
                      | true => exact absurd (once_iff.mp q) hd
                  rw [ea]
                  exact k H5 (e04.trans hh5)
              · refine ⟨false, by simp; omega, ?_⟩
                refine iteF ?_
                exact no4 (by rw [hro, decide_eq_false h3, Bool.false_and, Bool.and_false])
            · refine ⟨false, by simp; omega, ?_⟩
              refine iteF ?_
              refine ⟨false, rfl, ?_⟩
              refine iteF ?_
              exact no4 (by rw [hro, decide_eq_false h1, Bool.false_and])
/-! ### Deed.read -/
theorem row_parts {w0 : Str} {r : List Str} (h : rowOk (w0 :: r) = true) : (∀ z ∈ r, isName z = true) ∧ r ≠ [] ∧ ((w0 = "make" ∧ r.length = 1) ∨ (¬ w0 = "make" ∧ 1 ≤ (usedOf w0 r).length ∧ (usedOf w0 r).length ≤ 3 ∧ (usedOf w0 r).Nodup)) := by
  have h : (r.all isName && (!r.isEmpty && (if w0 = "make" then decide (r.length = 1) else (decide (1 ≤ (usedOf w0 r).length) && (decide ((usedOf w0 r).length ≤ 3) && decide (usedOf w0 r).Nodup))))) = true := h
  rw [Bool.and_eq_true, Bool.and_eq_true] at h
  obtain ⟨h1, h2, h3⟩ := h
  refine ⟨List.all_eq_true.mp h1, fun e => (by rw [e] at h2; cases h2), ?_⟩
  by_cases hm : w0 = "make"
  · rw [if_pos hm] at h3
    exact .inl ⟨hm, of_decide_eq_true h3⟩
  · rw [if_neg hm, Bool.and_eq_true, Bool.and_eq_true] at h3
    exact .inr ⟨hm, of_decide_eq_true h3.1, of_decide_eq_true h3.2.1, of_decide_eq_true h3.2.2⟩
theorem args_strs {H : Hp} {zs : List Str} (h : ∀ z ∈ zs, isName z = true) (hl : zs.length ≤ 100) : ArgsAt H (zs.map V.str) (zs.map .str) := by
  refine ⟨?_, fun d hd => ?_, by rw [List.length_map]; exact hl⟩
  · induction zs with
    | nil => exact .nil
    | cons z r ih => exact .cons (.str z) (ih (fun y hy => h y (List.mem_cons_of_mem _ hy)) (by simp at hl; omega))
  · obtain ⟨z, hz, rfl⟩ := List.mem_map.mp hd
    intro y e
    cases e
    exact Nat.le_trans (name_len (h z hz)).2 (by decide)
theorem mk_ext {H H2 : Hp} {x dx C : Addr} (nx : H x = none) (ndx : H dx = none) (hk : KeepX x (upd (upd H dx (.own x)) x (.ins C dx [])) H2) : Ext H H2 := fun b o q => hk b o (by rw [upd_ne (ne_of_none q nx), upd_ne (ne_of_none q ndx)]; exact q) (ne_of_none q nx)
theorem mk_in {H : Hp} {x dx C : Addr} (nx : H x = none) (ndx : H dx = none) : Ext H (upd (upd H dx (.own x)) x (.ins C dx [])) := fun b o q => by
  rw [upd_ne (ne_of_none q nx), upd_ne (ne_of_none q ndx)]
  exact q
def spRead (CB : Addr) : Sp := fun vs H Q E => ∃ (c v : V) (d : PyData), vs = [c, v] ∧ TV H v d ∧ SmD d ∧ (readOk d = true → ∀ a H', Ext H H' → Q (.ref a) H') ∧ (readOk d = false → Errs CB "value" v H E)
abbrev s_Deed_read : Stmt := inClass (top 16) 6
abbrev N_Deed_read : List Str := ["cls", "text", "words", "rest"]
theorem sc_Deed_read : FnScope N_Deed_read ["cls", "text"] (defScope s_Deed_read) := ⟨rfl, rfl, rfl, by decide +kernel, rfl, by decide +kernel, by decide +kernel⟩
theorem ok_read {f : Addr} {fd : FuncData} (F : Fun K "read" "Deed.read" s_Deed_read f fd) (T : Tx K mg CE CN CB CW CY CD CU CM CO tL tN tU) (c_is_deed_row : Cal P w K mg base CX0 2 "is_deed_row" spRow) (x_BadDeed : Xer P w K mg base CB "BadDeed" ["value"])
    (c_Use : Mkc P w K mg base (L2.CX P w) 5 CU "Use" (spUse CN CB CW CY CU)) (c_Make : Mkc P w K mg base (L2.CX P w) 5 CM "Make" (spMake CN CM)) (c_Do : Mkc P w K mg base (L2.CX P w) 5 CO "Do" (spDo CN CB CW CY CO)) :
    FnOk P w K mg base (L2.CX P w) 7 f fd ["cls", "text"] (spRead CB) := by
  refine F.okX sc_Deed_read (fun vs H Q E h => ?_) (fun cdv A outer s H vs Q E hr h => ?_)
  · obtain ⟨c, v, d, rfl, _⟩ := h
    rfl
  · obtain ⟨c, v, d, rfl, hv, sm, k, ke⟩ := h
    have h4 : sizeLine = 16777216 := sizeLine_eq
    refine ⟨_, (pss_cons (ps_set (i := 2) sc_Deed_read.nd rfl (by first | exact Or.inl rfl | exact Or.inr rfl) (pe_ifExp (pt_val (pe_callB call_isi (by rfl) (T.bn _ (by decide +kernel)) (by decide +kernel) (pa_cons (pv 1) (pa_cons (pe_gty (T := "str") (by rfl) (T.bn _ (by decide +kernel)) (by decide +kernel)) pa_nil)))) (pe_split (pv 1) pe_str) (pe_lst (pa_cons pe_str pa_nil))))
      (pss_cons (ps_if (pt_not (pt_val (pe_cal c_is_deed_row (hr.mono (by decide)) (by rfl) pass0 (pa_cons (pv 2) pa_nil)))) (pss_one (ps_raise rfl tkC (pmk_err x_BadDeed (hr.mono (by decide)) (by rfl) (pa_cons (pv 1) pa_nil)))) pss_nil)
      (pss_cons (ps_set (i := 3) sc_Deed_read.nd rfl (by first | exact Or.inl rfl | exact Or.inr rfl) (pe_slice sl_list (pv 2) (po_some pe_int) po_none))
      (pss_cons (ps_if (pt_cmpR op_eq (pe_ix ix_list (pv 2) pe_int (fun _ _ => rfl)) pe_str (nomark _)) (pss_one (ps_ret (pe_mkc c_Make (hr.mono (by decide)) (by rfl) passC (pa_cons (pe_ix ix_list (pv 3) pe_int (fun _ _ => rfl)) pa_nil)))) pss_nil)
      (pss_one (ps_ret (pe_ifExp (pt_cmpR op_eq (pe_ix ix_list (pv 2) pe_int (fun _ _ => rfl)) pe_str (nomark _)) (pe_mkS c_Use (hr.mono (by decide)) (by rfl) passC (pv 3)) (pe_mkS c_Do (hr.mono (by decide)) (by rfl) passC (pv 3))))))))), ?_⟩
    refine ⟨_, rfl, _, _, _, _, isStrD d, rfl, .ty "str", tyX_of hv, kit_str d, _, rfl, ?_⟩
    cases hd : isStrD d with
    | false =>
      refine iteF ?_
      refine ⟨(by show 1 ≤ sizeLine; decide), fun l nl => ?_⟩
      have hn : readOk d = false := by cases d <;> first | rfl | cases hd
      refine ⟨_, rfl, l, [""], rfl, upd_same, by simp, by simp, by decide +kernel, fun H1 e1 => ⟨_, rfl, ?_⟩⟩
      refine iteYes (by rfl) ?_
      exact ⟨_, rfl, rfl, (by show 1 ≤ 1000; decide), fun dd nd => (ke hn).at ((Ext.upd nl).trans e1) nd⟩
    | true =>
      refine iteT ?_
      obtain ⟨z, rfl⟩ := strD hd
      cases tv_str hv
      have hz : z.length ≤ 1000 := sm z rfl
      refine ⟨_, rfl, ⟨_, rfl⟩, _, _, rfl, rfl, (by decide +kernel), by omega, fun l nl => ?_⟩
      have hro : readOk (.str z) = rowOk (Txt.split z " ") := rfl
      have hsub : ∀ p ∈ Txt.split z " ", p.length ≤ 1000 := fun p hp => Nat.le_trans (split_sub (x := z) sp_tl sp_kd hp).1 hz
      have hne : Txt.split z " " ≠ [] := split_ne sp_tl sp_kd
      have hcnt : (Txt.split z " ").length ≤ 1001 := Nat.le_trans (split_len sp_tl sp_kd) (by omega)
      generalize Txt.split z " " = ws at hro hsub hne hcnt
      have e1 : Ext H (upd H l (.lst (ws.map V.str))) := Ext.upd nl
      have f1 : (upd H l (.lst (ws.map V.str))) l = some (.lst (ws.map V.str)) := upd_same
      generalize (upd H l (.lst (ws.map V.str))) = H1 at e1 f1
      refine ⟨_, rfl, l, ws, rfl, f1, hne, by omega, hsub, fun H2 e2 => ⟨_, rfl, ?_⟩⟩
      have e02 := e1.trans e2
      have f2 := e2 _ _ f1
      cases hr0 : rowOk ws with
      | false =>
        refine iteT ?_
        exact ⟨_, rfl, rfl, (by show 1 ≤ 1000; decide), fun dd nd => (ke (by rw [hro]; exact hr0)).at e02 nd⟩
      | true =>
        refine iteF ?_
        obtain ⟨w0, r, rfl⟩ : ∃ w0 r, ws = w0 :: r := by
          cases ws with
          | nil => exact absurd rfl hne
          | cons a b => exact ⟨a, b, rfl⟩
        obtain ⟨hn, hre, hc⟩ := row_parts hr0
        have k' : ∀ a H', Ext H H' → Q (.ref a) H' := k (by rw [hro]; exact hr0)
        refine ⟨_, rfl, 1, rfl, l, _, rfl, SqL.of f2, fun q nq => ?_⟩
        rw [cutM_from _ (show (0 : Int) ≤ 1 by decide), show (w0 :: r).drop (1 : Int).toNat = r from rfl]
        have e3 : Ext H2 (upd H2 q (.lst (r.map V.str))) := Ext.upd nq
        have f3 : (upd H2 q (.lst (r.map V.str))) q = some (.lst (r.map V.str)) := upd_same
        generalize (upd H2 q (.lst (r.map V.str))) = H3 at e3 f3
        have e03 := e02.trans e3
        have g3 := e3 _ _ f2
        refine ⟨_, rfl, l, _, 0, .str w0, rfl, rfl, SqL.of g3, atI_nat (j := 0) rfl, rfl, _, rfl, ?_⟩
        rcases hc with ⟨hm, hl1⟩ | ⟨hm, u1, u3, und⟩
        · refine iteYes (by rw [hm]; exact decide_eq_true rfl) ?_
          obtain ⟨n, rfl⟩ : ∃ n, r = [n] := by
            match r, hl1 with
            | [n], _ => exact ⟨n, rfl⟩
          have hnn := hn n (by simp)
          refine ⟨_, rfl, q, _, 0, .str n, rfl, rfl, SqL.of f3, atI_nat (j := 0) rfl, fun x dx nx ndx ne => ?_⟩
          refine ⟨x, dx, .str n, .str n, rfl, upd_same, .str n, fun y e => by cases e; exact Nat.le_trans (name_len hnn).2 (by decide), fun hno => (by rw [nameOf_str hnn] at hno; cases hno), fun _ H4 hk => ⟨rfl, k' x H4 (e03.trans (mk_ext nx ndx hk))⟩⟩
        · refine iteNo (strNo hm) ?_
          refine ⟨_, rfl, l, _, 0, .str w0, rfl, rfl, SqL.of g3, atI_nat (j := 0) rfl, rfl, _, rfl, ?_⟩
          by_cases hus : w0 = "use"
          · refine iteYes (by rw [hus]; exact decide_eq_true rfl) ?_
            have hr' : usedOf w0 r = r := if_pos hus
            rw [hr'] at u1 u3 und
            refine ⟨_, rfl, q, _, rfl, .inr (SqL.of f3), fun x dx nx ndx ne => ?_⟩
            refine ⟨x, dx, r.map V.str, r.map .str, rfl, upd_same, args_strs hn (by omega), fun f hf => (by rw [used_none hn und u1 u3] at hf; cases hf), fun _ H4 hk => ⟨rfl, k' x H4 (e03.trans (mk_ext nx ndx hk))⟩⟩
          · refine iteNo (strNo hus) ?_
            have hdo : w0 = "do" := Classical.byContradiction fun hdo => by
              have : usedOf w0 r = [] := by unfold usedOf; rw [if_neg hus, if_neg hdo]
              rw [this] at u1
              simp at u1
            have hr' : usedOf w0 r = r.drop 1 := by unfold usedOf; rw [if_neg hus, if_pos hdo]
            rw [hr'] at u1 u3 und
            obtain ⟨m, us, rfl⟩ : ∃ m us, r = m :: us := by
              cases r with
              | nil => exact absurd rfl hre
              | cons a b => exact ⟨a, b, rfl⟩
            have hmn := hn m (by simp)
            have hun : ∀ z ∈ us, isName z = true := fun z hz => hn z (List.mem_cons_of_mem _ hz)
            refine ⟨_, rfl, q, _, rfl, .inr (SqL.of f3), fun x dx nx ndx ne => ?_⟩
            refine ⟨x, dx, .str m, .str m, us.map V.str, us.map .str, rfl, upd_same, .str m, fun y e => by cases e; exact Nat.le_trans (name_len hmn).2 (by decide), args_strs hun (by simp at u3; omega), fun hno => (by rw [nameOf_str hmn] at hno; cases hno), fun _ f hf => (by rw [used_none hun und u1 u3] at hf; cases hf), fun _ _ H4 hk => ⟨rfl, k' x H4 (e03.trans (mk_ext nx ndx hk))⟩⟩
end
end K02
end
section
set_option Elab.async false
set_option autoImplicit false
set_option linter.all false
set_option maxRecDepth 100000
set_option maxHeartbeats 4000000
namespace K02
open PySem PySem.Spec PyProof.Rows L2 Ls
open C8 (pss_cut tCut)
open TL
/-! ### _law_heard -/
/-- what the top says of an error class at C, over StowError's at CE; which of the four it is; the field that it keeps -/
structure ErrT (K : PySem.W.Frag) (CE CN CW CY CB C : Addr) (f : Str) (bn bw by_ bb : Bool) : Prop where
  exm : PySem.W.exmOne K (.ref C) (.ref CE) = some true
  ec : ExcC K C
  ve : PySem.W.kitOne K (.ref C) (.type "ValueError") = some true
  kn : PySem.W.kitOne K (.ref C) (.ref CN) = some bn
  kw : PySem.W.kitOne K (.ref C) (.ref CW) = some bw
  ky : PySem.W.kitOne K (.ref C) (.ref CY) = some by_
  kb : PySem.W.kitOne K (.ref C) (.ref CB) = some bb
  xf : XfC K C
  no : PySem.W.findIn K (.ref C) f = some none
/-- which class keeps which field, and the law's word for it -/
def Way (CN CW CY CB C : Addr) (f wd : Str) : Prop := (C = CN ∧ f = "value" ∧ wd = "name") ∨ (C = CW ∧ f = "name" ∧ wd = "twice") ∨ (C = CY ∧ f = "most" ∧ wd = "many") ∨ (C = CB ∧ f = "value" ∧ wd = "deed")
def HeardE (CN CW CY CB : Addr) (Q : VK) : XK := fun cls d H' => ∃ (C dd : Addr) (v : V) (f wd : Str), cls = .ref C ∧ d = some dd ∧ H' dd = some (.xd [(f, v)]) ∧ Way CN CW CY CB C f wd ∧ ∀ p H2, Ext H' H2 → nw H' H2 p = some (.tup [.str wd, v]) → Q (.ref p) H2
def HeardV (Q : VK) : VK := fun _ H1 => ∀ H2, Ext H1 H2 → Q .non H2
def TTh (CN CW CY CB : Addr) : (XK → Hp → VK → Prop) → Hp → VK → Prop := fun tl H Q => ∀ (E' : XK) (Q' : VK), (∀ cls d H', HeardE CN CW CY CB Q cls d H' → E' cls d H') → (∀ v H1, HeardV Q v H1 → Q' v H1) → tl E' H Q'
section
variable {P : Program} {w : World} {K : PySem.W.Frag} {mg : Str → Option Value} {base : Heap} {CE CN CB CW CY CD CU CM CO : Addr} {tL tN tU : Tok}
abbrev s__law_heard : Stmt := top 25
abbrev N__law_heard : List Str := ["_law_ask", "_law_caught", "error", "_law_kinds"]
theorem sc__law_heard : FnScope N__law_heard ["_law_ask"] (defScope s__law_heard) := ⟨rfl, rfl, rfl, by decide +kernel, rfl, by decide +kernel, by decide +kernel⟩
theorem heard_gives {A : Around} {stack : List Env} {g : Addr} {cdv : Value} {q : Str} (T : Tx K mg CE CN CB CW CY CD CU CM CO tL tN tU) (eN : ErrT K CE CN CW CY CB CN "value" true false false false) (eW : ErrT K CE CN CW CY CB CW "name" false true false false) (eY : ErrT K CE CN CW CY CB CY "most" false false true false) (eB : ErrT K CE CN CW CY CB CB "value" false false false true) :
    GivesP P w K mg base A stack N__law_heard "_law_heard" (defScope s__law_heard) g cdv (defBody s__law_heard) "_law_ask" q (TTh CN CW CY CB) := by
  intro f c' s H Q tl act hc h
  refine ⟨_, (pss_cons (ps_set (i := 1) sc__law_heard.nd rfl (by first | exact Or.inl rfl | exact Or.inr rfl) pe_non)
      (pss_cons (ps_try_ask (i := 2) rfl rfl sc__law_heard.nd rfl rfl ⟨by rfl, by decide, .inl T.m_StowError⟩ LamX.takes0 rfl (fun W pn xe tk _ => (pss_one (ps_expr (act W pn xe _ _ tk))))
      (fun a pn => (pss_one (ps_set (i := 1) sc__law_heard.nd rfl (by first | exact Or.inl rfl | exact Or.inr rfl) (pv 2)))))
      (pss_cons (ps_if (pt_cmpR op_isN (pv 1) pe_non (nomark _)) (pss_one (ps_ret pe_non)) pss_nil)
      (pss_cons (ps_set (i := 3) sc__law_heard.nd rfl (by first | exact Or.inl rfl | exact Or.inr rfl) (pe_lst (pa_cons (pe_callB call_isX (by rfl) (T.bn _ (by decide +kernel)) (by decide +kernel) (pa_cons (pv 1) (pa_cons (pe_gref (by rfl) T.m_BadName) pa_nil))) (pa_cons (pe_callB call_isX (by rfl) (T.bn _ (by decide +kernel)) (by decide +kernel) (pa_cons (pv 1) (pa_cons (pe_gref (by rfl) T.m_Twice) pa_nil))) (pa_cons (pe_callB call_isX (by rfl) (T.bn _ (by decide +kernel)) (by decide +kernel) (pa_cons (pv 1) (pa_cons (pe_gref (by rfl) T.m_TooMany) pa_nil))) pa_nil)))))
      (pss_cons (ps_if ((pw_or (pt_cmpR op_ne (pe_op op_add (pe_bm PySem.F.plainAttrs_list PySem.F.slot_list_count PySem.F.type_list_count mt_countF (pv 3) (pa_cons pe_bl pa_nil)) (pe_callTy call_int1 (by rfl) (T.bn _ (by decide +kernel)) (by decide +kernel) (pa_cons (pe_callB call_isX (by rfl) (T.bn _ (by decide +kernel)) (by decide +kernel) (pa_cons (pv 1) (pa_cons (pe_gref (by rfl) T.m_BadDeed) pa_nil))) pa_nil))) pe_int (nomark _)) (pw_or1 (pt_not (pt_val (pe_callB call_isX (by rfl) (T.bn _ (by decide +kernel)) (by decide +kernel) (pa_cons (pv 1) (pa_cons (pe_gty (T := "ValueError") (by rfl) (T.bn _ (by decide +kernel)) (by decide +kernel)) pa_nil)))))))).pt (pss_one (ps_ret (pe_tup (pa_cons pe_str (pa_cons pe_non pa_nil))))) pss_nil)
      (pss_cons (ps_if (pt_val (pe_ix ix_list (pv 3) pe_int (fun _ _ => rfl))) (pss_one (ps_ret (pe_tup (pa_cons pe_str (pa_cons (pe_xk (pv 1)) pa_nil))))) pss_nil)
      (pss_cons (ps_if (pt_val (pe_ix ix_list (pv 3) pe_int (fun _ _ => rfl))) (pss_one (ps_ret (pe_tup (pa_cons pe_str (pa_cons (pe_xk (pv 1)) pa_nil))))) pss_nil)
      (pss_one (ps_ret (pe_ifExp (pt_val (pe_ix ix_list (pv 3) pe_int (fun _ _ => rfl))) (pe_tup (pa_cons pe_str (pa_cons (pe_xk (pv 1)) pa_nil))) (pe_tup (pa_cons pe_str (pa_cons (pe_xk (pv 1)) pa_nil))))))))))))), ?_⟩
  refine ⟨rfl, hc, h _ _ (fun cls d H' he => ?_) (fun v H1 hv => ?_)⟩
  · obtain ⟨C, dd, v, fl, wd, rfl, rfl, hdd, hC, k⟩ := he
    have eC : PySem.W.exmOne K (.ref C) (.ref CE) = some true := by
      rcases hC with ⟨rfl, _⟩ | ⟨rfl, _⟩ | ⟨rfl, _⟩ | ⟨rfl, _⟩
      · exact eN.exm
      · exact eW.exm
      · exact eY.exm
      · exact eB.exm
    refine ⟨true, eC, fun _ a ha => ?_, fun z => nomatch z⟩
    have hd1 : (upd H' a (exk a (.ref C) (some dd))) dd = some (.xd [(fl, v)]) := by rw [upd_ne (ne_of_none hdd ha)]; exact hdd
    have ha1 : (upd H' a (exk a (.ref C) (some dd))) a = some (exk a (.ref C) (some dd)) := upd_same
    have e1 : Ext H' (upd H' a (exk a (.ref C) (some dd))) := Ext.upd ha
    generalize (upd H' a (exk a (.ref C) (some dd))) = H1 at hd1 ha1 e1
    have xd : ∀ d', some dd = some d' → ∃ fs, H1 d' = some (.xd fs) := fun d' z => by
      cases z
      exact ⟨_, hd1⟩
    refine ⟨_, rfl, ?_⟩
    refine ⟨_, rfl, rfl, _, rfl, ?_⟩
    refine iteNo (decide_eq_false (by intro z; cases z)) ?_
    obtain ⟨b0, b1, b2, b3, eK, hb⟩ : ∃ b0 b1 b2 b3, ErrT K CE CN CW CY CB C fl b0 b1 b2 b3 ∧ ((b0, b1, b2, b3) = (true, false, false, false) ∧ fl = "value" ∧ wd = "name" ∨ (b0, b1, b2, b3) = (false, true, false, false) ∧ fl = "name" ∧ wd = "twice" ∨ (b0, b1, b2, b3) = (false, false, true, false) ∧ fl = "most" ∧ wd = "many" ∨ (b0, b1, b2, b3) = (false, false, false, true) ∧ fl = "value" ∧ wd = "deed") := by
      rcases hC with ⟨rfl, rfl, rfl⟩ | ⟨rfl, rfl, rfl⟩ | ⟨rfl, rfl, rfl⟩ | ⟨rfl, rfl, rfl⟩
      · exact ⟨_, _, _, _, eN, .inl ⟨rfl, rfl, rfl⟩⟩
      · exact ⟨_, _, _, _, eW, .inr (.inl ⟨rfl, rfl, rfl⟩)⟩
      · exact ⟨_, _, _, _, eY, .inr (.inr (.inl ⟨rfl, rfl, rfl⟩))⟩
      · exact ⟨_, _, _, _, eB, .inr (.inr (.inr ⟨rfl, rfl, rfl⟩))⟩
    refine ⟨_, rfl, a, _, _, _, _, b0, rfl, ha1, eK.ec, xd, fun u r => r, eK.kn, _, rfl, a, _, _, _, _, b1, rfl, ha1, eK.ec, xd, fun u r => r, eK.kw, _, rfl, a, _, _, _, _, b2, rfl, ha1, eK.ec, xd, fun u r => r, eK.ky, (by show 3 ≤ sizeLine; decide), fun kl nk => ?_⟩
    have e2 : Ext H1 (upd H1 kl (.lst [.bl b0, .bl b1, .bl b2])) := Ext.upd nk
    have f2 : (upd H1 kl (.lst [.bl b0, .bl b1, .bl b2])) kl = some (.lst [.bl b0, .bl b1, .bl b2]) := upd_same
    generalize (upd H1 kl (.lst [.bl b0, .bl b1, .bl b2])) = H2 at e2 f2
    have ha2 := e2 _ _ ha1
    have hd2 := e2 _ _ hd1
    have xd2 : ∀ d', some dd = some d' → ∃ fs, H2 d' = some (.xd fs) := fun d' z => by
      cases z
      exact ⟨_, hd2⟩
    have last : ∀ p, H2 p = none → Q (.ref p) (upd H2 p (.tup [.str wd, v])) := fun p hp => k p _ (e1.trans (e2.trans (Ext.upd hp))) (by rw [nw_at (ext_free (e1.trans e2) hp)]; exact upd_same)
    refine ⟨_, rfl, .inl ⟨rfl, _, SqL.of f2⟩, kl, _, _, rfl, rfl, SqL.of f2, rfl, rfl, ?_⟩
    refine ⟨_, rfl, a, _, _, _, _, b3, rfl, ha2, eK.ec, xd2, fun u r => r, eK.kb, .inr ⟨b3, rfl, _, _, rfl, rfl, rfl, _, rfl, ?_⟩⟩
    rcases hb with ⟨hb, rfl, rfl⟩ | ⟨hb, rfl, rfl⟩ | ⟨hb, rfl, rfl⟩ | ⟨hb, rfl, rfl⟩
    all_goals
      cases hb
      refine iteNo (by rfl) ?_
      refine ⟨_, rfl, a, _, _, _, _, true, rfl, ha2, eK.ec, xd2, fun u r => r, eK.ve, _, rfl, ?_⟩
      refine iteF ?_
      refine ⟨_, rfl, kl, _, 0, .bl _, rfl, rfl, SqL.of f2, atI_nat (j := 0) rfl, _, rfl, ?_⟩
    · refine iteT ?_
      exact ⟨_, rfl, a, _, dd, _, v, rfl, ha2, eK.xf, eK.no, hd2, rfl, (by show 2 ≤ sizeLine; decide), last⟩
    all_goals
      refine iteF ?_
      refine ⟨_, rfl, kl, _, 1, .bl _, rfl, rfl, SqL.of f2, atI_nat (j := 1) rfl, _, rfl, ?_⟩
    · refine iteT ?_
      exact ⟨_, rfl, a, _, dd, _, v, rfl, ha2, eK.xf, eK.no, hd2, rfl, (by show 2 ≤ sizeLine; decide), last⟩
    all_goals
      refine iteF ?_
      refine ⟨_, rfl, kl, _, 2, .bl _, rfl, rfl, SqL.of f2, atI_nat (j := 2) rfl, _, rfl, ?_⟩
    · refine iteT ?_
      exact ⟨_, rfl, a, _, dd, _, v, rfl, ha2, eK.xf, eK.no, hd2, rfl, (by show 2 ≤ sizeLine; decide), last⟩
    · refine iteF ?_
      exact ⟨_, rfl, a, _, dd, _, v, rfl, ha2, eK.xf, eK.no, hd2, rfl, (by show 2 ≤ sizeLine; decide), last⟩
  · refine ⟨_, rfl, rfl, _, rfl, ?_⟩
    refine iteYes (decide_eq_true rfl) ?_
    exact hv H1 Ext.rfl'
end
end K02
end
section
set_option Elab.async false
set_option autoImplicit false
set_option linter.all false
set_option maxRecDepth 100000
set_option maxHeartbeats 4000000
namespace K02
open PySem PySem.Spec PyProof.Rows L2 Ls
open C8 (pss_cut tCut)
open TL
theorem in_six (n : Nat) : inV (.int n) ([.int 1, .int 2, .int 3, .int 4, .int 5, .int 6] : List V) = decide (1 ≤ n ∧ n ≤ 6) := by
  by_cases h : n ≤ 6
  · have hc : n = 0 ∨ n = 1 ∨ n = 2 ∨ n = 3 ∨ n = 4 ∨ n = 5 ∨ n = 6 := by omega
    rcases hc with rfl | rfl | rfl | rfl | rfl | rfl | rfl <;> rfl
  · have e : ∀ k : Int, k ≤ 6 → eqV (.int k) (.int n) = false := fun k hk => by
      show (k == (n : Int)) = false
      exact beq_eq_false_iff_ne.mpr (by omega)
    show (eqV (.int 1) (.int n) || (eqV (.int 2) (.int n) || (eqV (.int 3) (.int n) || (eqV (.int 4) (.int n) || (eqV (.int 5) (.int n) || (eqV (.int 6) (.int n) || false)))))) = _
    rw [e 1 (by decide), e 2 (by decide), e 3 (by decide), e 4 (by decide), e 5 (by decide), e 6 (by decide), decide_eq_false (by omega)]
    rfl
/-! ### what is due, as data -/
def fltD : Option Flt → PyData
  | none => .none
  | some (.name d) => .tuple [.str "name", d]
  | some (.twice z) => .tuple [.str "twice", .str z]
  | some .many => .tuple [.str "many", .int 3]
  | some .deed => .tuple [.str "deed", .none]
def dueF (first : Nat) (ds : List PyData) : Option Flt := match badOf ds with
  | some d => some (.name d)
  | none => usedF (ds.drop first)
theorem due_zero (ds : List PyData) : dueF 0 ds = usedF ds := by
  unfold dueF
  cases h : badOf ds with
  | some d =>
    unfold usedF
    rw [h]
  | none => rfl
theorem due_one_no {d : PyData} {ds : List PyData} (h : nameOf d = none) : dueF 1 (d :: ds) = some (.name d) := by
  have : badOf (d :: ds) = some d := by
    show (if nameOf d = none then some d else badOf ds) = _
    rw [if_pos h]
  unfold dueF
  rw [this]
theorem due_one {d : PyData} {ds : List PyData} (h : nameOf d ≠ none) : dueF 1 (d :: ds) = usedF ds := by
  have e : badOf (d :: ds) = badOf ds := by
    show (if nameOf d = none then some d else badOf ds) = _
    rw [if_neg h]
  unfold dueF
  rw [e]
  cases h2 : badOf ds with
  | some x =>
    unfold usedF
    rw [h2]
  | none => rfl
section
variable {P : Program} {w : World} {K : PySem.W.Frag} {mg : Str → Option Value} {base : Heap} {CE CN CB CW CY CD CU CM CO : Addr} {tL tN tU : Tok}
/-! ### _law_is_name -/
abbrev s__law_is_name : Stmt := top 26
abbrev N__law_is_name : List Str := ["_law_value", "_law_sign"]
theorem sc__law_is_name : FnScope N__law_is_name ["_law_value"] (defScope s__law_is_name) := ⟨rfl, rfl, rfl, by decide +kernel, rfl, by decide +kernel, by decide +kernel⟩
theorem ok_lis {f : Addr} {fd : FuncData} (F : Fun K "_law_is_name" "_law_is_name" s__law_is_name f fd) (T : Tx K mg CE CN CB CW CY CD CU CM CO tL tN tU) : FnOk P w K mg base CX0 1 f fd ["_law_value"] spName := by
  refine F.ok sc__law_is_name (fun vs H Q E h => ?_) (fun cdv A outer s H vs Q E hr h => ?_)
  · obtain ⟨v, d, rfl, _⟩ := h
    rfl
  · obtain ⟨v, d, rfl, hv, sm, k⟩ := h
    refine ⟨_, (pss_cons (ps_if ((pw_or (pt_not (pt_val (pe_callB call_isi (by rfl) (T.bn _ (by decide +kernel)) (by decide +kernel) (pa_cons (pv 0) (pa_cons (pe_gty (T := "str") (by rfl) (T.bn _ (by decide +kernel)) (by decide +kernel)) pa_nil))))) (pw_or1 (pt_cmpR op_notIn_seq (pe_callB call_len_str (by rfl) (T.bn _ (by decide +kernel)) (by decide +kernel) (pa_cons (pv 0) pa_nil)) (pe_tup (pa_cons pe_int (pa_cons pe_int (pa_cons pe_int (pa_cons pe_int (pa_cons pe_int (pa_cons pe_int pa_nil))))))) rfl)))).pt (pss_one (ps_ret pe_bl)) pss_nil)
      (pss_one (ps_ret (pe_cmpR (op_eqNil hr) (pe_lc (own := [("_law_sign", 1)]) rfl sc__law_is_name.nd (pi_str (pv 0)) (blkOk_by (own := [("_law_sign", 1)]) (N := N__law_is_name) (sc := defScope s__law_is_name) (by decide +kernel)) (fun _ _ _ _ _ => (pg_name (i := 1) sc__law_is_name.nd rfl (by first | exact Or.inl rfl | exact Or.inr rfl))) (fun _ _ _ _ _ => pts_one (pt_cmpR op_notIn_sign (pv 1) pe_str rfl)) (fun _ _ _ _ _ => (pv 1))) (pe_lst pa_nil) (nomark _))))), ?_⟩
    refine ⟨_, rfl, _, _, _, _, isStrD d, rfl, .ty "str", tyX_of hv, kit_str d, _, rfl, ?_⟩
    cases hd : isStrD d with
    | false =>
      refine iteT ?_
      have e1 : (nameOf d).isSome = false := by
        cases d <;> first | rfl | cases hd
      have := k H Ext.rfl'
      rw [e1] at this
      exact this
    | true =>
    obtain ⟨z, rfl⟩ := strD hd
    cases tv_str hv
    have hz : z.length ≤ 1000 := sm z rfl
    refine iteF ?_
    have hzl : z.length ≤ sizeLine := Nat.le_of_lt (small1000 hz)
    have eN : ∀ b, isName z = b → (nameOf (.str z)).isSome = b := fun b h => by
      cases b with
      | true => rw [nameOf_str h]; rfl
      | false => rw [nameOf_no h]; rfl
    refine ⟨_, rfl, z, rfl, hzl, (by show 6 ≤ sizeLine; decide), fun t nt => ?_⟩
    refine ⟨t, _, rfl, .inr (SqT.of upd_same), rfl, rfl, _, rfl, ?_⟩
    have e1 : Ext H (upd H t (.tup [.int 1, .int 2, .int 3, .int 4, .int 5, .int 6])) := Ext.upd nt
    generalize (upd H t (.tup [.int 1, .int 2, .int 3, .int 4, .int 5, .int 6])) = H1 at e1
    rw [in_six]
    by_cases h16 : 1 ≤ z.length ∧ z.length ≤ 6
    · obtain ⟨h1, h6⟩ := h16
      refine iteNo (by rw [decide_eq_true ⟨h1, h6⟩]; rfl) ?_
      refine ⟨_, rfl, z, rfl, fun D hD => ?_⟩
      refine lc_it walk_str (fun i Hx => ∃ ys : List V, Hx = upd H1 D (.lst ys) ∧ ys.length ≤ i ∧ ys.isEmpty = ((tl z).take i).all fun c => decide (c ∈ tl lettersS)) ⟨[], rfl, Nat.le_refl _, by simp⟩ (fun _ _ _ _ => trivial) ?_ ?_
      · rintro i x Hx H' hi ⟨ys, rfl, hl, he⟩ ⟨rfl, c, hc, rfl⟩
        have hc' : (tl z)[i]? = some c := by rw [← hc]; simp [tl]
        have hz6 : i < 6 := by have : z.length = z.cps.size := rfl; omega
        have et : ((tl z).take (i + 1)).all (fun c => decide (c ∈ tl lettersS)) = (((tl z).take i).all (fun c => decide (c ∈ tl lettersS)) && decide (c ∈ tl lettersS)) := by
          rw [List.take_add_one, hc', List.all_append]
          simp
        refine ⟨rfl, _, rfl, c, _, rfl, rfl, _, rfl, ?_⟩
        by_cases hm : c ∈ tl lettersS
        · refine iteNo (by show (!decide (c ∈ tl lettersS)) = false; rw [decide_eq_true hm]; rfl) ?_
          exact ⟨ys, rfl, by omega, by rw [et, ← he, decide_eq_true hm, Bool.and_true]⟩
        · refine iteYes (by show (!decide (c ∈ tl lettersS)) = true; rw [decide_eq_false hm]; rfl) ?_
          refine ⟨_, rfl, ys, upd_same, Nat.lt_of_le_of_lt (show ys.length ≤ 6 by omega) (by decide), ys ++ [.str ⟨#[c]⟩], by rw [upd_upd], by rw [List.length_append]; simp; omega, ?_⟩
          rw [et, decide_eq_false hm, Bool.and_false]
          simp
      · rintro Hx ⟨ys, rfl, hl, he⟩
        have en : isName z = ys.isEmpty := by
          have hz' : z.cps.size = (tl z).length := by simp [tl]
          unfold isName
          rw [decide_eq_true h1, decide_eq_true h6, Bool.true_and, Bool.true_and, he, hz', List.take_length]
        refine ⟨(by show 0 ≤ sizeLine; decide), fun l hl => ⟨D, l, ys, rfl, rfl, ?_, upd_same, ?_⟩⟩
        · rw [upd_ne (ne_of_none upd_same hl)]
          exact upd_same
        · rw [← eN _ en]
          exact k _ (e1.trans ((Ext.upd hD).trans (Ext.upd hl)))
    · refine iteYes (by rw [decide_eq_false h16]; rfl) ?_
      have e2 : isName z = false := by
        unfold isName
        by_cases h1 : 1 ≤ z.length
        · rw [decide_eq_false (show ¬ z.length ≤ 6 from fun h => h16 ⟨h1, h⟩), Bool.false_and, Bool.and_false]
        · rw [decide_eq_false h1, Bool.false_and]
      have := k H1 e1
      rw [eN _ e2] at this
      exact this
/-! ### _law_due -/
def spDue : Sp := fun vs H Q _ => ∃ (l : Addr) (xs : List V) (ds : List PyData) (first : Nat), vs = [.ref l, .int first] ∧ H l = some (.lst xs) ∧ ArgsAt H xs ds ∧ first ≤ xs.length ∧ ∀ v H', Ext H H' → TV H' v (fltD (dueF first ds)) → Q v H'
abbrev s__law_due : Stmt := top 27
abbrev N__law_due : List Str := ["_law_values_here", "_law_first", "_law_value", "_law_used_here", "_law_at"]
theorem sc__law_due : FnScope N__law_due ["_law_values_here", "_law_first"] (defScope s__law_due) := ⟨rfl, rfl, rfl, by decide +kernel, rfl, by decide +kernel, by decide +kernel⟩
theorem ok_due {f : Addr} {fd : FuncData} (F : Fun K "_law_due" "_law_due" s__law_due f fd) (T : Tx K mg CE CN CB CW CY CD CU CM CO tL tN tU) (c__law_is_name : Cal P w K mg base CX0 1 "_law_is_name" spName) : FnOk P w K mg base CX0 2 f fd ["_law_values_here", "_law_first"] spDue := by
  refine F.ok sc__law_due (fun vs H Q E h => ?_) (fun cdv A outer s H vs Q E hr h => ?_)
  · obtain ⟨l, xs, ds, first, rfl, _⟩ := h
    rfl
  · obtain ⟨l, xs, ds, first, rfl, hl, ha, hf, k⟩ := h
    have h4 : sizeLine = 16777216 := sizeLine_eq
    have hln := ha.ln
    have hlen := ha.tv.len
    refine ⟨_, (pss_cons (ps_for PassesOwn.never rfl (pi_list (pv 0)) (pg_name (i := 2) sc__law_due.nd rfl (by first | exact Or.inl rfl | exact Or.inr rfl))
      (pss_one (ps_if (pt_not (pt_val (pe_cal c__law_is_name (hr.mono (by decide)) (by rfl) pass0 (pa_cons (pv 2) pa_nil)))) (pss_one (ps_ret (pe_tup (pa_cons pe_str (pa_cons (pv 2) pa_nil))))) pss_nil)))
      (pss_cons (ps_set (i := 3) sc__law_due.nd rfl (by first | exact Or.inl rfl | exact Or.inr rfl) (pe_slice sl_list (pv 0) (po_some (pv 1)) po_none))
      (pss_cons (ps_for PassesOwn.never rfl (pi_range1 rfl (T.bn _ (by decide +kernel)) (pa_cons (pe_callB call_len_seq (by rfl) (T.bn _ (by decide +kernel)) (by decide +kernel) (pa_cons (pv 3) pa_nil)) pa_nil)) (pg_name (i := 4) sc__law_due.nd rfl (by first | exact Or.inl rfl | exact Or.inr rfl))
      (pss_one (ps_if (pt_cmpR op_in_seq (pe_ix ix_list (pv 3) (pv 4) (fun _ _ => rfl)) (pe_slice sl_list (pv 3) po_none (po_some (pv 4))) rfl) (pss_one (ps_ret (pe_tup (pa_cons pe_str (pa_cons (pe_ix ix_list (pv 3) (pv 4) (fun _ _ => rfl)) pa_nil))))) pss_nil)))
      (pss_cons (ps_if (pt_cmpR op_gt (pe_callB call_len_seq (by rfl) (T.bn _ (by decide +kernel)) (by decide +kernel) (pa_cons (pv 3) pa_nil)) pe_int (nomark _)) (pss_one (ps_ret (pe_tup (pa_cons pe_str (pa_cons pe_int pa_nil))))) pss_nil)
      (pss_one (ps_ret (pe_ifExp ((pw_and (pt_cmpR (op_eqNil hr) (pv 3) (pe_lst pa_nil) (nomark _)) (pw_and1 (pt_cmpR op_eq (pe_callB call_len_seq (by rfl) (T.bn _ (by decide +kernel)) (by decide +kernel) (pa_cons (pv 0) pa_nil)) (pv 1) (nomark _))))).pt (pe_tup (pa_cons pe_str (pa_cons pe_non pa_nil))) pe_non))))))), ?_⟩
    refine ⟨_, rfl, l, rfl, ⟨_, SqL.of hl⟩, for_it (walk_list (xs := xs)) (fun i σ H' => ∃ x2 x3 x4, σ = [some (.ref l), some (.int first), x2, x3, x4] ∧ Ext H H' ∧ ∀ (j : Nat) d, j < i → ds[j]? = some d → nameOf d ≠ none) ⟨_, _, _, rfl, Ext.rfl', fun j d h => absurd h (by omega)⟩ (fun i σ H' _ ⟨_, _, _, _, e, _⟩ => SqL.of (e _ _ hl)) ?_ ?_⟩
    · rintro i x σ _ H1 hi ⟨x2, x3, x4, rfl, e1, ih⟩ ⟨rfl, hx⟩
      obtain ⟨d, hd, hv, sm⟩ := (ha.ext e1).at_ hx
      refine ⟨_, rfl, x, d, rfl, hv, sm, fun H2 e2 => ⟨_, rfl, ?_⟩⟩
      cases hn : nameOf d with
      | none =>
        refine iteT ?_
        refine ⟨_, rfl, (by show 2 ≤ sizeLine; decide), fun t nt => k _ _ (e1.trans (e2.trans (Ext.upd nt))) ?_⟩
        have : dueF first ds = some (.name d) := by unfold dueF; rw [bad_at ih hd hn]
        rw [this]
        exact .tup upd_same (.cons (.str _) (.cons (hv.ext (e2.trans (Ext.upd nt))) .nil))
      | some n =>
        refine iteF ?_
        refine ⟨_, _, _, rfl, e1.trans e2, fun j d' hj hd' => ?_⟩
        by_cases h : j < i
        · exact ih j d' h hd'
        · have : j = i := by omega
          subst this
          rw [hd] at hd'
          cases hd'
          rw [hn]
          simp
    · rintro σ H1 ⟨x2, x3, x4, rfl, e1, ih⟩
      have hb : badOf ds = none := bad_all fun j d hd => ih j d (by have := (List.getElem?_eq_some_iff.mp hd).1; omega) hd
      have hxs := ha.names hb
      obtain ⟨hds, hnm⟩ := bad_none hb
      generalize hzs : namesOf ds = zs at hxs hds hnm
      have hzl : xs.length = zs.length := by rw [hxs, List.length_map]
      have hdue : dueF first ds = usedF ((zs.drop first).map .str) := by
        unfold dueF
        rw [hb, hds, List.map_drop]
      refine ⟨_, rfl, _, rfl, _, rfl, l, _, rfl, SqL.of (e1 _ _ hl), fun q nq => ?_⟩
      rw [hxs, cutM_from _ (show (0 : Int) ≤ (first : Nat) by omega), Int.toNat_natCast]
      have e2 : Ext H1 (upd H1 q (.lst ((zs.drop first).map V.str))) := Ext.upd nq
      have f2 : (upd H1 q (.lst ((zs.drop first).map V.str))) q = some (.lst ((zs.drop first).map V.str)) := upd_same
      generalize (upd H1 q (.lst ((zs.drop first).map V.str))) = H2 at e2 f2
      have hul : (zs.drop first).length = zs.length - first := List.length_drop
      have hun : ∀ z ∈ zs.drop first, isName z = true := fun z hz => hnm z (List.mem_of_mem_drop hz)
      rw [← hxs] at *
      generalize hus : zs.drop first = us at f2 hdue hul hun
      have e02 := e1.trans e2
      have lu : (us.map V.str).length = us.length := List.length_map _
      have hbu : badOf (us.map PyData.str) = none := bad_all fun j d hd => by
        rw [List.getElem?_map] at hd
        obtain ⟨z, hz, rfl⟩ := Option.map_eq_some_iff.mp hd
        rw [nameOf_str (hun z (List.mem_of_getElem? hz))]
        simp
      have huse : usedF (us.map PyData.str) = match twi [] us with | some z => some (.twice z) | none => if 3 < us.length then some .many else if us = [] then some .deed else none := by
        unfold usedF
        rw [hbu]
        show (match twi [] (namesOf (us.map PyData.str)) with | some z => some (Flt.twice z) | none => _) = _
        rw [names_str us hun, List.length_map]
        cases twi [] us with
        | some z => rfl
        | none =>
          cases us with
          | nil => rfl
          | cons a b => rfl
      refine ⟨_, rfl, q, _, rfl, .inl (SqL.of f2), _, rfl, by rw [lu]; omega, by rw [lu]; omega, ?_⟩
      refine for_range (fun i σ H' => ∃ x2 x4, σ = [some (.ref l), some (.int first), x2, some (.ref q), x4] ∧ Ext H2 H' ∧ twi [] us = twi (us.take i) (us.drop i)) ⟨_, _, rfl, Ext.rfl', by simp⟩ ?_ ?_
      · rintro i σ H3 hi ⟨x2, x4, rfl, e3, it⟩
        rw [lu] at hi
        have hi' : i < us.length := by omega
        obtain ⟨z, hz⟩ : ∃ z, us[i]? = some z := ⟨_, List.getElem?_eq_getElem hi'⟩
        have hdr : us.drop i = z :: us.drop (i + 1) := by
          obtain ⟨h1, h2⟩ := List.getElem?_eq_some_iff.mp hz
          rw [List.drop_eq_getElem_cons h1, h2]
        have hst : twi (us.take i) (us.drop i) = if z ∈ us.take i then some z else twi (us.take i ++ [z]) (us.drop (i + 1)) := by rw [hdr]; rfl
        have hq3 := e3 _ _ f2
        have hzm : (us.map V.str)[i]? = some (.str z) := by rw [List.getElem?_map, hz]; rfl
        refine ⟨_, rfl, _, rfl, q, _, _, .str z, rfl, rfl, SqL.of hq3, atI_at (j := i) (by omega) hzm, ?_⟩
        refine ⟨_, rfl, _, rfl, _, rfl, q, _, rfl, SqL.of hq3, fun u nu => ?_⟩
        rw [cutM_to _ (show (0 : Int) ≤ 0 + (i : Nat) by omega), show (0 + (i : Int)).toNat = i by omega]
        have e4 : Ext H3 (upd H3 u (.lst ((us.take i).map V.str))) := Ext.upd nu
        have f4 : (upd H3 u (.lst ((us.take i).map V.str))) u = some (.lst ((us.take i).map V.str)) := upd_same
        generalize (upd H3 u (.lst ((us.take i).map V.str))) = H4 at e4 f4
        refine ⟨u, _, rfl, .inl (SqL.of f4), rfl, flat_strs _, _, rfl, ?_⟩
        rw [inV_strs]
        by_cases hm : z ∈ us.take i
        · refine iteYes (decide_eq_true hm) ?_
          refine ⟨_, rfl, _, rfl, q, _, _, .str z, rfl, rfl, SqL.of (e4 _ _ hq3), atI_at (j := i) (by omega) hzm, (by show 2 ≤ sizeLine; decide), fun t nt => k _ _ (e02.trans (e3.trans (e4.trans (Ext.upd nt)))) ?_⟩
          have : dueF first ds = some (.twice z) := by rw [hdue, huse, it, hst, if_pos hm]
          rw [this]
          exact .tup upd_same (.cons (.str _) (.cons (.str _) .nil))
        · refine iteNo (decide_eq_false hm) ?_
          refine ⟨_, _, rfl, e3.trans e4, ?_⟩
          rw [it, hst, if_neg hm, show us.take (i + 1) = us.take i ++ [z] from by rw [List.take_add_one, hz]; rfl]
      · rintro σ H3 ⟨x2, x4, rfl, e3, it⟩
        have htw : twi [] us = none := by
          rw [it, show ((us.map V.str).length : Int).toNat = us.length from by rw [lu]; rfl, List.drop_length]
          rfl
        rw [htw] at huse
        have hq3 := e3 _ _ f2
        refine ⟨_, rfl, q, _, rfl, .inl (SqL.of hq3), _, _, rfl, rfl, _, rfl, ?_⟩
        have huse : usedF (us.map PyData.str) = if 3 < us.length then some .many else if us = [] then some .deed else none := huse
        by_cases h3 : 3 < us.length
        · refine iteYes (decide_eq_true (by rw [lu]; omega)) ?_
          refine ⟨(by show 2 ≤ sizeLine; decide), fun t nt => k _ _ (e02.trans (e3.trans (Ext.upd nt))) ?_⟩
          rw [hdue, huse, if_pos h3]
          exact .tup upd_same (.cons (.str _) (.cons (.int _) .nil))
        · refine iteNo (decide_eq_false (by rw [lu]; omega)) ?_
          rw [if_neg h3] at huse
          refine ⟨_, rfl, (by show 0 ≤ sizeLine; decide), fun e ne => ?_⟩
          have e5 : Ext H3 (upd H3 e (.lst [])) := Ext.upd ne
          refine ⟨q, e, _, rfl, rfl, e5 _ _ hq3, upd_same, _, rfl, ?_⟩
          generalize (upd H3 e (.lst [])) = H5 at e5
          have e05 := e02.trans (e3.trans e5)
          by_cases h0 : us = []
          · refine iteYes (by rw [h0]; rfl) ?_
            rw [if_pos h0] at huse
            refine ⟨_, rfl, l, _, rfl, .inl (SqL.of (e05 _ _ hl)), _, rfl, rfl, _, rfl, ?_⟩
            have : xs.length = first := by rw [h0] at hul; simp at hul; omega
            refine iteYes (decide_eq_true (by rw [this])) ?_
            refine ⟨(by show 2 ≤ sizeLine; decide), fun t nt => k _ _ (e05.trans (Ext.upd nt)) ?_⟩
            rw [hdue, huse]
            exact .tup upd_same (.cons (.str _) (.cons .non .nil))
          · refine iteNo (by rw [List.isEmpty_map]; cases us <;> first | rfl | exact absurd rfl h0) ?_
            rw [if_neg h0] at huse
            refine k _ _ e05 ?_
            rw [hdue, huse]
            exact .non
end
end K02
end
section
set_option Elab.async false
set_option autoImplicit false
set_option linter.all false
set_option maxRecDepth 100000
set_option maxHeartbeats 4000000
namespace K02
open PySem PySem.Spec PyProof.Rows L2 Ls
open C8 (pss_cut tCut)
open TL
/-! ### values that may be told -/
structure Ask (d : PyData) : Prop where
  sm : SmD d
  sw : Shw 200 d
  dp : d.depth ≤ 2
def oddD : List PyData := [.none, .bool true, .int 0, .int 100000000000000000000000000000000000000000000000000000000000, .str "", .str "A", .str "a b", .str "abcdefg", .str "a1", .str " a", .str "a\n", .str "-", .tuple [.str "a"], .list [.str "a"], .dict [(.str "a", .int 1)], .dict []]
def goodO (d : PyData) : Bool := !readOk d && d.showable && decide (d.depth ≤ 2) && decide (d.shown.length ≤ 100) && match d with | .str z => decide (z.length ≤ 100) | _ => true
theorem odd_good : oddD.all goodO = true := by decide +kernel
theorem odd_of {d : PyData} (h : d ∈ oddD) : readOk d = false ∧ Ask d := by
  have q := List.all_eq_true.mp odd_good d h
  unfold goodO at q
  simp only [Bool.and_eq_true, decide_eq_true_eq, Bool.not_eq_true'] at q
  obtain ⟨⟨⟨⟨q1, q2⟩, q3⟩, q4⟩, q5⟩ := q
  refine ⟨q1, fun z e => ?_, ⟨q2, by omega, by omega⟩, q3⟩
  subst e
  have : z.length ≤ 100 := by simpa using q5
  omega
theorem odd_at {d : PyData} (i : Nat) (h : oddD[i]? = some d) : d ∈ oddD := List.mem_of_getElem? h
theorem ok_lit {n : Nat} {z : Str} (h : (decide (z.length ≤ n) && (tl z).all fun c => decide (c < 256)) = true) : OkS n z := by
  simp only [Bool.and_eq_true, decide_eq_true_eq, List.all_eq_true] at h
  exact h
theorem Ask.str {n : Nat} {z : Str} (h : OkS n z) (hn : n ≤ 19) : Ask (.str z) := ⟨fun y e => by cases e; exact Nat.le_trans h.1 (by omega), (Shw.str h).mono (by omega), Nat.zero_le _⟩
mutual
/-- all of it is new -/
theorem tv_nw {S : List Addr} {H H' : Hp} (h : ∀ b ∈ S, H b ≠ none) : ∀ {v : V} {d : PyData}, TV (nw H H') v d → TV (vis S H') v d
  | _, _, .non => .non
  | _, _, .bl b => .bl b
  | _, _, .int i => .int i
  | _, _, .str x => .str x
  | _, _, .lst q t => .lst (vis_new h q fun _ z => by cases z) (tvs_nw h t)
  | _, _, .tup q t => .tup (vis_new h q fun _ z => by cases z) (tvs_nw h t)
  | _, _, .dct q t1 t2 => .dct (vis_new h q fun _ z => by cases z) (tvs_nw h t1) (tvs_nw h t2)
theorem tvs_nw {S : List Addr} {H H' : Hp} (h : ∀ b ∈ S, H b ≠ none) : ∀ {vs : List V} {ds : List PyData}, TVs (nw H H') vs ds → TVs (vis S H') vs ds
  | _, _, .nil => .nil
  | _, _, .cons t ts => .cons (tv_nw h t) (tvs_nw h ts)
end
theorem _root_.Ls.TVs.snoc {H : Hp} {v : V} {d : PyData} (h : TV H v d) : ∀ {xs : List V} {ds : List PyData}, TVs H xs ds → TVs H (xs ++ [v]) (ds ++ [d])
  | _, _, .nil => .cons h .nil
  | _, _, .cons a t => .cons a (Ls.TVs.snoc h t)
section
variable {P : Program} {w : World} {K : PySem.W.Frag} {mg : Str → Option Value} {base : Heap} {CE CN CB CW CY CD CU CM CO : Addr} {tL tN tU : Tok}
/-! ### _law_odd -/
def spOdd : Sp := fun vs H Q _ => ∃ (p c : Addr) (n : Nat), vs = [.ref p] ∧ PenAt H p c n ∧ n < 1000000 ∧ ∀ v d H', d ∈ oddD → TV (nw H H') v d → PenAt H' p c (n + 1) → Keep p c H H' → Q v H'
abbrev s__law_odd : Stmt := top 30
abbrev N__law_odd : List Str := ["_law_pen_here", "_law_some"]
theorem sc__law_odd : FnScope N__law_odd ["_law_pen_here"] (defScope s__law_odd) := ⟨rfl, rfl, rfl, by decide +kernel, rfl, by decide +kernel, by decide +kernel⟩
theorem ok_odd {f : Addr} {fd : FuncData} (F : Fun K "_law_odd" "_law_odd" s__law_odd f fd) (T : Tx K mg CE CN CB CW CY CD CU CM CO tL tN tU) (c__law_pick : Cal P w K mg base CX0 2 "_law_pick" (spPick K)) :
    FnOk P w K mg base CX0 3 f fd ["_law_pen_here"] spOdd := by
  refine F.ok sc__law_odd (fun vs H Q E h => ?_) (fun cdv A outer s H vs Q E hr h => ?_)
  · obtain ⟨p, c, n, rfl, _⟩ := h
    rfl
  · obtain ⟨p, c, n, rfl, hp, hn, k⟩ := h
    refine ⟨_, (pss_cons (ps_set (i := 1) sc__law_odd.nd rfl (by first | exact Or.inl rfl | exact Or.inr rfl) (pe_lst (pa_cons pe_non (pa_cons pe_bl (pa_cons pe_int (pa_cons (pe_op op_pow pe_int pe_int) (pa_cons pe_str (pa_cons pe_str (pa_cons pe_str (pa_cons pe_str (pa_cons pe_str (pa_cons pe_str (pa_cons pe_str (pa_cons pe_str (pa_cons (pe_tup (pa_cons pe_str pa_nil)) (pa_cons (pe_lst (pa_cons pe_str pa_nil)) (pa_cons (pe_disp (pps_cons pe_str pe_int pps_nil) (by rfl) (by rfl) (fun z => by cases z) (by decide)) (pa_cons pe_dnewK pa_nil))))))))))))))))))
      (pss_one (ps_ret (pe_cal c__law_pick (hr.mono (by decide)) (by rfl) pass0 (pa_cons (pv 0) (pa_cons (pv 1) pa_nil)))))), ?_⟩
    refine ⟨_, _, rfl, rfl, ⟨by decide, by decide, by decide⟩, (by show 1 ≤ sizeLine; decide), fun t1 n1 => ?_⟩
    have f1 : (upd H t1 (.tup [.str "a"])) t1 = some (.tup [.str "a"]) := upd_same
    have e1 : Ext H (upd H t1 (.tup [.str "a"])) := Ext.upd n1
    generalize (upd H t1 (.tup [.str "a"])) = H1 at f1 e1
    refine ⟨(by show 1 ≤ sizeLine; decide), fun l1 n2 => ?_⟩
    have f2 : (upd H1 l1 (.lst [.str "a"])) l1 = some (.lst [.str "a"]) := upd_same
    have e2 : Ext H1 (upd H1 l1 (.lst [.str "a"])) := Ext.upd n2
    generalize (upd H1 l1 (.lst [.str "a"])) = H2 at f2 e2
    intro d1 n3
    refine ⟨upd_same, [(Sum.inr "a", .int 1)], rfl, by show 1 ≤ 15; decide, ?_⟩
    rw [upd_upd, show mergeK [] [((Sum.inr "a" : Key), V.int 1)] = [((Sum.inr "a" : Key), V.int 1)] from by kernel_rfl]
    have f3 : (upd H2 d1 (.dK [((Sum.inr "a" : Key), V.int 1)])) d1 = some (.dK [((Sum.inr "a" : Key), V.int 1)]) := upd_same
    have e3 : Ext H2 (upd H2 d1 (.dK [((Sum.inr "a" : Key), V.int 1)])) := Ext.upd n3
    generalize (upd H2 d1 (.dK [((Sum.inr "a" : Key), V.int 1)])) = H3 at f3 e3
    intro d0 n4
    have f4 : (upd H3 d0 (.dK [])) d0 = some (.dK []) := upd_same
    have e4 : Ext H3 (upd H3 d0 (.dK [])) := Ext.upd n4
    generalize (upd H3 d0 (.dK [])) = H4 at f4 e4
    refine ⟨(by show 16 ≤ sizeLine; decide), fun L nL => ?_⟩
    have e04 : Ext H H4 := e1.trans (e2.trans (e3.trans e4))
    have hp4 := hp.ext e04
    obtain ⟨np, nc⟩ := hp4.ne nL
    refine ⟨_, rfl, _, rfl, p, c, n, _, rfl, hp4.upd np nc, by omega, .inl ⟨L, _, rfl, np.symm, nc.symm, upd_same, by simp, by simp, fun x H8 hx hp8 kp8 => ?_⟩⟩
    have kp : Keep p c H4 H8 := (Keep.new nL).trans kp8
    have at_ : ∀ {a : Addr} {o : HO} {H' : Hp}, Ext H H' → H' a = none → H4 a = some o → nw H H8 a = some o := fun {a o H'} e hn h6 => by
      obtain ⟨q1, q2⟩ := (hp.ext e).ne hn
      rw [nw_at (ext_free e hn)]
      exact kp a o h6 q1.symm q2.symm
    have g1 := at_ Ext.rfl' n1 (e4 _ _ (e3 _ _ (e2 _ _ f1)))
    have g2 := at_ e1 n2 (e4 _ _ (e3 _ _ f2))
    have g3 := at_ (e1.trans e2) n3 (e4 _ _ f3)
    have g4 := at_ (e1.trans (e2.trans e3)) n4 f4
    have tx : ∃ d, d ∈ oddD ∧ TV (nw H H8) x d := by
      simp only [List.mem_cons, List.not_mem_nil, or_false] at hx
      rcases hx with rfl | rfl | rfl | rfl | rfl | rfl | rfl | rfl | rfl | rfl | rfl | rfl | rfl | rfl | rfl | rfl
      · exact ⟨_, odd_at 0 rfl, .non⟩
      · exact ⟨_, odd_at 1 rfl, .bl _⟩
      · exact ⟨_, odd_at 2 rfl, .int _⟩
      · exact ⟨_, odd_at 3 rfl, .int _⟩
      · exact ⟨_, odd_at 4 rfl, .str _⟩
      · exact ⟨_, odd_at 5 rfl, .str _⟩
      · exact ⟨_, odd_at 6 rfl, .str _⟩
      · exact ⟨_, odd_at 7 rfl, .str _⟩
      · exact ⟨_, odd_at 8 rfl, .str _⟩
      · exact ⟨_, odd_at 9 rfl, .str _⟩
      · exact ⟨_, odd_at 10 rfl, .str _⟩
      · exact ⟨_, odd_at 11 rfl, .str _⟩
      · exact ⟨_, odd_at 12 rfl, .tup g1 (.cons (.str _) .nil)⟩
      · exact ⟨_, odd_at 13 rfl, .lst g2 (.cons (.str _) .nil)⟩
      · exact ⟨_, odd_at 14 rfl, .dct g3 (.cons (.str _) .nil) (.cons (.int _) .nil)⟩
      · exact ⟨_, odd_at 15 rfl, .dct g4 .nil .nil⟩
    obtain ⟨d, hd, hv⟩ := tx
    exact k x d H8 hd hv hp8 ((Keep.ext e04).trans kp)
/-! ### _law_values -/
def spVals : Sp := fun vs H Q _ => ∃ (p c : Addr) (n : Nat) (many : Int), vs = [.ref p, .int many] ∧ PenAt H p c n ∧ n < 900000 ∧ 0 ≤ many ∧ many ≤ 10 ∧
  ∀ l xs ds H', H l = none → H' l = some (.lst xs) → l ≠ p → l ≠ c → TVs (vis [p, c, l] H') xs ds → (∀ d ∈ ds, Ask d) → (xs.length : Int) = many → PenAt H' p c (n + 40) → Keep p c H H' → Q (.ref l) H'
abbrev s__law_values : Stmt := top 31
abbrev N__law_values : List Str := ["_law_pen_here", "_law_many", "_law_found", "_law_k", "_law_way"]
theorem sc__law_values : FnScope N__law_values ["_law_pen_here", "_law_many"] (defScope s__law_values) := ⟨rfl, rfl, rfl, by decide +kernel, rfl, by decide +kernel, by decide +kernel⟩
theorem ok_vals {f : Addr} {fd : FuncData} (F : Fun K "_law_values" "_law_values" s__law_values f fd) (T : Tx K mg CE CN CB CW CY CD CU CM CO tL tN tU) (c__law_draw : Cal P w K mg base CX0 1 "_law_draw" spDraw) (c__law_pick : Cal P w K mg base CX0 2 "_law_pick" (spPick K)) (c__law_odd : Cal P w K mg base CX0 3 "_law_odd" spOdd) :
    FnOk P w K mg base CX0 4 f fd ["_law_pen_here", "_law_many"] spVals := by
  refine F.ok sc__law_values (fun vs H Q E h => ?_) (fun cdv A outer s H vs Q E hr h => ?_)
  · obtain ⟨p, c, n, many, rfl, _⟩ := h
    rfl
  · obtain ⟨p, c, n, many, rfl, hp, hn, m0, m1, k⟩ := h
    have h4 : sizeLine = 16777216 := sizeLine_eq
    refine ⟨_, (pss_cons (ps_set (i := 2) sc__law_values.nd rfl (by first | exact Or.inl rfl | exact Or.inr rfl) (pe_lst pa_nil))
      (pss_cons (ps_for PassesOwn.never rfl (pi_range1 rfl (T.bn _ (by decide +kernel)) (pa_cons (pv 1) pa_nil)) (pg_name (i := 3) sc__law_values.nd rfl (by first | exact Or.inl rfl | exact Or.inr rfl))
      (pss_cons (ps_set (i := 4) sc__law_values.nd rfl (by first | exact Or.inl rfl | exact Or.inr rfl) (pe_cal c__law_draw (hr.mono (by decide)) (by rfl) pass0 (pa_cons (pv 0) (pa_cons pe_int pa_nil))))
      (pss_cons (ps_expr (pe_bm PySem.F.plainAttrs_list PySem.F.slot_list_append PySem.F.type_list_append mt_append (pv 2) (pa_cons (pe_cal c__law_pick (hr.mono (by decide)) (by rfl) pass0 (pa_cons (pv 0) (pa_cons (pe_lst (pa_cons pe_str (pa_cons pe_str (pa_cons pe_str (pa_cons pe_str (pa_cons pe_str (pa_cons pe_str pa_nil))))))) pa_nil))) pa_nil)))
      (pss_cut (ps_if (pt_cmpR op_eq (pv 4) pe_int (nomark _)) (pss_one (ps_asg (pe_cal c__law_odd (hr.mono (by decide)) (by rfl) pass0 (pa_cons (pv 0) pa_nil)) (pg_sub (pv 2) (pe_un un_neg pe_int) set_list))) pss_nil)
      (pss_one (ps_if (pt_cmpR op_eq (pv 4) pe_int (nomark _)) (pss_one (ps_asg (pe_ix ix_list (pv 2) (pe_cal c__law_draw (hr.mono (by decide)) (by rfl) pass0 (pa_cons (pv 0) (pa_cons (pe_callB call_len_seq (by rfl) (T.bn _ (by decide +kernel)) (by decide +kernel) (pa_cons (pv 2) pa_nil)) pa_nil))) (fun _ _ => rfl)) (pg_sub (pv 2) (pe_un un_neg pe_int) set_list))) pss_nil))))))
      (pss_one (ps_ret (pv 2))))), ?_⟩
    refine ⟨(by show 0 ≤ sizeLine; decide), fun l nl => ?_⟩
    obtain ⟨npl, ncl⟩ := hp.ne nl
    have e0 : Ext H (upd H l (.lst [])) := Ext.upd nl
    have inS : ∀ {H' : Hp} {m : Nat}, PenAt H' p c m → H' l ≠ none → ∀ b ∈ [p, c, l], H' b ≠ none := fun {H' m} hp' hl' b hb z => by
      obtain ⟨q1, q2⟩ := hp'.ne z
      simp only [List.mem_cons, List.not_mem_nil, or_false] at hb
      rcases hb with rfl | rfl | rfl
      · exact q1 rfl
      · exact q2 rfl
      · exact hl' z
    refine ⟨_, rfl, many, rfl, by omega, by omega, ?_⟩
    refine for_range (fun i σ H' => ∃ (x3 x4 : Option V) (xs : List V) (ds : List PyData), σ = [some (.ref p), some (.int many), some (.ref l), x3, x4] ∧ PenAt H' p c (n + 4 * i) ∧ Keep p c H H' ∧ H' l = some (.lst xs) ∧ TVs (vis [p, c, l] H') xs ds ∧ (∀ d ∈ ds, Ask d) ∧ xs.length = i)
      ⟨_, _, [], [], rfl, (hp.upd npl ncl).mono (by omega), Keep.new nl, upd_same, .nil, by simp, rfl⟩ ?_ ?_
    · rintro i σ H1 hi ⟨x3, x4, xs, ds, rfl, hp1, kp1, hl1, tv1, as1, hln⟩
      refine ⟨_, rfl, p, c, _, 8, rfl, hp1, by omega, by decide, by decide, fun wy H2 w0 w1 hp2 kp2 => ?_⟩
      have hl2 := kp2 l _ hl1 npl.symm ncl.symm
      have tv2 := tv1.ext (vis_keep kp2 (by simp) (by simp))
      refine ⟨_, rfl, .inl ⟨rfl, _, SqL.of hl2⟩, _, rfl, (by show 6 ≤ sizeLine; decide), fun L nL => ?_⟩
      obtain ⟨npL, ncL⟩ := hp2.ne nL
      refine ⟨p, c, _, _, rfl, hp2.upd npL ncL, by omega, .inl ⟨L, _, rfl, npL.symm, ncL.symm, upd_same, by simp, by simp, fun x H3 hx hp3 kp3 => ?_⟩⟩
      have k23 : Keep p c H2 H3 := (Keep.new nL).trans kp3
      obtain ⟨z, rfl, hz⟩ : ∃ z, x = .str z ∧ OkS 6 z := by
        simp only [List.mem_cons, List.not_mem_nil, or_false] at hx
        rcases hx with rfl | rfl | rfl | rfl | rfl | rfl
        all_goals exact ⟨_, rfl, ok_lit (by decide +kernel)⟩
      have hl3 := k23 l _ hl2 npl.symm ncl.symm
      have tv3 := tv2.ext (vis_keep k23 (by simp) (by simp))
      refine ⟨l, xs, _, rfl, rfl, hl3, by omega, ?_⟩
      -- the list with one more
      have upS : ∀ {G : Hp} {o : HO}, vis [p, c, l] (upd G l o) = vis [p, c, l] G := fun {G o} => by
        funext b
        unfold vis
        by_cases hb : b ∈ [p, c, l]
        · rw [if_pos hb, if_pos hb]
        · rw [if_neg hb, if_neg hb, upd_ne (fun z => hb (by simp [z]))]
      have hkH : ∀ {G : Hp} {o : HO}, Keep p c H G → Keep p c H (upd G l o) := fun {G o} kg b u q h1 h2 => by
        rw [upd_ne (ne_of_none q nl)]
        exact kg b u q h1 h2
      have k03 : Keep p c H H3 := kp1.trans (kp2.trans k23)
      refine ⟨fun σ' H' => ∃ (y : V) (d : PyData), σ' = [some (.ref p), some (.int many), some (.ref l), some (.int (0 + (i : Int))), some (.int wy)] ∧ PenAt H' p c (n + 4 * i + 3) ∧ Keep p c H H' ∧ H' l = some (.lst (xs ++ [y])) ∧ TVs (vis [p, c, l] H') xs ds ∧ TV (vis [p, c, l] H') y d ∧ Ask d, ?_, ?_⟩
      · refine ⟨_, rfl, rfl, _, rfl, ?_⟩
        have hp4 : PenAt (upd H3 l (.lst (xs ++ [.str z]))) p c (n + 4 * i + 1 + 1) := hp3.upd npl ncl
        have hl4 : (upd H3 l (.lst (xs ++ [.str z]))) l = some (.lst (xs ++ [.str z])) := upd_same
        have tv4 : TVs (vis [p, c, l] (upd H3 l (.lst (xs ++ [.str z])))) xs ds := by rw [upS]; exact tv3
        have k04 : Keep p c H (upd H3 l (.lst (xs ++ [.str z]))) := hkH k03
        generalize (upd H3 l (.lst (xs ++ [.str z]))) = H4 at hp4 hl4 tv4 k04
        refine ite2 (fun _ => ?_) (fun _ => ?_)
        · refine ⟨_, rfl, p, c, _, rfl, hp4, by omega, fun v d H5 hd hv hp5 kp5 => ?_⟩
          have hl5 := kp5 l _ hl4 npl.symm ncl.symm
          refine ⟨_, rfl, 1, rfl, l, _, -1, xs.length, rfl, rfl, hl5, ?_, ?_⟩
          · show (if (0 : Int) ≤ -1 then _ else if -((xs ++ [V.str z]).length : Int) ≤ -1 then some ((-1 : Int) + ((xs ++ [V.str z]).length : Int)).toNat else none) = _
            rw [if_neg (by decide), if_pos (by rw [List.length_append]; simp; omega), List.length_append]
            simp
            omega
          · have es : (xs ++ [V.str z]).set xs.length v = xs ++ [v] := by
              rw [List.set_append_right _ _ (Nat.le_refl _), Nat.sub_self]
              rfl
            rw [es]
            refine ⟨v, d, rfl, (hp5.upd npl ncl).mono (by omega), hkH (k04.trans kp5), upd_same, ?_, ?_, (odd_of hd).2⟩
            · rw [upS]
              exact tv4.ext (vis_keep kp5 (by simp) (by simp))
            · rw [upS]
              exact tv_nw (inS hp4 (by rw [hl4]; simp)) hv
        · exact ⟨.str z, .str z, rfl, hp4.mono (by omega), k04, hl4, tv4, .str z, Ask.str hz (by decide)⟩
      · rintro σ' H4 ⟨y, d, rfl, hp4, k04, hl4, tv0, tvy, ad⟩
        have tv4 := tv0.snoc tvy
        have len1 : (xs ++ [y]).length = i + 1 := by rw [List.length_append]; simp [hln]
        refine ⟨_, rfl, rfl, _, rfl, ?_⟩
        have asd : ∀ e, Ask e → ∀ d' ∈ ds ++ [e], Ask d' := fun e he d' hd' => by
          rcases List.mem_append.mp hd' with q | q
          · exact as1 d' q
          · rw [List.mem_singleton.mp q]; exact he
        refine ite2 (fun _ => ?_) (fun _ => ?_)
        · refine ⟨_, rfl, _, rfl, _, rfl, l, _, rfl, .inl (SqL.of hl4), p, c, _, _, rfl, hp4, by omega, by rw [len1]; omega, by rw [len1]; omega, fun j H5 j0 j1 hp5 kp5 => ?_⟩
          rw [len1] at j1
          have hl5 := kp5 l _ hl4 npl.symm ncl.symm
          have tv5 := tv4.ext (vis_keep kp5 (by simp) (by simp))
          obtain ⟨x', hx'⟩ : ∃ x', (xs ++ [y])[j.toNat]? = some x' := ⟨_, List.getElem?_eq_getElem (by rw [len1]; omega)⟩
          obtain ⟨d', hd', hv'⟩ := tv5.at_ hx'
          have ad' : Ask d' := asd d ad d' (List.mem_of_getElem? hd')
          refine ⟨l, _, j, x', rfl, rfl, SqL.of hl5, atI_at (j := j.toNat) (by omega) hx', ?_⟩
          refine ⟨_, rfl, 1, rfl, l, _, -1, xs.length, rfl, rfl, hl5, ?_, ?_⟩
          · show (if (0 : Int) ≤ -1 then _ else if -((xs ++ [y]).length : Int) ≤ -1 then some ((-1 : Int) + ((xs ++ [y]).length : Int)).toNat else none) = _
            rw [if_neg (by decide), if_pos (by rw [List.length_append]; simp; omega), List.length_append]
            simp
            omega
          · have es : (xs ++ [y]).set xs.length x' = xs ++ [x'] := by
              rw [List.set_append_right _ _ (Nat.le_refl _), Nat.sub_self]
              rfl
            rw [es]
            have tvx : TVs (vis [p, c, l] H5) xs ds := tv0.ext (vis_keep kp5 (by simp) (by simp))
            refine ⟨_, _, xs ++ [x'], ds ++ [d'], rfl, (hp5.upd npl ncl).mono (by omega), hkH (k04.trans kp5), upd_same, ?_, asd d' ad', by rw [List.length_append]; simp [hln]⟩
            rw [upS]
            exact tvx.snoc hv'
        · exact ⟨_, _, xs ++ [y], ds ++ [d], rfl, hp4.mono (by omega), k04, hl4, tv4, asd d ad, len1⟩
    · rintro σ H1 ⟨x3, x4, xs, ds, rfl, hp1, kp1, hl1, tv1, as1, hln⟩
      exact ⟨_, rfl, k l xs ds H1 nl hl1 npl.symm ncl.symm tv1 as1 (by omega) (hp1.mono (by omega)) kp1⟩
end
end K02
end
section
set_option Elab.async false
set_option autoImplicit false
set_option linter.all false
set_option maxRecDepth 100000
set_option maxHeartbeats 4000000
namespace K02
open PySem PySem.Spec PyProof.Rows L2 Ls
open C8 (pss_cut tCut)
open TL
theorem in_three (n : Nat) : inV (.int n) ([.int 1, .int 2, .int 3] : List V) = decide (1 ≤ n ∧ n ≤ 3) := by
  by_cases h : n ≤ 3
  · have hc : n = 0 ∨ n = 1 ∨ n = 2 ∨ n = 3 := by omega
    rcases hc with rfl | rfl | rfl | rfl <;> rfl
  · have e : ∀ k : Int, k ≤ 3 → eqV (.int k) (.int n) = false := fun k hk => by
      show (k == (n : Int)) = false
      exact beq_eq_false_iff_ne.mpr (by omega)
    show (eqV (.int 1) (.int n) || (eqV (.int 2) (.int n) || (eqV (.int 3) (.int n) || false))) = _
    rw [e 1 (by decide), e 2 (by decide), e 3 (by decide), decide_eq_false (by omega)]
    rfl
theorem map_catS (a b : List Str) : a.map V.str ++ b.map V.str = (a ++ b).map V.str := by rw [List.map_append]
theorem list_of_get {ys : List V} {r : List Str} (hl : ys.length = r.length) (h : ∀ (j : Nat) (y : V), ys[j]? = some y → ∃ z, r[j]? = some z ∧ y = .str z) : ys = r.map V.str := by
  refine List.ext_getElem? fun j => ?_
  cases q : ys[j]? with
  | none =>
    have : ys.length ≤ j := List.getElem?_eq_none_iff.mp q
    symm
    rw [List.getElem?_eq_none_iff, List.length_map]
    omega
  | some y =>
    obtain ⟨z, hz, rfl⟩ := h j y q
    rw [List.getElem?_map, hz]
    rfl
section
variable {P : Program} {w : World} {K : PySem.W.Frag} {mg : Str → Option Value} {base : Heap} {CE CN CB CW CY CD CU CM CO : Addr} {tL tN tU : Tok}
/-! ### _law_is_text -/
def spText : Sp := fun vs H Q _ => ∃ z : Str, vs = [.str z] ∧ z.length ≤ 900 ∧ ∀ H', Ext H H' → Q (.bl (readOk (.str z))) H'
abbrev s__law_is_text : Stmt := top 32
abbrev N__law_is_text : List Str := ["_law_text", "_law_words", "_law_used_here", "_law_word"]
theorem sc__law_is_text : FnScope N__law_is_text ["_law_text"] (defScope s__law_is_text) := ⟨rfl, rfl, rfl, by decide +kernel, rfl, by decide +kernel, by decide +kernel⟩
theorem ok_text {f : Addr} {fd : FuncData} (F : Fun K "_law_is_text" "_law_is_text" s__law_is_text f fd) (T : Tx K mg CE CN CB CW CY CD CU CM CO tL tN tU) (c__law_is_name : Cal P w K mg base CX0 1 "_law_is_name" spName) : FnOk P w K mg base CX0 2 f fd ["_law_text"] spText := by
  refine F.ok sc__law_is_text (fun vs H Q E h => ?_) (fun cdv A outer s H vs Q E hr h => ?_)
  · obtain ⟨z, rfl, _⟩ := h
    rfl
  · obtain ⟨z, rfl, hz, k⟩ := h
    have h4 : sizeLine = 16777216 := sizeLine_eq
    refine ⟨_, (pss_cons (ps_set (i := 1) sc__law_is_text.nd rfl (by first | exact Or.inl rfl | exact Or.inr rfl) (pe_split (pv 0) pe_str))
      (pss_cut (ps_set (i := 2) sc__law_is_text.nd rfl (by first | exact Or.inl rfl | exact Or.inr rfl) (pe_ifExp (pt_cmpR op_eq (pe_ix ix_list (pv 1) pe_int (fun _ _ => rfl)) pe_str (nomark _)) (pe_slice sl_list (pv 1) (po_some pe_int) po_none) (pe_slice sl_list (pv 1) (po_some pe_int) po_none)))
      (pss_cons (ps_if ((pw_or (pt_cmpR (op_neNil hr) (pe_lc (own := [("_law_word", 3)]) rfl sc__law_is_text.nd (pi_list (pe_slice sl_list (pv 1) (po_some pe_int) po_none)) (blkOk_by (own := [("_law_word", 3)]) (N := N__law_is_text) (sc := defScope s__law_is_text) (by decide +kernel)) (fun _ _ _ _ _ => (pg_name (i := 3) sc__law_is_text.nd rfl (by first | exact Or.inl rfl | exact Or.inr rfl))) (fun _ _ _ _ _ => pts_one (pt_not (pt_val (pe_cal c__law_is_name (hr.mono (by decide)) (by rfl) pass0 (pa_cons (pv 3) pa_nil))))) (fun _ _ _ _ _ => (pv 3))) (pe_lst pa_nil) (nomark _)) (pw_or1 (pt_cmpR op_lt (pe_callB call_len_seq (by rfl) (T.bn _ (by decide +kernel)) (by decide +kernel) (pa_cons (pv 1) pa_nil)) pe_int (nomark _))))).pt (pss_one (ps_ret pe_bl)) pss_nil)
      (pss_cons (ps_if (pt_cmpR op_eq (pe_ix ix_list (pv 1) pe_int (fun _ _ => rfl)) pe_str (nomark _)) (pss_one (ps_ret (pe_cmpR op_eq (pe_callB call_len_seq (by rfl) (T.bn _ (by decide +kernel)) (by decide +kernel) (pa_cons (pv 1) pa_nil)) pe_int (nomark _)))) pss_nil)
      (pss_cons (ps_if ((pw_or (pt_cmpR op_notIn_seq (pe_ix ix_list (pv 1) pe_int (fun _ _ => rfl)) (pe_tup (pa_cons pe_str (pa_cons pe_str pa_nil))) rfl) (pw_or1 (pt_cmpR op_notIn_seq (pe_callB call_len_seq (by rfl) (T.bn _ (by decide +kernel)) (by decide +kernel) (pa_cons (pv 2) pa_nil)) (pe_tup (pa_cons pe_int (pa_cons pe_int (pa_cons pe_int pa_nil)))) rfl)))).pt (pss_one (ps_ret pe_bl)) pss_nil)
      (pss_one (ps_ret (pe_cmpR op_eq (pe_callB cr_lenT (by rfl) (T.bn _ (by decide +kernel)) (by decide +kernel) (pa_cons (pe_callTy (cr_setT rfl) (by rfl) (T.bn _ (by decide +kernel)) (by decide +kernel) (pa_cons (pe_lc (own := [("_law_word", 3)]) rfl sc__law_is_text.nd (pi_list (pv 2)) (blkOk_by (own := [("_law_word", 3)]) (N := N__law_is_text) (sc := defScope s__law_is_text) (by decide +kernel)) (fun _ _ _ _ _ => (pg_name (i := 3) sc__law_is_text.nd rfl (by first | exact Or.inl rfl | exact Or.inr rfl))) (fun _ _ _ _ _ => pts_nil) (fun _ _ _ _ _ => (pe_callTy SkE.call_str_str (by rfl) (T.bn _ (by decide +kernel)) (by decide +kernel) (pa_cons (pv 3) pa_nil)))) pa_nil)) pa_nil)) (pe_callB call_len_seq (by rfl) (T.bn _ (by decide +kernel)) (by decide +kernel) (pa_cons (pv 2) pa_nil)) (nomark _))))))))), ?_⟩
    refine ⟨_, rfl, ⟨_, rfl⟩, _, _, rfl, rfl, (by decide +kernel), by omega, fun l nl => ?_⟩
    have hro : readOk (.str z) = rowOk (Txt.split z " ") := rfl
    have hsub : ∀ p ∈ Txt.split z " ", p.length ≤ 1000 := fun p hp => Nat.le_trans (split_sub (x := z) sp_tl sp_kd hp).1 (by omega)
    have hne : Txt.split z " " ≠ [] := split_ne sp_tl sp_kd
    have hcnt : (Txt.split z " ").length ≤ 901 := Nat.le_trans (split_len sp_tl sp_kd) (by omega)
    generalize Txt.split z " " = ws at hro hsub hne hcnt
    rw [hro] at k
    have e1 : Ext H (upd H l (.lst (ws.map V.str))) := Ext.upd nl
    have f1 : (upd H l (.lst (ws.map V.str))) l = some (.lst (ws.map V.str)) := upd_same
    generalize (upd H l (.lst (ws.map V.str))) = H1 at e1 f1
    obtain ⟨w0, r, rfl⟩ : ∃ w0 r, ws = w0 :: r := by
      cases ws with
      | nil => exact absurd rfl hne
      | cons a b => exact ⟨a, b, rfl⟩
    have lm : ((w0 :: r).map V.str).length = r.length + 1 := by simp
    have hrl : r.length ≤ 900 := by simp at hcnt; omega
    -- the used ones
    obtain ⟨us, hus⟩ : ∃ us, us = (if w0 = "use" then r else r.drop 1) := ⟨_, rfl⟩
    have usl : us.length ≤ 900 := by
      rw [hus]
      split
      · exact hrl
      · rw [List.length_drop]; omega
    refine ⟨fun σ' H' => ∃ q, σ' = [some (.str z), some (.ref l), some (.ref q), none] ∧ Ext H1 H' ∧ H' q = some (.lst (us.map V.str)), ?_, ?_⟩
    · refine ⟨_, rfl, l, _, 0, .str w0, rfl, rfl, SqL.of f1, atI_nat (j := 0) rfl, rfl, _, rfl, ?_⟩
      by_cases hu : w0 = "use"
      · refine iteYes (by rw [hu]; exact decide_eq_true rfl) ?_
        rw [if_pos hu] at hus
        refine ⟨_, rfl, 1, rfl, l, _, rfl, SqL.of f1, fun q nq => ⟨q, rfl, Ext.upd nq, ?_⟩⟩
        rw [upd_same, cutM_from _ (show (0 : Int) ≤ 1 by decide), hus]
        rfl
      · refine iteNo (strNo hu) ?_
        rw [if_neg hu] at hus
        refine ⟨_, rfl, 2, rfl, l, _, rfl, SqL.of f1, fun q nq => ⟨q, rfl, Ext.upd nq, ?_⟩⟩
        rw [upd_same, cutM_from _ (show (0 : Int) ≤ 2 by decide), hus]
        rfl
    rintro σ' H2 ⟨q, rfl, e2, f2⟩
    have e02 := e1.trans e2
    have hl2 := e2 _ _ f1
    -- the names
    refine ⟨_, rfl, 1, rfl, l, _, rfl, SqL.of hl2, fun q3 n3 => ?_⟩
    rw [cutM_from _ (show (0 : Int) ≤ 1 by decide), show (w0 :: r).drop (1 : Int).toNat = r from rfl]
    have e3 : Ext H2 (upd H2 q3 (.lst (r.map V.str))) := Ext.upd n3
    have f3 : (upd H2 q3 (.lst (r.map V.str))) q3 = some (.lst (r.map V.str)) := upd_same
    generalize (upd H2 q3 (.lst (r.map V.str))) = H3 at e3 f3
    refine ⟨q3, rfl, ⟨_, SqL.of f3⟩, fun D hD => ?_⟩
    refine lc_it (walk_list (xs := r.map V.str)) (fun i H' => ∃ ys : List V, Ext H3 H' ∧ H' D = some (.lst ys) ∧ ys.length ≤ i ∧ ys.isEmpty = (r.take i).all isName) ⟨[], Ext.upd hD, upd_same, Nat.le_refl _, by simp⟩ (fun i H' _ ⟨_, e, _⟩ => SqL.of (e _ _ f3)) ?_ ?_
    · rintro i x H4 _ hi ⟨ys, e4, hD4, hyl, hye⟩ ⟨rfl, hx⟩
      rw [List.getElem?_map] at hx
      obtain ⟨y, hy, rfl⟩ := Option.map_eq_some_iff.mp hx
      have hyl' : y.length ≤ 1000 := hsub y (List.mem_cons_of_mem _ (List.mem_of_getElem? hy))
      have et : (r.take (i + 1)).all isName = ((r.take i).all isName && isName y) := by
        rw [List.take_add_one, hy, List.all_append]
        simp
      rw [List.length_map] at hi
      refine ⟨rfl, _, rfl, _, .str y, rfl, .str y, fun z' e => by cases e; exact hyl', fun H5 e5 => ⟨_, rfl, ?_⟩⟩
      cases hn : isName y with
      | true =>
        rw [nameOf_str hn]
        refine iteF ?_
        exact ⟨ys, e4.trans e5, e5 _ _ hD4, by omega, by rw [et, hn, Bool.and_true]; exact hye⟩
      | false =>
        rw [nameOf_no hn]
        refine iteT ?_
        refine ⟨_, rfl, ys, e5 _ _ hD4, by omega, ys ++ [.str y], ?_, upd_same, by rw [List.length_append]; simp; omega, by rw [et, hn, Bool.and_false]; simp⟩
        intro b o qq
        rw [upd_ne (ne_of_none qq hD)]
        exact e5 _ _ (e4 _ _ qq)
    · rintro H4 ⟨ys, e4, hD4, hyl, hye⟩
      rw [List.length_map, List.take_length] at hye
      refine ⟨(by show 0 ≤ sizeLine; decide), fun E0 nE => ?_⟩
      have e5 : Ext H4 (upd H4 E0 (.lst [])) := Ext.upd nE
      refine ⟨D, E0, ys, rfl, rfl, e5 _ _ hD4, upd_same, _, rfl, ?_⟩
      generalize (upd H4 E0 (.lst [])) = H5 at e5
      have e35 : Ext H2 H5 := e3.trans (e4.trans e5)
      have e05 := e02.trans e35
      have hl5 := e35 _ _ hl2
      have hq5 := e35 _ _ f2
      have no : rowOk (w0 :: r) = false → Q (.bl false) H5 := fun h => by
        have := k H5 e05
        rw [h] at this
        exact this
      cases ha : r.all isName with
      | false =>
        refine iteYes (by rw [hye, ha]; rfl) ?_
        refine no ?_
        show (r.all isName && _) = false
        rw [ha]
        rfl
      | true =>
        refine iteNo (by rw [hye, ha]; rfl) ?_
        refine ⟨_, rfl, l, _, rfl, .inl (SqL.of hl5), _, _, rfl, rfl, _, rfl, ?_⟩
        by_cases hr0 : r = []
        · subst hr0
          refine iteYes (decide_eq_true (by show ((1 : Nat) : Int) < 2; decide)) ?_
          exact no rfl
        · have hemp : (!r.isEmpty) = true := by cases r <;> first | rfl | exact absurd rfl hr0
          have hr1 : 1 ≤ r.length := List.length_pos_iff.mpr hr0
          have hrow : rowOk (w0 :: r) = (if w0 = "make" then decide (r.length = 1) else (decide (1 ≤ (usedOf w0 r).length) && (decide ((usedOf w0 r).length ≤ 3) && decide (usedOf w0 r).Nodup))) := by
            show (r.all isName && (!r.isEmpty && _)) = _
            rw [ha, hemp, Bool.true_and, Bool.true_and]
          refine iteNo (decide_eq_false (by rw [lm]; omega)) ?_
          refine ⟨_, rfl, l, _, 0, .str w0, rfl, rfl, SqL.of hl5, atI_nat (j := 0) rfl, rfl, _, rfl, ?_⟩
          by_cases hm : w0 = "make"
          · refine iteYes (by rw [hm]; exact decide_eq_true rfl) ?_
            refine ⟨_, rfl, l, _, rfl, .inl (SqL.of hl5), rfl, ?_⟩
            have eb : decide (V.int ((w0 :: r).map V.str).length = V.int 2) = rowOk (w0 :: r) := by
              rw [hrow, if_pos hm, lm]
              by_cases h1 : r.length = 1
              · rw [h1]
                rfl
              · rw [decide_eq_false h1]
                exact decide_eq_false fun qq => h1 (by have := V.int.inj qq; omega)
            rw [eb]
            exact k H5 e05
          · refine iteNo (strNo hm) ?_
            rw [if_neg hm] at hrow
            refine ⟨_, rfl, l, _, 0, .str w0, rfl, rfl, SqL.of hl5, atI_nat (j := 0) rfl, (by show 2 ≤ sizeLine; decide), fun t2 nt2 => ?_⟩
            refine ⟨t2, _, rfl, .inr (SqT.of upd_same), rfl, rfl, _, rfl, ?_⟩
            have e6 : Ext H5 (upd H5 t2 (.tup [.str "use", .str "do"])) := Ext.upd nt2
            generalize (upd H5 t2 (.tup [.str "use", .str "do"])) = H6 at e6
            have hin : inV (.str w0) ([.str "use", .str "do"] : List V) = decide (w0 ∈ (["use", "do"] : List Str)) := inV_strs w0 ["use", "do"]
            rw [hin]
            have e06 := e05.trans e6
            have no6 : rowOk (w0 :: r) = false → Q (.bl false) H6 := fun h => by
              have := k H6 e06
              rw [h] at this
              exact this
            by_cases hw : w0 ∈ (["use", "do"] : List Str)
            case neg =>
              refine iteYes (by rw [decide_eq_false hw]; rfl) ?_
              refine no6 ?_
              have : usedOf w0 r = [] := by
                unfold usedOf
                rw [if_neg fun e => hw (by simp [e]), if_neg fun e => hw (by simp [e])]
              rw [hrow, this]
              rfl
            refine iteNo (by rw [decide_eq_true hw]; rfl) ?_
            have hue : usedOf w0 r = us := by
              unfold usedOf
              rw [hus]
              by_cases hu : w0 = "use"
              · rw [if_pos hu, if_pos hu]
              · rw [if_neg hu, if_neg hu, if_pos]
                simpa [hu] using hw
            rw [hue] at hrow
            have hq6 := e6 _ _ hq5
            have lu : (us.map V.str).length = us.length := List.length_map _
            refine ⟨_, rfl, q, _, rfl, .inl (SqL.of hq6), (by show 3 ≤ sizeLine; decide), fun t3 nt3 => ?_⟩
            refine ⟨t3, _, rfl, .inr (SqT.of upd_same), rfl, rfl, _, rfl, ?_⟩
            have e7 : Ext H6 (upd H6 t3 (.tup [.int 1, .int 2, .int 3])) := Ext.upd nt3
            generalize (upd H6 t3 (.tup [.int 1, .int 2, .int 3])) = H7 at e7
            rw [in_three, lu]
            have e07 := e06.trans e7
            have hq7 := e7 _ _ hq6
            by_cases h13 : 1 ≤ us.length ∧ us.length ≤ 3
            case neg =>
              refine iteYes (by rw [decide_eq_false h13]; rfl) ?_
              have hf : rowOk (w0 :: r) = false := by
                rw [hrow]
                by_cases h1 : 1 ≤ us.length
                · rw [decide_eq_false (show ¬ us.length ≤ 3 from fun h => h13 ⟨h1, h⟩), Bool.false_and, Bool.and_false]
                · rw [decide_eq_false h1, Bool.false_and]
              have := k H7 e07
              rw [hf] at this
              exact this
            refine iteNo (by rw [decide_eq_true h13]; rfl) ?_
            rw [decide_eq_true h13.1, decide_eq_true h13.2, Bool.true_and, Bool.true_and] at hrow
            -- each once
            refine ⟨_, rfl, q, rfl, ⟨_, SqL.of hq7⟩, fun D2 hD2 => ?_⟩
            refine lc_map (walk_list (xs := us.map V.str)) [D2] (by simp) (fun H' => Ext H7 H') (fun j y _ => ∃ z, us[j]? = some z ∧ y = .str z) (by omega) (fun _ _ _ _ _ h => h)
              (fun H' o hh b o' z => by rw [upd_ne (ne_of_none z hD2)]; exact hh b o' z) (Ext.upd hD2) (fun H' _ hh => SqL.of (hh _ _ hq7)) ?_ ?_
            · rintro j x H8 _ acc C hj e hh8 hD8 ⟨rfl, hx⟩ hC
              rw [List.getElem?_map] at hx
              obtain ⟨y, hy, rfl⟩ := Option.map_eq_some_iff.mp hx
              exact ⟨rfl, _, rfl, _, rfl, hC _ _ hD8 Ext.rfl' hh8 ⟨y, hy, rfl⟩⟩
            · intro H8 zs e hh8 hD8 hlen8 hy8
              have hzs := list_of_get (by rw [lu] at hlen8; exact hlen8) hy8
              subst hzs
              refine ⟨D2, us, rfl, SqL.of hD8, by omega, fun S M nS nd lM mM => ?_⟩
              have e9 : Ext H8 (upd H8 S (SetT w S M)) := Ext.upd nS
              refine ⟨S, M, rfl, upd_same, _, rfl, q, _, rfl, .inl (SqL.of (e9 _ _ (hh8 _ _ hq7))), rfl, ?_⟩
              have eb : decide (V.int (M.length : Nat) = V.int (us.map V.str).length) = rowOk (w0 :: r) := by
                rw [hrow, lu]
                by_cases hd : us.Nodup
                · rw [decide_eq_true hd, (card_iff nd mM).mpr hd]
                  exact decide_eq_true rfl
                · rw [decide_eq_false hd]
                  exact decide_eq_false fun qq => hd ((card_iff nd mM).mp (by have := V.int.inj qq; omega))
              rw [eb]
              exact k _ (e07.trans (hh8.trans e9))
end
end K02
end
section
set_option Elab.async false
set_option autoImplicit false
set_option linter.all false
set_option maxRecDepth 100000
set_option maxHeartbeats 4000000
namespace K02
open PySem PySem.Spec PyProof.Rows L2 Ls
open C8 (pss_cut tCut)
open TL
theorem sum_le {B : Nat} : ∀ {l : List Str}, (∀ z ∈ l, OkS B z) → (l.map (·.length)).sum ≤ l.length * B
  | [], _ => by simp
  | z :: r, h => by
    have := sum_le (l := r) fun x hx => h x (List.mem_cons_of_mem _ hx)
    have h1 := (h z (by simp)).1
    simp only [List.map_cons, List.sum_cons, List.length_cons, Nat.succ_mul]
    omega
theorem join_ok {B n : Nat} {l : List Str} (h : ∀ z ∈ l, OkS B z) (hn : l.length * (B + 1) ≤ n) : (l.map (·.length)).sum + l.length * (" " : Str).length ≤ n ∧ OkS n (Txt.join " " l) := by
  have e1 : (" " : Str).length = 1 := by decide +kernel
  have h1 := sum_le h
  have h2 : l.length * (B + 1) = l.length * B + l.length := Nat.mul_succ _ _
  have h3 : (l.map (·.length)).sum + l.length * (" " : Str).length ≤ n := by rw [e1]; omega
  refine ⟨h3, ?_, ?_⟩
  · rw [join_eq]
    exact Nat.le_trans (StrLaws.join_length_le " " l) h3
  · rw [join_eq, tl_join, sp_tl]
    have : ∀ ps : List (List Nat), (∀ p ∈ ps, ∀ c ∈ p, c < 256) → ∀ c ∈ joinL [32] ps, c < 256 := by
      intro ps
      induction ps with
      | nil => intro _ c hc; simp [joinL] at hc
      | cons a r ih =>
        intro hp c hc
        cases r with
        | nil => exact hp a (by simp) c (by simpa [joinL] using hc)
        | cons b r =>
          rw [joinL_cons _ _ (by simp)] at hc
          rcases List.mem_append.mp hc with hc | hc
          · exact hp a (by simp) c hc
          · rcases List.mem_append.mp hc with hc | hc
            · rw [List.mem_singleton.mp hc]; decide
            · exact ih (fun p hp' => hp p (List.mem_cons_of_mem _ hp')) c hc
    refine this _ fun p hp => ?_
    obtain ⟨q, hq, rfl⟩ := List.mem_map.mp hp
    exact (h q hq).2
section
variable {P : Program} {w : World} {K : PySem.W.Frag} {mg : Str → Option Value} {base : Heap} {CE CN CB CW CY CD CU CM CO : Addr} {tL tN tU : Tok}
/-! ### _law_bent -/
def someS : List Str := ["", "use", "make", "do", "Use", "a", "x", "abcdefg", "1", "a\n", "b", "-", "a ", "load", "c"]
theorem some_ok : ∀ x ∈ someS, OkS 12 x := by
  have : someS.all (fun z => decide (z.length ≤ 12) && (tl z).all fun c => decide (c < 256)) = true := by decide +kernel
  exact fun x hx => ok_lit (List.all_eq_true.mp this x hx)
def spBent : Sp := fun vs H Q _ => ∃ (p c : Addr) (n : Nat), vs = [.ref p] ∧ PenAt H p c n ∧ n < 900000 ∧ ∀ z H', OkS 250 z → PenAt H' p c (n + 20) → Keep p c H H' → Q (.str z) H'
abbrev s__law_bent : Stmt := top 33
abbrev N__law_bent : List Str := ["_law_pen_here", "_law_words", "_law_some", "_law_lap", "_law_at", "_law_other", "_law_way"]
theorem sc__law_bent : FnScope N__law_bent ["_law_pen_here"] (defScope s__law_bent) := ⟨rfl, rfl, rfl, by decide +kernel, rfl, by decide +kernel, by decide +kernel⟩
theorem ok_bent {f : Addr} {fd : FuncData} (F : Fun K "_law_bent" "_law_bent" s__law_bent f fd) (T : Tx K mg CE CN CB CW CY CD CU CM CO tL tN tU) (c__law_draw : Cal P w K mg base CX0 1 "_law_draw" spDraw) (c__law_pick : Cal P w K mg base CX0 2 "_law_pick" (spPick K)) :
    FnOk P w K mg base CX0 3 f fd ["_law_pen_here"] spBent := by
  refine F.ok sc__law_bent (fun vs H Q E h => ?_) (fun cdv A outer s H vs Q E hr h => ?_)
  · obtain ⟨p, c, n, rfl, _⟩ := h
    rfl
  · obtain ⟨p, c, n, rfl, hp, hn, k⟩ := h
    have h4 : sizeLine = 16777216 := sizeLine_eq
    refine ⟨_, (pss_cons (ps_set (i := 1) sc__law_bent.nd rfl (by first | exact Or.inl rfl | exact Or.inr rfl) (pe_split (pe_cal c__law_pick (hr.mono (by decide)) (by rfl) pass0 (pa_cons (pv 0) (pa_cons (pe_lst (pa_cons pe_str (pa_cons pe_str (pa_cons pe_str (pa_cons pe_str (pa_cons pe_str (pa_cons pe_str (pa_cons pe_str pa_nil)))))))) pa_nil))) pe_str))
      (pss_cons (ps_set (i := 2) sc__law_bent.nd rfl (by first | exact Or.inl rfl | exact Or.inr rfl) (pe_lst (pa_cons pe_str (pa_cons pe_str (pa_cons pe_str (pa_cons pe_str (pa_cons pe_str (pa_cons pe_str (pa_cons pe_str (pa_cons pe_str (pa_cons pe_str (pa_cons pe_str (pa_cons pe_str (pa_cons pe_str (pa_cons pe_str (pa_cons pe_str (pa_cons pe_str pa_nil)))))))))))))))))
      (pss_cons (ps_for PassesOwn.never rfl (pi_range1 rfl (T.bn _ (by decide +kernel)) (pa_cons (pe_cal c__law_draw (hr.mono (by decide)) (by rfl) pass0 (pa_cons (pv 0) (pa_cons pe_int pa_nil))) pa_nil)) (pg_name (i := 3) sc__law_bent.nd rfl (by first | exact Or.inl rfl | exact Or.inr rfl))
      (pss_cons (ps_par3 (i := 4) (j := 5) (l := 6) rfl sc__law_bent.nd rfl rfl rfl (by decide) (by decide) (by decide) rfl rfl rfl (pa_cons (pe_cal c__law_draw (hr.mono (by decide)) (by rfl) pass0 (pa_cons (pv 0) (pa_cons (pe_callB call_len_seq (by rfl) (T.bn _ (by decide +kernel)) (by decide +kernel) (pa_cons (pv 1) pa_nil)) pa_nil))) (pa_cons (pe_cal c__law_draw (hr.mono (by decide)) (by rfl) pass0 (pa_cons (pv 0) (pa_cons (pe_callB call_len_seq (by rfl) (T.bn _ (by decide +kernel)) (by decide +kernel) (pa_cons (pv 1) pa_nil)) pa_nil))) (pa_cons (pe_cal c__law_draw (hr.mono (by decide)) (by rfl) pass0 (pa_cons (pv 0) (pa_cons pe_int pa_nil))) pa_nil))) (by rfl))
      (pss_one (ps_if ((pw_and (pt_cmpR op_eq (pv 6) pe_int (nomark _)) (pw_and1 (pt_cmpR op_gt (pe_callB call_len_seq (by rfl) (T.bn _ (by decide +kernel)) (by decide +kernel) (pa_cons (pv 1) pa_nil)) pe_int (nomark _))))).pt (pss_one (ps_set (i := 1) sc__law_bent.nd rfl (by first | exact Or.inl rfl | exact Or.inr rfl) (pe_op op_cat (pe_slice sl_list (pv 1) po_none (po_some (pv 4))) (pe_slice sl_list (pv 1) (po_some (pe_op op_add (pv 4) pe_int)) po_none)))) (pss_one (ps_if (pt_cmpR op_eq (pv 6) pe_int (nomark _)) (pss_one (ps_set (i := 1) sc__law_bent.nd rfl (by first | exact Or.inl rfl | exact Or.inr rfl) (pe_op op_cat (pe_op op_cat (pe_slice sl_list (pv 1) po_none (po_some (pv 4))) (pe_lst (pa_cons (pe_cal c__law_pick (hr.mono (by decide)) (by rfl) pass0 (pa_cons (pv 0) (pa_cons (pv 2) pa_nil))) pa_nil))) (pe_slice sl_list (pv 1) (po_some (pv 4)) po_none)))) (pss_one (ps_if (pt_cmpR op_eq (pv 6) pe_int (nomark _)) (pss_one (ps_set (i := 1) sc__law_bent.nd rfl (by first | exact Or.inl rfl | exact Or.inr rfl) (pe_op op_cat (pe_op op_cat (pe_slice sl_list (pv 1) po_none (po_some (pv 4))) (pe_lst (pa_cons (pe_cal c__law_pick (hr.mono (by decide)) (by rfl) pass0 (pa_cons (pv 0) (pa_cons (pv 2) pa_nil))) pa_nil))) (pe_slice sl_list (pv 1) (po_some (pe_op op_add (pv 4) pe_int)) po_none)))) (pss_one (ps_if (pt_cmpR op_eq (pv 6) pe_int (nomark _)) (pss_one (ps_set (i := 1) sc__law_bent.nd rfl (by first | exact Or.inl rfl | exact Or.inr rfl) (pe_op op_cat (pe_op op_cat (pe_slice sl_list (pv 1) po_none (po_some (pv 4))) (pe_lst (pa_cons (pe_ix ix_list (pv 1) (pv 5) (fun _ _ => rfl)) pa_nil))) (pe_slice sl_list (pv 1) (po_some (pe_op op_add (pv 4) pe_int)) po_none)))) (pss_one (ps_set (i := 1) sc__law_bent.nd rfl (by first | exact Or.inl rfl | exact Or.inr rfl) (pe_op op_cat (pv 1) (pe_lst (pa_cons (pe_ix ix_list (pv 1) (pv 4) (fun _ _ => rfl)) pa_nil)))))))))))))))
      (pss_one (ps_ret (pe_join pe_str (pv 1))))))), ?_⟩
    refine ⟨_, rfl, (by show 7 ≤ sizeLine; decide), fun L nL => ?_⟩
    obtain ⟨npL, ncL⟩ := hp.ne nL
    refine ⟨p, c, n, _, rfl, hp.upd npL ncL, by omega, .inl ⟨L, _, rfl, npL.symm, ncL.symm, upd_same, by simp, by simp, fun x H1 hx hp1 kp1 => ?_⟩⟩
    have k01 : Keep p c H H1 := (Keep.new nL).trans kp1
    obtain ⟨z, rfl, hz⟩ : ∃ z, x = .str z ∧ OkS 12 z := by
      simp only [List.mem_cons, List.not_mem_nil, or_false] at hx
      rcases hx with rfl | rfl | rfl | rfl | rfl | rfl | rfl
      all_goals exact ⟨_, rfl, ok_lit (by decide +kernel)⟩
    have hzl := hz.1
    refine ⟨⟨_, rfl⟩, _, _, rfl, rfl, (by decide +kernel), by omega, fun W nW => ?_⟩
    have hws : ∀ q ∈ Txt.split z " ", OkS 12 q := fun q hq => hz.part sp_tl sp_kd hq
    have hne : Txt.split z " " ≠ [] := split_ne sp_tl sp_kd
    have hcn : (Txt.split z " ").length ≤ 13 := Nat.le_trans (split_len sp_tl sp_kd) (by omega)
    generalize Txt.split z " " = ws at hws hne hcn
    have e2 : Ext H1 (upd H1 W (.lst (ws.map V.str))) := Ext.upd nW
    have f2 : (upd H1 W (.lst (ws.map V.str))) W = some (.lst (ws.map V.str)) := upd_same
    obtain ⟨npW, ncW⟩ := hp1.ne nW
    have hp2 := hp1.ext e2
    have k02 : Keep p c H (upd H1 W (.lst (ws.map V.str))) := k01.trans (Keep.ext e2)
    generalize (upd H1 W (.lst (ws.map V.str))) = H2 at e2 f2 hp2 k02
    refine ⟨(by show 15 ≤ sizeLine; decide), fun S nS => ?_⟩
    obtain ⟨npS, ncS⟩ := hp2.ne nS
    have es : [V.str "", .str "use", .str "make", .str "do", .str "Use", .str "a", .str "x", .str "abcdefg", .str "1", .str "a\n", .str "b", .str "-", .str "a ", .str "load", .str "c"] = someS.map V.str := rfl
    rw [es]
    have e3 : Ext H2 (upd H2 S (.lst (someS.map V.str))) := Ext.upd nS
    have g3 : (upd H2 S (.lst (someS.map V.str))) S = some (.lst (someS.map V.str)) := upd_same
    have f3 := e3 _ _ f2
    have hp3 := hp2.ext e3
    have k03 := k02.trans (Keep.ext e3)
    generalize (upd H2 S (.lst (someS.map V.str))) = H3 at e3 g3 f3 hp3 k03
    refine ⟨_, rfl, p, c, _, 3, rfl, hp3, by omega, by decide, by decide, fun m H4 m0 m1 hp4 kp4 => ⟨m, rfl, by omega, by omega, ?_⟩⟩
    refine for_range (fun i σ H' => ∃ (W : Addr) (ws : List Str) (x3 x4 x5 x6 : Option V), σ = [some (.ref p), some (.ref W), some (.ref S), x3, x4, x5, x6] ∧ PenAt H' p c (n + 2 + 4 * i) ∧ Keep p c H H' ∧ H' S = some (.lst (someS.map V.str)) ∧ W ≠ p ∧ W ≠ c ∧ H' W = some (.lst (ws.map V.str)) ∧ ws ≠ [] ∧ ws.length ≤ 13 + i ∧ ∀ q ∈ ws, OkS 12 q)
      ⟨W, ws, _, _, _, _, rfl, hp4.mono (by omega), k03.trans kp4, kp4 S _ g3 npS.symm ncS.symm, npW.symm, ncW.symm, kp4 W _ f3 npW.symm ncW.symm, hne, hcn, hws⟩ ?_ ?_
    · rintro i σ H5 hi ⟨W, ws, x3, x4, x5, x6, rfl, hp5, k05, g5, nWp, nWc, f5, hne, hcn, hws⟩
      have lw : (ws.map V.str).length = ws.length := List.length_map _
      have hw0 := List.length_pos_iff.mpr hne
      refine ⟨_, rfl, _, rfl, W, _, rfl, .inl (SqL.of f5), p, c, _, _, rfl, hp5, by omega, by rw [lw]; omega, by rw [lw]; omega, fun a H6 a0 a1 hp6 kp6 => ?_⟩
      rw [lw] at a1
      have f6 := kp6 W _ f5 nWp nWc
      refine ⟨_, rfl, _, rfl, W, _, rfl, .inl (SqL.of f6), p, c, _, _, rfl, hp6, by omega, by rw [lw]; omega, by rw [lw]; omega, fun b H7 b0 b1 hp7 kp7 => ?_⟩
      rw [lw] at b1
      have f7 := kp7 W _ f6 nWp nWc
      refine ⟨_, rfl, p, c, _, 5, rfl, hp7, by omega, by decide, by decide, fun y H8 y0 y1 hp8 kp8 => ⟨_, _, _, rfl, ?_⟩⟩
      have f8 := kp8 W _ f7 nWp nWc
      have k08 : Keep p c H H8 := k05.trans (kp6.trans (kp7.trans kp8))
      have g8 : H8 S = some (.lst (someS.map V.str)) := kp8 S _ (kp7 S _ (kp6 S _ g5 npS.symm ncS.symm) npS.symm ncS.symm) npS.symm ncS.symm
      obtain ⟨wa, hwa⟩ : ∃ wa, ws[a.toNat]? = some wa := ⟨_, List.getElem?_eq_getElem (by omega)⟩
      obtain ⟨wb, hwb⟩ : ∃ wb, ws[b.toNat]? = some wb := ⟨_, List.getElem?_eq_getElem (by omega)⟩
      have mapS : ∀ {j : Nat} {q : Str}, ws[j]? = some q → (ws.map V.str)[j]? = some (.str q) := fun {j q} h => by rw [List.getElem?_map, h]; rfl
      have oka := hws wa (List.mem_of_getElem? hwa)
      have okb := hws wb (List.mem_of_getElem? hwb)
      have tk := List.length_take_le a.toNat ws
      have tkl : (ws.take a.toNat).length = a.toNat := by rw [List.length_take]; omega
      have mt : ∀ q ∈ ws.take a.toNat, OkS 12 q := fun q hq => hws q (List.mem_of_mem_take hq)
      have md : ∀ j, ∀ q ∈ ws.drop j, OkS 12 q := fun j q hq => hws q (List.mem_of_mem_drop hq)
      have m3 : ∀ {u v t : List Str}, (∀ q ∈ u, OkS 12 q) → (∀ q ∈ v, OkS 12 q) → (∀ q ∈ t, OkS 12 q) → ∀ q ∈ u ++ v ++ t, OkS 12 q := fun {u v t} hu hv ht q hq => by
        rcases List.mem_append.mp hq with hq | hq
        · rcases List.mem_append.mp hq with hq | hq
          · exact hu q hq
          · exact hv q hq
        · exact ht q hq
      have one : ∀ {q0 : Str}, OkS 12 q0 → ∀ q ∈ [q0], OkS 12 q := fun {q0} h q hq => by rw [List.mem_singleton.mp hq]; exact h
      -- what is put together from three parts, beginning with the words ahead
      refine ⟨_, rfl, rfl, _, rfl, ?_⟩
      by_cases hy : y = 0
      case' pos =>
        refine iteYes (decide_eq_true (by rw [hy])) ?_
        refine ⟨_, rfl, W, _, rfl, .inl (SqL.of f8), _, _, rfl, rfl, _, rfl, ?_⟩
        by_cases hlen : 1 < ws.length
        case pos =>
          refine iteYes (decide_eq_true (by rw [lw]; omega)) ?_
          refine ⟨_, rfl, _, rfl, a, rfl, W, _, rfl, SqL.of f8, fun q1 n1 => ?_⟩
          rw [cutM_to _ a0]
          have e1 : Ext H8 (upd H8 q1 (.lst ((ws.take a.toNat).map V.str))) := Ext.upd n1
          have i1 : (upd H8 q1 (.lst ((ws.take a.toNat).map V.str))) q1 = some (.lst ((ws.take a.toNat).map V.str)) := upd_same
          generalize (upd H8 q1 (.lst ((ws.take a.toNat).map V.str))) = G1 at e1 i1
          refine ⟨_, rfl, _, rfl, _, _, rfl, rfl, a + 1, rfl, W, _, rfl, SqL.of (e1 _ _ f8), fun q2 n2 => ?_⟩
          rw [cutM_from _ (show 0 ≤ a + 1 by omega)]
          have e2 : Ext G1 (upd G1 q2 (.lst ((ws.drop (a + 1).toNat).map V.str))) := Ext.upd n2
          have i2 : (upd G1 q2 (.lst ((ws.drop (a + 1).toNat).map V.str))) q2 = some (.lst ((ws.drop (a + 1).toNat).map V.str)) := upd_same
          generalize (upd G1 q2 (.lst ((ws.drop (a + 1).toNat).map V.str))) = G2 at e2 i2
          have dl : (ws.drop (a + 1).toNat).length = ws.length - (a + 1).toNat := List.length_drop
          refine ⟨q1, q2, _, _, rfl, rfl, e2 _ _ i1, i2, by rw [List.length_map, List.length_map]; omega, fun q3 n3 => ?_⟩
          rw [map_catS]
          have eK := e1.trans (e2.trans (Ext.upd (o := HO.lst ((ws.take a.toNat ++ ws.drop (a + 1).toNat).map V.str)) n3))
          obtain ⟨z1, z2⟩ := (hp8.ext (e1.trans e2)).ne n3
          refine ⟨q3, _, _, _, _, _, rfl, (hp8.ext eK).mono (by omega), k08.trans (Keep.ext eK), eK _ _ g8, z1.symm, z2.symm, upd_same, ?_, ?_, ?_⟩
          · intro e
            have e' : (ws.take a.toNat ++ ws.drop (a + 1).toNat).length = 0 := by rw [e]; rfl
            rw [List.length_append, tkl, dl] at e'
            omega
          · rw [List.length_append]; omega
          · intro q hq
            rcases List.mem_append.mp hq with hq | hq
            · exact mt q hq
            · exact md _ q hq
        refine iteNo (decide_eq_false (by rw [lw]; omega)) ?_
      case' neg => refine iteNo (decide_eq_false fun q => hy (V.int.inj q)) ?_
      all_goals
        -- a pick put behind the words ahead
        have pk : ∀ (G : Hp) (m : Nat), PenAt G p c m → m < 1048576 → G S = some (.lst (someS.map V.str)) → ∀ C : VK, (∀ o G', OkS 12 o → PenAt G' p c (m + 1) → Keep p c G G' → C (.str o) G') → spPick K [.ref p, .ref S] G C E0 := fun G m hpG hm gG C hC => by
          refine ⟨p, c, m, _, rfl, hpG, hm, .inl ⟨S, _, rfl, npS.symm, ncS.symm, gG, by decide, by decide, fun x G' hx hpG' kpG' => ?_⟩⟩
          obtain ⟨o, ho, rfl⟩ := List.mem_map.mp hx
          exact hC o G' (some_ok o ho) hpG' kpG'
        -- the end: three parts together
        have fin3 : ∀ (G : Hp) (m : Nat) (q3 : Addr) (u v t : List Str) (d0 d1 d2 d3 : Option V), PenAt G p c m → m ≤ n + 2 + 4 * i + 4 → Keep p c H G → G S = some (.lst (someS.map V.str)) → G q3 = none → v.length = 1 → u.length + t.length ≤ ws.length → (∀ q ∈ u, OkS 12 q) → (∀ q ∈ v, OkS 12 q) → (∀ q ∈ t, OkS 12 q) →
            ∃ (W : Addr) (ws : List Str) (x3 x4 x5 x6 : Option V), [some (V.ref p), some (.ref q3), some (.ref S), d0, d1, d2, d3] = [some (V.ref p), some (.ref W), some (.ref S), x3, x4, x5, x6] ∧ PenAt (upd G q3 (.lst ((u ++ v ++ t).map V.str))) p c (n + 2 + 4 * (i + 1)) ∧ Keep p c H (upd G q3 (.lst ((u ++ v ++ t).map V.str))) ∧ (upd G q3 (.lst ((u ++ v ++ t).map V.str))) S = some (.lst (someS.map V.str)) ∧ W ≠ p ∧ W ≠ c ∧ (upd G q3 (.lst ((u ++ v ++ t).map V.str))) W = some (.lst (ws.map V.str)) ∧ ws ≠ [] ∧ ws.length ≤ 13 + (i + 1) ∧ ∀ q ∈ ws, OkS 12 q := fun G m q3 u v t d0 d1 d2 d3 hpG hm kG gG n3 vl ul hu hv ht => by
          obtain ⟨z1, z2⟩ := hpG.ne n3
          refine ⟨q3, u ++ v ++ t, _, _, _, _, rfl, (hpG.upd z1 z2).mono (by omega), kG.trans (Keep.new n3), by rw [upd_ne (ne_of_none gG n3)]; exact gG, z1.symm, z2.symm, upd_same, fun e => ?_, ?_, m3 hu hv ht⟩
          · have e' : (u ++ v ++ t).length = 0 := by rw [e]; rfl
            rw [List.length_append, List.length_append] at e'
            omega
          · rw [List.length_append, List.length_append]
            omega
        refine ⟨_, rfl, rfl, _, rfl, ?_⟩
        refine ite2 (fun _ => ?_) (fun _ => ?_)
        · refine ⟨_, rfl, _, rfl, a, rfl, W, _, rfl, SqL.of f8, fun q1 n1 => ?_⟩
          rw [cutM_to _ a0]
          have e1 : Ext H8 (upd H8 q1 (.lst ((ws.take a.toNat).map V.str))) := Ext.upd n1
          have i1 : (upd H8 q1 (.lst ((ws.take a.toNat).map V.str))) q1 = some (.lst ((ws.take a.toNat).map V.str)) := upd_same
          obtain ⟨np1, nc1⟩ := hp8.ne n1
          generalize (upd H8 q1 (.lst ((ws.take a.toNat).map V.str))) = G1 at e1 i1
          refine ⟨_, rfl, _, rfl, pk G1 _ (hp8.ext e1) (by omega) (e1 _ _ g8) _ fun o G2 ho hpG2 kpG2 => ⟨(by show 1 ≤ sizeLine; decide), fun q2 n2 => ?_⟩⟩
          have i1' := kpG2 q1 _ i1 np1.symm nc1.symm
          have fW := kpG2 W _ (e1 _ _ f8) nWp nWc
          have gS := kpG2 S _ (e1 _ _ g8) npS.symm ncS.symm
          have e2 : Ext G2 (upd G2 q2 (.lst [.str o])) := Ext.upd n2
          have i2 : (upd G2 q2 (.lst [.str o])) q2 = some (.lst ([o].map V.str)) := upd_same
          generalize (upd G2 q2 (.lst [.str o])) = G3 at e2 i2
          refine ⟨q1, q2, _, _, rfl, rfl, e2 _ _ i1', i2, by rw [List.length_map, List.length_map]; show _ + 1 ≤ _; omega, fun q4 n4 => ?_⟩
          rw [map_catS]
          have e4 : Ext G3 (upd G3 q4 (.lst ((ws.take a.toNat ++ [o]).map V.str))) := Ext.upd n4
          have i4 : (upd G3 q4 (.lst ((ws.take a.toNat ++ [o]).map V.str))) q4 = some (.lst ((ws.take a.toNat ++ [o]).map V.str)) := upd_same
          generalize (upd G3 q4 (.lst ((ws.take a.toNat ++ [o]).map V.str))) = G4 at e4 i4
          have e24 := e2.trans e4
          refine ⟨_, rfl, _, rfl, a, rfl, W, _, rfl, SqL.of (e24 _ _ fW), fun q5 n5 => ?_⟩
          rw [cutM_from _ a0]
          have e5 : Ext G4 (upd G4 q5 (.lst ((ws.drop a.toNat).map V.str))) := Ext.upd n5
          have i5 : (upd G4 q5 (.lst ((ws.drop a.toNat).map V.str))) q5 = some (.lst ((ws.drop a.toNat).map V.str)) := upd_same
          generalize (upd G4 q5 (.lst ((ws.drop a.toNat).map V.str))) = G5 at e5 i5
          have dl : (ws.drop a.toNat).length = ws.length - a.toNat := List.length_drop
          have e25 := e24.trans e5
          refine ⟨q4, q5, _, _, rfl, rfl, e5 _ _ i4, i5, by rw [List.length_map, List.length_map, List.length_append]; show _ + 1 + _ ≤ _; omega, fun q6 n6 => ?_⟩
          rw [map_catS]
          exact fin3 G5 _ q6 _ _ _ _ _ _ _ (hpG2.ext e25) (by omega) (k08.trans ((Keep.ext e1).trans (kpG2.trans (Keep.ext e25)))) (e25 _ _ gS) n6 rfl (by omega) mt (one ho) (md _)
        refine ⟨_, rfl, rfl, _, rfl, ?_⟩
        refine ite2 (fun _ => ?_) (fun _ => ?_)
        · refine ⟨_, rfl, _, rfl, a, rfl, W, _, rfl, SqL.of f8, fun q1 n1 => ?_⟩
          rw [cutM_to _ a0]
          have e1 : Ext H8 (upd H8 q1 (.lst ((ws.take a.toNat).map V.str))) := Ext.upd n1
          have i1 : (upd H8 q1 (.lst ((ws.take a.toNat).map V.str))) q1 = some (.lst ((ws.take a.toNat).map V.str)) := upd_same
          obtain ⟨np1, nc1⟩ := hp8.ne n1
          generalize (upd H8 q1 (.lst ((ws.take a.toNat).map V.str))) = G1 at e1 i1
          refine ⟨_, rfl, _, rfl, pk G1 _ (hp8.ext e1) (by omega) (e1 _ _ g8) _ fun o G2 ho hpG2 kpG2 => ⟨(by show 1 ≤ sizeLine; decide), fun q2 n2 => ?_⟩⟩
          have i1' := kpG2 q1 _ i1 np1.symm nc1.symm
          have fW := kpG2 W _ (e1 _ _ f8) nWp nWc
          have gS := kpG2 S _ (e1 _ _ g8) npS.symm ncS.symm
          have e2 : Ext G2 (upd G2 q2 (.lst [.str o])) := Ext.upd n2
          have i2 : (upd G2 q2 (.lst [.str o])) q2 = some (.lst ([o].map V.str)) := upd_same
          generalize (upd G2 q2 (.lst [.str o])) = G3 at e2 i2
          refine ⟨q1, q2, _, _, rfl, rfl, e2 _ _ i1', i2, by rw [List.length_map, List.length_map]; show _ + 1 ≤ _; omega, fun q4 n4 => ?_⟩
          rw [map_catS]
          have e4 : Ext G3 (upd G3 q4 (.lst ((ws.take a.toNat ++ [o]).map V.str))) := Ext.upd n4
          have i4 : (upd G3 q4 (.lst ((ws.take a.toNat ++ [o]).map V.str))) q4 = some (.lst ((ws.take a.toNat ++ [o]).map V.str)) := upd_same
          generalize (upd G3 q4 (.lst ((ws.take a.toNat ++ [o]).map V.str))) = G4 at e4 i4
          have e24 := e2.trans e4
          refine ⟨_, rfl, _, rfl, _, _, rfl, rfl, a + 1, rfl, W, _, rfl, SqL.of (e24 _ _ fW), fun q5 n5 => ?_⟩
          rw [cutM_from _ (show 0 ≤ a + 1 by omega)]
          have e5 : Ext G4 (upd G4 q5 (.lst ((ws.drop (a + 1).toNat).map V.str))) := Ext.upd n5
          have i5 : (upd G4 q5 (.lst ((ws.drop (a + 1).toNat).map V.str))) q5 = some (.lst ((ws.drop (a + 1).toNat).map V.str)) := upd_same
          generalize (upd G4 q5 (.lst ((ws.drop (a + 1).toNat).map V.str))) = G5 at e5 i5
          have dl : (ws.drop (a + 1).toNat).length = ws.length - (a + 1).toNat := List.length_drop
          have e25 := e24.trans e5
          refine ⟨q4, q5, _, _, rfl, rfl, e5 _ _ i4, i5, by rw [List.length_map, List.length_map, List.length_append]; show _ + 1 + _ ≤ _; omega, fun q6 n6 => ?_⟩
          rw [map_catS]
          exact fin3 G5 _ q6 _ _ _ _ _ _ _ (hpG2.ext e25) (by omega) (k08.trans ((Keep.ext e1).trans (kpG2.trans (Keep.ext e25)))) (e25 _ _ gS) n6 rfl (by omega) mt (one ho) (md _)
        refine ⟨_, rfl, rfl, _, rfl, ?_⟩
        refine ite2 (fun _ => ?_) (fun _ => ?_)
        · refine ⟨_, rfl, _, rfl, a, rfl, W, _, rfl, SqL.of f8, fun q1 n1 => ?_⟩
          rw [cutM_to _ a0]
          have e1 : Ext H8 (upd H8 q1 (.lst ((ws.take a.toNat).map V.str))) := Ext.upd n1
          have i1 : (upd H8 q1 (.lst ((ws.take a.toNat).map V.str))) q1 = some (.lst ((ws.take a.toNat).map V.str)) := upd_same
          generalize (upd H8 q1 (.lst ((ws.take a.toNat).map V.str))) = G1 at e1 i1
          refine ⟨_, rfl, _, rfl, W, _, b, .str wb, rfl, rfl, SqL.of (e1 _ _ f8), atI_at (j := b.toNat) (by omega) (mapS hwb), (by show 1 ≤ sizeLine; decide), fun q2 n2 => ?_⟩
          have e2 : Ext G1 (upd G1 q2 (.lst [.str wb])) := Ext.upd n2
          have i2 : (upd G1 q2 (.lst [.str wb])) q2 = some (.lst ([wb].map V.str)) := upd_same
          generalize (upd G1 q2 (.lst [.str wb])) = G3 at e2 i2
          refine ⟨q1, q2, _, _, rfl, rfl, e2 _ _ i1, i2, by rw [List.length_map, List.length_map]; show _ + 1 ≤ _; omega, fun q4 n4 => ?_⟩
          rw [map_catS]
          have e4 : Ext G3 (upd G3 q4 (.lst ((ws.take a.toNat ++ [wb]).map V.str))) := Ext.upd n4
          have i4 : (upd G3 q4 (.lst ((ws.take a.toNat ++ [wb]).map V.str))) q4 = some (.lst ((ws.take a.toNat ++ [wb]).map V.str)) := upd_same
          generalize (upd G3 q4 (.lst ((ws.take a.toNat ++ [wb]).map V.str))) = G4 at e4 i4
          have e14 := e1.trans (e2.trans e4)
          refine ⟨_, rfl, _, rfl, _, _, rfl, rfl, a + 1, rfl, W, _, rfl, SqL.of (e14 _ _ f8), fun q5 n5 => ?_⟩
          rw [cutM_from _ (show 0 ≤ a + 1 by omega)]
          have e5 : Ext G4 (upd G4 q5 (.lst ((ws.drop (a + 1).toNat).map V.str))) := Ext.upd n5
          have i5 : (upd G4 q5 (.lst ((ws.drop (a + 1).toNat).map V.str))) q5 = some (.lst ((ws.drop (a + 1).toNat).map V.str)) := upd_same
          generalize (upd G4 q5 (.lst ((ws.drop (a + 1).toNat).map V.str))) = G5 at e5 i5
          have dl : (ws.drop (a + 1).toNat).length = ws.length - (a + 1).toNat := List.length_drop
          have e15 := e14.trans e5
          refine ⟨q4, q5, _, _, rfl, rfl, e5 _ _ i4, i5, by rw [List.length_map, List.length_map, List.length_append]; show _ + 1 + _ ≤ _; omega, fun q6 n6 => ?_⟩
          rw [map_catS]
          exact fin3 G5 _ q6 _ _ _ _ _ _ _ (hp8.ext e15) (by omega) (k08.trans (Keep.ext e15)) (e15 _ _ g8) n6 rfl (by omega) mt (one okb) (md _)
        · refine ⟨_, rfl, _, rfl, _, rfl, W, _, a, .str wa, rfl, rfl, SqL.of f8, atI_at (j := a.toNat) (by omega) (mapS hwa), (by show 1 ≤ sizeLine; decide), fun q2 n2 => ?_⟩
          have e2 : Ext H8 (upd H8 q2 (.lst [.str wa])) := Ext.upd n2
          have i2 : (upd H8 q2 (.lst [.str wa])) q2 = some (.lst ([wa].map V.str)) := upd_same
          generalize (upd H8 q2 (.lst [.str wa])) = G3 at e2 i2
          refine ⟨W, q2, _, _, rfl, rfl, e2 _ _ f8, i2, by rw [List.length_map, List.length_map]; show _ + 1 ≤ _; omega, fun q4 n4 => ?_⟩
          rw [map_catS]
          rw [show ws ++ [wa] = ws ++ [wa] ++ [] from (List.append_nil _).symm]
          exact fin3 G3 _ q4 ws [wa] [] _ _ _ _ (hp8.ext e2) (by omega) (k08.trans (Keep.ext e2)) (e2 _ _ g8) n4 rfl (by simp) hws (one oka) (fun q hq => by simp at hq)
    · rintro σ H5 ⟨W, ws, x3, x4, x5, x6, rfl, hp5, k05, g5, nWp, nWc, f5, hne, hcn, hws⟩
      have hm2 : m.toNat ≤ 2 := by omega
      have h250 : ws.length * (12 + 1) ≤ 250 := by omega
      obtain ⟨j1, j2⟩ := join_ok hws h250
      exact ⟨⟨_, rfl⟩, _, rfl, _, W, ws, rfl, rfl, .inl (SqL.of f5), Nat.le_trans j1 (by decide), k _ H5 j2 (hp5.mono (by omega)) k05⟩
end
end K02
end
section
set_option Elab.async false
set_option autoImplicit false
set_option linter.all false
set_option maxRecDepth 100000
set_option maxHeartbeats 4000000
namespace K02
open PySem PySem.Spec PyProof.Rows L2 Ls
open C8 (pss_cut tCut)
open TL
theorem tv_N {H H' : Hp} {v : V} {d : PyData} (h : TV H v d) (x : LamX.ExtN H H') : TV H' v d := by
  have h1 : TV (vis [] H) v d := tv_vis h
  exact (h1.ext (vis_extN x)).ext vis_ext
theorem tvs_N {H H' : Hp} (x : LamX.ExtN H H') : ∀ {vs : List V} {ds : List PyData}, TVs H vs ds → TVs H' vs ds
  | _, _, .nil => .nil
  | _, _, .cons a t => .cons (tv_N a x) (tvs_N x t)
theorem ArgsAt.extN {H H' : Hp} {xs : List V} {ds : List PyData} (h : ArgsAt H xs ds) (e : LamX.ExtN H H') : ArgsAt H' xs ds := ⟨tvs_N e h.tv, h.sm, h.ln⟩
theorem ferr_of {CN CB CW CY : Addr} {H H0 : Hp} {E' : XK} {Q : VK} (e0 : Ext H H0) (hE : ∀ cls d H', HeardE CN CW CY CB Q cls d H' → E' cls d H') : ∀ {f : Flt}, (∀ v H', Ext H H' → TV H' v (fltD (some f)) → Q v H') → FErr CN CB CW CY H0 E' f
  | .name d, k => fun v H1 e1 tv dd H2 e2 hdd => hE _ _ _ ⟨CN, dd, v, "value", "name", rfl, rfl, (nw_some hdd).2, .inl ⟨rfl, rfl, rfl⟩, fun p H3 e3 hp => k _ H3 (e0.trans (e1.trans (e2.trans e3))) (.tup (nw_some hp).2 (.cons (.str _) (.cons (tv.ext (e2.trans e3)) .nil)))⟩
  | .twice z, k => fun dd H2 e2 hdd => hE _ _ _ ⟨CW, dd, .str z, "name", "twice", rfl, rfl, (nw_some hdd).2, .inr (.inl ⟨rfl, rfl, rfl⟩), fun p H3 e3 hp => k _ H3 (e0.trans (e2.trans e3)) (.tup (nw_some hp).2 (.cons (.str _) (.cons (.str _) .nil)))⟩
  | .many, k => fun dd H2 e2 hdd => hE _ _ _ ⟨CY, dd, .int 3, "most", "many", rfl, rfl, (nw_some hdd).2, .inr (.inr (.inl ⟨rfl, rfl, rfl⟩)), fun p H3 e3 hp => k _ H3 (e0.trans (e2.trans e3)) (.tup (nw_some hp).2 (.cons (.str _) (.cons (.int _) .nil)))⟩
  | .deed, k => fun dd H2 e2 hdd => hE _ _ _ ⟨CB, dd, .non, "value", "deed", rfl, rfl, (nw_some hdd).2, .inr (.inr (.inr ⟨rfl, rfl, rfl⟩)), fun p H3 e3 hp => k _ H3 (e0.trans (e2.trans e3)) (.tup (nw_some hp).2 (.cons (.str _) (.cons .non .nil)))⟩
theorem use_end {CN CB CW CY CU : Addr} {H : Hp} {x dx : Addr} {xs : List V} {ds : List PyData} {Q Q' : VK} {E' : XK} (ha : ArgsAt H xs ds) (nx : H x = none) (ndx : H dx = none)
    (hE : ∀ cls d H', HeardE CN CW CY CB Q cls d H' → E' cls d H') (hQ : ∀ v H1, HeardV Q v H1 → Q' v H1) (k : ∀ v H', Ext H H' → TV H' v (fltD (usedF ds)) → Q v H') :
    spUse CN CB CW CY CU (.ref x :: xs) (upd (upd H dx (.own x)) x (.ins CU dx [])) (fun v H2 => v = .non ∧ Q' (.ref x) H2) E' :=
  ⟨x, dx, xs, ds, rfl, upd_same, ha.ext (mk_in nx ndx), fun f hf => ferr_of (mk_in nx ndx) hE fun v H' e t => k v H' e (by rw [hf]; exact t), fun hu H2 hk => ⟨rfl, hQ _ _ fun H3 e3 => k .non H3 ((mk_ext nx ndx hk).trans e3) (by rw [hu]; exact .non)⟩⟩
/-- what Do(d, *ds) is due -/
def doF (d : PyData) (ds : List PyData) : Option Flt := if nameOf d = none then some (.name d) else usedF ds
theorem do_end {CN CB CW CY CO : Addr} {H : Hp} {x dx : Addr} {v0 : V} {d0 : PyData} {xs : List V} {ds : List PyData} {Q Q' : VK} {E' : XK} (hv : TV H v0 d0) (sm : SmD d0) (ha : ArgsAt H xs ds) (nx : H x = none) (ndx : H dx = none)
    (hE : ∀ cls d H', HeardE CN CW CY CB Q cls d H' → E' cls d H') (hQ : ∀ v H1, HeardV Q v H1 → Q' v H1) (k : ∀ v H', Ext H H' → TV H' v (fltD (doF d0 ds)) → Q v H') :
    spDo CN CB CW CY CO (.ref x :: v0 :: xs) (upd (upd H dx (.own x)) x (.ins CO dx [])) (fun v H2 => v = .non ∧ Q' (.ref x) H2) E' := by
  have hy : nameOf d0 ≠ none → doF d0 ds = usedF ds := fun h => if_neg h
  refine ⟨x, dx, v0, d0, xs, ds, rfl, upd_same, hv.ext (mk_in nx ndx), sm, ha.ext (mk_in nx ndx), fun hn => ?_, fun hn f hf H1 hk => ferr_of (mk_ext nx ndx hk) hE fun v H' e t => k v H' e (by rw [hy hn, hf]; exact t), fun hn hu H2 hk => ⟨rfl, hQ _ _ fun H3 e3 => k .non H3 ((mk_ext nx ndx hk).trans e3) (by rw [hy hn, hu]; exact .non)⟩⟩
  have hd : doF d0 ds = some (.name d0) := if_pos hn
  exact (ferr_of (f := .name d0) (mk_in nx ndx) hE fun v H' e t => k v H' e (by rw [hd]; exact t)) v0 _ Ext.rfl' (hv.ext (mk_in nx ndx))
theorem make_end {CN CB CW CY CM : Addr} {H : Hp} {x dx : Addr} {v0 : V} {d0 : PyData} {Q Q' : VK} {E' : XK} (hv : TV H v0 d0) (sm : SmD d0) (nx : H x = none) (ndx : H dx = none)
    (hE : ∀ cls d H', HeardE CN CW CY CB Q cls d H' → E' cls d H') (hQ : ∀ v H1, HeardV Q v H1 → Q' v H1) (k : ∀ v H', Ext H H' → TV H' v (fltD (if nameOf d0 = none then some (.name d0) else none)) → Q v H') :
    spMake CN CM [.ref x, v0] (upd (upd H dx (.own x)) x (.ins CM dx [])) (fun v H2 => v = .non ∧ Q' (.ref x) H2) E' := by
  refine ⟨x, dx, v0, d0, rfl, upd_same, hv.ext (mk_in nx ndx), sm, fun hn => ?_, fun hn H2 hk => ⟨rfl, hQ _ _ fun H3 e3 => k .non H3 ((mk_ext nx ndx hk).trans e3) (by rw [if_neg hn]; exact .non)⟩⟩
  exact (ferr_of (f := .name d0) (CB := CB) (CW := CW) (CY := CY) (mk_in nx ndx) hE fun v H' e t => k v H' e (by rw [if_pos hn]; exact t)) v0 _ Ext.rfl' (hv.ext (mk_in nx ndx))
theorem len1 {α : Type} {xs : List α} (h : xs.length = 1) : ∃ v1, xs = [v1] := by
  match xs, h with
  | [a1], _ => exact ⟨_, rfl⟩
theorem len2 {α : Type} {xs : List α} (h : xs.length = 2) : ∃ v1 v2, xs = [v1, v2] := by
  match xs, h with
  | [a1, a2], _ => exact ⟨_, _, rfl⟩
theorem len3 {α : Type} {xs : List α} (h : xs.length = 3) : ∃ v1 v2 v3, xs = [v1, v2, v3] := by
  match xs, h with
  | [a1, a2, a3], _ => exact ⟨_, _, _, rfl⟩
theorem len4 {α : Type} {xs : List α} (h : xs.length = 4) : ∃ v1 v2 v3 v4, xs = [v1, v2, v3, v4] := by
  match xs, h with
  | [a1, a2, a3, a4], _ => exact ⟨_, _, _, _, rfl⟩
theorem len5 {α : Type} {xs : List α} (h : xs.length = 5) : ∃ v1 v2 v3 v4 v5, xs = [v1, v2, v3, v4, v5] := by
  match xs, h with
  | [a1, a2, a3, a4, a5], _ => exact ⟨_, _, _, _, _, rfl⟩
section
variable {P : Program} {w : World} {K : PySem.W.Frag} {mg : Str → Option Value} {base : Heap} {CE CN CB CW CY CD CU CM CO : Addr} {tL tN tU : Tok}
/-! ### _law_used -/
def spUsed (TT : List (Addr × Str)) : Sp := fun vs H Q _ => ∃ (l : Addr) (xs : List V) (ds : List PyData), vs = [.ref l] ∧ H l = some (.lst xs) ∧ ArgsAt H xs ds ∧ xs.length ≤ 5 ∧ LamX.Tabs TT H ∧ ∀ v H', LamX.ExtN H H' → LamX.Tabs TT H' → TV H' v (fltD (usedF ds)) → Q v H'
abbrev s__law_used : Stmt := top 28
abbrev N__law_used : List Str := ["_law_used_here"]
theorem sc__law_used : FnScope N__law_used ["_law_used_here"] (defScope s__law_used) := ⟨rfl, rfl, rfl, by decide +kernel, rfl, by decide +kernel, by decide +kernel⟩
theorem ok_law_used {f g c P1 : Addr} {fd fdh : FuncData} {TT : List (Addr × Str)} (F : Fun K "_law_used" "_law_used" s__law_used f fd) (T : Tx K mg CE CN CB CW CY CD CU CM CO tL tN tU)
    (F__law_heard : Fun K "_law_heard" "_law_heard" s__law_heard g fdh) (m__law_heard : mg "_law_heard" = some (.ref g)) (b__law_heard : L2.Binds K fdh ["_law_ask"] []) (eN : ErrT K CE CN CW CY CB CN "value" true false false false) (eW : ErrT K CE CN CW CY CB CW "name" false true false false) (eY : ErrT K CE CN CW CY CB CY "most" false false true false) (eB : ErrT K CE CN CW CY CB CB "value" false false false true)
    (hfc : fd.code = .ref c) (TB : LamX.TabB base mg c P1) (hmT : (P1, ("_law_used.<locals>.<lambda>" : Str)) ∈ TT) (huT : ∀ p ∈ TT, p.1 = P1 → p.2 = ("_law_used.<locals>.<lambda>" : Str))
    (c_Use : Mkc P w K mg base (L2.CX P w) 5 CU "Use" (spUse CN CB CW CY CU)) :
    FnG P w K mg base CX0 11 f fd ["_law_used_here"] (spUsed TT) := by
  refine okG F sc__law_used (fun vs H Q E h => ?_) (fun cdv A outer s H vs Q E hcd hgd hr h => ?_)
  · obtain ⟨l, xs, ds, rfl, _⟩ := h
    rfl
  · obtain ⟨l, xs, ds, rfl, hl, ha, h5, hT, k⟩ := h
    rw [hfc] at hcd
    subst hcd
    refine ⟨_, (pss_cons (ps_if (pt_cmpR op_eq (pe_callB call_len_seq (by rfl) (T.bn _ (by decide +kernel)) (by decide +kernel) (pa_cons (pv 0) pa_nil)) pe_int (nomark _)) (pss_one (ps_ret (pe_lamS (T := TT) (k := 8) F__law_heard (by rfl) m__law_heard b__law_heard sc__law_heard rfl (.inl rfl) (fun cdv => heard_gives T eN eW eY eB) TB rfl hmT huT (hr.mono (by decide)) (LamX.lamS_by (sc := defScope s__law_used) (by decide +kernel)) rfl (fun _ _ _ _ _ => rfl) (fun A outer s H E f c2 hr => (pe_mk0 c_Use (hr.mono (by decide)) (by rfl) passLm))))) pss_nil)
      (pss_cons (ps_if (pt_cmpR op_eq (pe_callB call_len_seq (by rfl) (T.bn _ (by decide +kernel)) (by decide +kernel) (pa_cons (pv 0) pa_nil)) pe_int (nomark _)) (pss_one (ps_ret (pe_lamS (T := TT) (k := 8) F__law_heard (by rfl) m__law_heard b__law_heard sc__law_heard rfl (.inl rfl) (fun cdv => heard_gives T eN eW eY eB) TB rfl hmT huT (hr.mono (by decide)) (LamX.lamS_by (sc := defScope s__law_used) (by decide +kernel)) rfl (fun _ _ _ _ _ => rfl) (fun A outer s H E f c2 hr => (pe_mkc c_Use (hr.mono (by decide)) (by rfl) passLm (pa_cons (pe_ix (show IxR _ (rIxL K) from ix_list) (pv 0) pe_int (fun _ _ => rfl)) pa_nil)))))) pss_nil)
      (pss_cons (ps_if (pt_cmpR op_eq (pe_callB call_len_seq (by rfl) (T.bn _ (by decide +kernel)) (by decide +kernel) (pa_cons (pv 0) pa_nil)) pe_int (nomark _)) (pss_one (ps_ret (pe_lamS (T := TT) (k := 8) F__law_heard (by rfl) m__law_heard b__law_heard sc__law_heard rfl (.inl rfl) (fun cdv => heard_gives T eN eW eY eB) TB rfl hmT huT (hr.mono (by decide)) (LamX.lamS_by (sc := defScope s__law_used) (by decide +kernel)) rfl (fun _ _ _ _ _ => rfl) (fun A outer s H E f c2 hr => (pe_mkc c_Use (hr.mono (by decide)) (by rfl) passLm (pa_cons (pe_ix (show IxR _ (rIxL K) from ix_list) (pv 0) pe_int (fun _ _ => rfl)) (pa_cons (pe_ix (show IxR _ (rIxL K) from ix_list) (pv 0) pe_int (fun _ _ => rfl)) pa_nil))))))) pss_nil)
      (pss_cons (ps_if (pt_cmpR op_eq (pe_callB call_len_seq (by rfl) (T.bn _ (by decide +kernel)) (by decide +kernel) (pa_cons (pv 0) pa_nil)) pe_int (nomark _)) (pss_one (ps_ret (pe_lamS (T := TT) (k := 8) F__law_heard (by rfl) m__law_heard b__law_heard sc__law_heard rfl (.inl rfl) (fun cdv => heard_gives T eN eW eY eB) TB rfl hmT huT (hr.mono (by decide)) (LamX.lamS_by (sc := defScope s__law_used) (by decide +kernel)) rfl (fun _ _ _ _ _ => rfl) (fun A outer s H E f c2 hr => (pe_mkc c_Use (hr.mono (by decide)) (by rfl) passLm (pa_cons (pe_ix (show IxR _ (rIxL K) from ix_list) (pv 0) pe_int (fun _ _ => rfl)) (pa_cons (pe_ix (show IxR _ (rIxL K) from ix_list) (pv 0) pe_int (fun _ _ => rfl)) (pa_cons (pe_ix (show IxR _ (rIxL K) from ix_list) (pv 0) pe_int (fun _ _ => rfl)) pa_nil)))))))) pss_nil)
      (pss_cons (ps_if (pt_cmpR op_eq (pe_callB call_len_seq (by rfl) (T.bn _ (by decide +kernel)) (by decide +kernel) (pa_cons (pv 0) pa_nil)) pe_int (nomark _)) (pss_one (ps_ret (pe_lamS (T := TT) (k := 8) F__law_heard (by rfl) m__law_heard b__law_heard sc__law_heard rfl (.inl rfl) (fun cdv => heard_gives T eN eW eY eB) TB rfl hmT huT (hr.mono (by decide)) (LamX.lamS_by (sc := defScope s__law_used) (by decide +kernel)) rfl (fun _ _ _ _ _ => rfl) (fun A outer s H E f c2 hr => (pe_mkc c_Use (hr.mono (by decide)) (by rfl) passLm (pa_cons (pe_ix (show IxR _ (rIxL K) from ix_list) (pv 0) pe_int (fun _ _ => rfl)) (pa_cons (pe_ix (show IxR _ (rIxL K) from ix_list) (pv 0) pe_int (fun _ _ => rfl)) (pa_cons (pe_ix (show IxR _ (rIxL K) from ix_list) (pv 0) pe_int (fun _ _ => rfl)) (pa_cons (pe_ix (show IxR _ (rIxL K) from ix_list) (pv 0) pe_int (fun _ _ => rfl)) pa_nil))))))))) pss_nil)
      (pss_one (ps_ret (pe_lamS (T := TT) (k := 8) F__law_heard (by rfl) m__law_heard b__law_heard sc__law_heard rfl (.inl rfl) (fun cdv => heard_gives T eN eW eY eB) TB rfl hmT huT (hr.mono (by decide)) (LamX.lamS_by (sc := defScope s__law_used) (by decide +kernel)) rfl (fun _ _ _ _ _ => rfl) (fun A outer s H E f c2 hr => (pe_mkc c_Use (hr.mono (by decide)) (by rfl) passLm (pa_cons (pe_ix (show IxR _ (rIxL K) from ix_list) (pv 0) pe_int (fun _ _ => rfl)) (pa_cons (pe_ix (show IxR _ (rIxL K) from ix_list) (pv 0) pe_int (fun _ _ => rfl)) (pa_cons (pe_ix (show IxR _ (rIxL K) from ix_list) (pv 0) pe_int (fun _ _ => rfl)) (pa_cons (pe_ix (show IxR _ (rIxL K) from ix_list) (pv 0) pe_int (fun _ _ => rfl)) (pa_cons (pe_ix (show IxR _ (rIxL K) from ix_list) (pv 0) pe_int (fun _ _ => rfl)) pa_nil))))))))))))))), ?_⟩
    refine ⟨_, rfl, l, _, rfl, .inl (SqL.of hl), rfl, _, rfl, ?_⟩
    by_cases q0 : xs.length = 0
    · refine iteYes (decide_eq_true (by rw [q0]; rfl)) ?_
      obtain rfl : xs = [] := List.eq_nil_of_length_eq_zero q0
      refine ⟨hT, fun H1 x1 T1 E' Q' hE hQ => ?_⟩
      have a1 := ha.extN x1
      have l1 := x1 _ _ hl (fun ps z => nomatch z)
      exact fun x dx nx ndx _ => use_end a1 nx ndx hE hQ fun v H2 e2 t => k v H2 (x1.trans (LamX.ExtN.of e2)) (T1.ext e2) t
    refine iteNo (decide_eq_false fun z => q0 (by have := V.int.inj z; omega)) ?_
    refine ⟨_, rfl, l, _, rfl, .inl (SqL.of hl), rfl, _, rfl, ?_⟩
    by_cases q1 : xs.length = 1
    · refine iteYes (decide_eq_true (by rw [q1]; rfl)) ?_
      obtain ⟨v1, rfl⟩ : ∃ v1, xs = [v1] := len1 q1
      refine ⟨hT, fun H1 x1 T1 E' Q' hE hQ => ?_⟩
      have a1 := ha.extN x1
      have l1 := x1 _ _ hl (fun ps z => nomatch z)
      exact ⟨_, rfl, l, _, 0, v1, rfl, rfl, SqL.of l1, atI_nat (j := 0) rfl, fun x dx nx ndx _ => use_end a1 nx ndx hE hQ fun v H2 e2 t => k v H2 (x1.trans (LamX.ExtN.of e2)) (T1.ext e2) t⟩
    refine iteNo (decide_eq_false fun z => q1 (by have := V.int.inj z; omega)) ?_
    refine ⟨_, rfl, l, _, rfl, .inl (SqL.of hl), rfl, _, rfl, ?_⟩
    by_cases q2 : xs.length = 2
    · refine iteYes (decide_eq_true (by rw [q2]; rfl)) ?_
      obtain ⟨v1, v2, rfl⟩ : ∃ v1 v2, xs = [v1, v2] := len2 q2
      refine ⟨hT, fun H1 x1 T1 E' Q' hE hQ => ?_⟩
      have a1 := ha.extN x1
      have l1 := x1 _ _ hl (fun ps z => nomatch z)
      exact ⟨_, rfl, l, _, 0, v1, rfl, rfl, SqL.of l1, atI_nat (j := 0) rfl, _, rfl, l, _, 1, v2, rfl, rfl, SqL.of l1, atI_nat (j := 1) rfl, fun x dx nx ndx _ => use_end a1 nx ndx hE hQ fun v H2 e2 t => k v H2 (x1.trans (LamX.ExtN.of e2)) (T1.ext e2) t⟩
    refine iteNo (decide_eq_false fun z => q2 (by have := V.int.inj z; omega)) ?_
    refine ⟨_, rfl, l, _, rfl, .inl (SqL.of hl), rfl, _, rfl, ?_⟩
    by_cases q3 : xs.length = 3
    · refine iteYes (decide_eq_true (by rw [q3]; rfl)) ?_
      obtain ⟨v1, v2, v3, rfl⟩ : ∃ v1 v2 v3, xs = [v1, v2, v3] := len3 q3
      refine ⟨hT, fun H1 x1 T1 E' Q' hE hQ => ?_⟩
      have a1 := ha.extN x1
      have l1 := x1 _ _ hl (fun ps z => nomatch z)
      exact ⟨_, rfl, l, _, 0, v1, rfl, rfl, SqL.of l1, atI_nat (j := 0) rfl, _, rfl, l, _, 1, v2, rfl, rfl, SqL.of l1, atI_nat (j := 1) rfl, _, rfl, l, _, 2, v3, rfl, rfl, SqL.of l1, atI_nat (j := 2) rfl, fun x dx nx ndx _ => use_end a1 nx ndx hE hQ fun v H2 e2 t => k v H2 (x1.trans (LamX.ExtN.of e2)) (T1.ext e2) t⟩
    refine iteNo (decide_eq_false fun z => q3 (by have := V.int.inj z; omega)) ?_
    refine ⟨_, rfl, l, _, rfl, .inl (SqL.of hl), rfl, _, rfl, ?_⟩
    by_cases q4 : xs.length = 4
    · refine iteYes (decide_eq_true (by rw [q4]; rfl)) ?_
      obtain ⟨v1, v2, v3, v4, rfl⟩ : ∃ v1 v2 v3 v4, xs = [v1, v2, v3, v4] := len4 q4
      refine ⟨hT, fun H1 x1 T1 E' Q' hE hQ => ?_⟩
      have a1 := ha.extN x1
      have l1 := x1 _ _ hl (fun ps z => nomatch z)
      exact ⟨_, rfl, l, _, 0, v1, rfl, rfl, SqL.of l1, atI_nat (j := 0) rfl, _, rfl, l, _, 1, v2, rfl, rfl, SqL.of l1, atI_nat (j := 1) rfl, _, rfl, l, _, 2, v3, rfl, rfl, SqL.of l1, atI_nat (j := 2) rfl, _, rfl, l, _, 3, v4, rfl, rfl, SqL.of l1, atI_nat (j := 3) rfl, fun x dx nx ndx _ => use_end a1 nx ndx hE hQ fun v H2 e2 t => k v H2 (x1.trans (LamX.ExtN.of e2)) (T1.ext e2) t⟩
    refine iteNo (decide_eq_false fun z => q4 (by have := V.int.inj z; omega)) ?_
    have q5 : xs.length = 5 := by omega
    obtain ⟨v1, v2, v3, v4, v5, rfl⟩ : ∃ v1 v2 v3 v4 v5, xs = [v1, v2, v3, v4, v5] := len5 q5
    refine ⟨hT, fun H1 x1 T1 E' Q' hE hQ => ?_⟩
    have a1 := ha.extN x1
    have l1 := x1 _ _ hl (fun ps z => nomatch z)
    exact ⟨_, rfl, l, _, 0, v1, rfl, rfl, SqL.of l1, atI_nat (j := 0) rfl, _, rfl, l, _, 1, v2, rfl, rfl, SqL.of l1, atI_nat (j := 1) rfl, _, rfl, l, _, 2, v3, rfl, rfl, SqL.of l1, atI_nat (j := 2) rfl, _, rfl, l, _, 3, v4, rfl, rfl, SqL.of l1, atI_nat (j := 3) rfl, _, rfl, l, _, 4, v5, rfl, rfl, SqL.of l1, atI_nat (j := 4) rfl, fun x dx nx ndx _ => use_end a1 nx ndx hE hQ fun v H2 e2 t => k v H2 (x1.trans (LamX.ExtN.of e2)) (T1.ext e2) t⟩
/-! ### _law_done -/
def spDone (TT : List (Addr × Str)) : Sp := fun vs H Q _ => ∃ (v0 : V) (d0 : PyData) (l : Addr) (xs : List V) (ds : List PyData), vs = [v0, .ref l] ∧ TV H v0 d0 ∧ SmD d0 ∧ H l = some (.lst xs) ∧ ArgsAt H xs ds ∧ xs.length ≤ 5 ∧ LamX.Tabs TT H ∧ ∀ v H', LamX.ExtN H H' → LamX.Tabs TT H' → TV H' v (fltD (doF d0 ds)) → Q v H'
abbrev s__law_done : Stmt := top 29
abbrev N__law_done : List Str := ["_law_made", "_law_used_here"]
theorem sc__law_done : FnScope N__law_done ["_law_made", "_law_used_here"] (defScope s__law_done) := ⟨rfl, rfl, rfl, by decide +kernel, rfl, by decide +kernel, by decide +kernel⟩
theorem ok_law_done {f g c P1 : Addr} {fd fdh : FuncData} {TT : List (Addr × Str)} (F : Fun K "_law_done" "_law_done" s__law_done f fd) (T : Tx K mg CE CN CB CW CY CD CU CM CO tL tN tU)
    (F__law_heard : Fun K "_law_heard" "_law_heard" s__law_heard g fdh) (m__law_heard : mg "_law_heard" = some (.ref g)) (b__law_heard : L2.Binds K fdh ["_law_ask"] []) (eN : ErrT K CE CN CW CY CB CN "value" true false false false) (eW : ErrT K CE CN CW CY CB CW "name" false true false false) (eY : ErrT K CE CN CW CY CB CY "most" false false true false) (eB : ErrT K CE CN CW CY CB CB "value" false false false true)
    (hfc : fd.code = .ref c) (TB : LamX.TabB base mg c P1) (hmT : (P1, ("_law_done.<locals>.<lambda>" : Str)) ∈ TT) (huT : ∀ p ∈ TT, p.1 = P1 → p.2 = ("_law_done.<locals>.<lambda>" : Str))
    (c_Do : Mkc P w K mg base (L2.CX P w) 5 CO "Do" (spDo CN CB CW CY CO)) :
    FnG P w K mg base CX0 11 f fd ["_law_made", "_law_used_here"] (spDone TT) := by
  refine okG F sc__law_done (fun vs H Q E h => ?_) (fun cdv A outer s H vs Q E hcd hgd hr h => ?_)
  · obtain ⟨v0, d0, l, xs, ds, rfl, _⟩ := h
    rfl
  · obtain ⟨v0, d0, l, xs, ds, rfl, hv, sm, hl, ha, h5, hT, k⟩ := h
    rw [hfc] at hcd
    subst hcd
    refine ⟨_, (pss_cons (ps_if (pt_cmpR op_eq (pe_callB call_len_seq (by rfl) (T.bn _ (by decide +kernel)) (by decide +kernel) (pa_cons (pv 1) pa_nil)) pe_int (nomark _)) (pss_one (ps_ret (pe_lamS (T := TT) (k := 8) F__law_heard (by rfl) m__law_heard b__law_heard sc__law_heard rfl (.inl rfl) (fun cdv => heard_gives T eN eW eY eB) TB rfl hmT huT (hr.mono (by decide)) (LamX.lamS_by (sc := defScope s__law_done) (by decide +kernel)) rfl (fun _ _ _ _ _ => rfl) (fun A outer s H E f c2 hr => (pe_mkc c_Do (hr.mono (by decide)) (by rfl) passLm (pa_cons (pv 0) pa_nil)))))) pss_nil)
      (pss_cons (ps_if (pt_cmpR op_eq (pe_callB call_len_seq (by rfl) (T.bn _ (by decide +kernel)) (by decide +kernel) (pa_cons (pv 1) pa_nil)) pe_int (nomark _)) (pss_one (ps_ret (pe_lamS (T := TT) (k := 8) F__law_heard (by rfl) m__law_heard b__law_heard sc__law_heard rfl (.inl rfl) (fun cdv => heard_gives T eN eW eY eB) TB rfl hmT huT (hr.mono (by decide)) (LamX.lamS_by (sc := defScope s__law_done) (by decide +kernel)) rfl (fun _ _ _ _ _ => rfl) (fun A outer s H E f c2 hr => (pe_mkc c_Do (hr.mono (by decide)) (by rfl) passLm (pa_cons (pv 0) (pa_cons (pe_ix (show IxR _ (rIxL K) from ix_list) (pv 1) pe_int (fun _ _ => rfl)) pa_nil))))))) pss_nil)
      (pss_cons (ps_if (pt_cmpR op_eq (pe_callB call_len_seq (by rfl) (T.bn _ (by decide +kernel)) (by decide +kernel) (pa_cons (pv 1) pa_nil)) pe_int (nomark _)) (pss_one (ps_ret (pe_lamS (T := TT) (k := 8) F__law_heard (by rfl) m__law_heard b__law_heard sc__law_heard rfl (.inl rfl) (fun cdv => heard_gives T eN eW eY eB) TB rfl hmT huT (hr.mono (by decide)) (LamX.lamS_by (sc := defScope s__law_done) (by decide +kernel)) rfl (fun _ _ _ _ _ => rfl) (fun A outer s H E f c2 hr => (pe_mkc c_Do (hr.mono (by decide)) (by rfl) passLm (pa_cons (pv 0) (pa_cons (pe_ix (show IxR _ (rIxL K) from ix_list) (pv 1) pe_int (fun _ _ => rfl)) (pa_cons (pe_ix (show IxR _ (rIxL K) from ix_list) (pv 1) pe_int (fun _ _ => rfl)) pa_nil)))))))) pss_nil)
      (pss_cons (ps_if (pt_cmpR op_eq (pe_callB call_len_seq (by rfl) (T.bn _ (by decide +kernel)) (by decide +kernel) (pa_cons (pv 1) pa_nil)) pe_int (nomark _)) (pss_one (ps_ret (pe_lamS (T := TT) (k := 8) F__law_heard (by rfl) m__law_heard b__law_heard sc__law_heard rfl (.inl rfl) (fun cdv => heard_gives T eN eW eY eB) TB rfl hmT huT (hr.mono (by decide)) (LamX.lamS_by (sc := defScope s__law_done) (by decide +kernel)) rfl (fun _ _ _ _ _ => rfl) (fun A outer s H E f c2 hr => (pe_mkc c_Do (hr.mono (by decide)) (by rfl) passLm (pa_cons (pv 0) (pa_cons (pe_ix (show IxR _ (rIxL K) from ix_list) (pv 1) pe_int (fun _ _ => rfl)) (pa_cons (pe_ix (show IxR _ (rIxL K) from ix_list) (pv 1) pe_int (fun _ _ => rfl)) (pa_cons (pe_ix (show IxR _ (rIxL K) from ix_list) (pv 1) pe_int (fun _ _ => rfl)) pa_nil))))))))) pss_nil)
      (pss_cons (ps_if (pt_cmpR op_eq (pe_callB call_len_seq (by rfl) (T.bn _ (by decide +kernel)) (by decide +kernel) (pa_cons (pv 1) pa_nil)) pe_int (nomark _)) (pss_one (ps_ret (pe_lamS (T := TT) (k := 8) F__law_heard (by rfl) m__law_heard b__law_heard sc__law_heard rfl (.inl rfl) (fun cdv => heard_gives T eN eW eY eB) TB rfl hmT huT (hr.mono (by decide)) (LamX.lamS_by (sc := defScope s__law_done) (by decide +kernel)) rfl (fun _ _ _ _ _ => rfl) (fun A outer s H E f c2 hr => (pe_mkc c_Do (hr.mono (by decide)) (by rfl) passLm (pa_cons (pv 0) (pa_cons (pe_ix (show IxR _ (rIxL K) from ix_list) (pv 1) pe_int (fun _ _ => rfl)) (pa_cons (pe_ix (show IxR _ (rIxL K) from ix_list) (pv 1) pe_int (fun _ _ => rfl)) (pa_cons (pe_ix (show IxR _ (rIxL K) from ix_list) (pv 1) pe_int (fun _ _ => rfl)) (pa_cons (pe_ix (show IxR _ (rIxL K) from ix_list) (pv 1) pe_int (fun _ _ => rfl)) pa_nil)))))))))) pss_nil)
      (pss_one (ps_ret (pe_lamS (T := TT) (k := 8) F__law_heard (by rfl) m__law_heard b__law_heard sc__law_heard rfl (.inl rfl) (fun cdv => heard_gives T eN eW eY eB) TB rfl hmT huT (hr.mono (by decide)) (LamX.lamS_by (sc := defScope s__law_done) (by decide +kernel)) rfl (fun _ _ _ _ _ => rfl) (fun A outer s H E f c2 hr => (pe_mkc c_Do (hr.mono (by decide)) (by rfl) passLm (pa_cons (pv 0) (pa_cons (pe_ix (show IxR _ (rIxL K) from ix_list) (pv 1) pe_int (fun _ _ => rfl)) (pa_cons (pe_ix (show IxR _ (rIxL K) from ix_list) (pv 1) pe_int (fun _ _ => rfl)) (pa_cons (pe_ix (show IxR _ (rIxL K) from ix_list) (pv 1) pe_int (fun _ _ => rfl)) (pa_cons (pe_ix (show IxR _ (rIxL K) from ix_list) (pv 1) pe_int (fun _ _ => rfl)) (pa_cons (pe_ix (show IxR _ (rIxL K) from ix_list) (pv 1) pe_int (fun _ _ => rfl)) pa_nil)))))))))))))))), ?_⟩
    refine ⟨_, rfl, l, _, rfl, .inl (SqL.of hl), rfl, _, rfl, ?_⟩
    by_cases q0 : xs.length = 0
    · refine iteYes (decide_eq_true (by rw [q0]; rfl)) ?_
      obtain rfl : xs = [] := List.eq_nil_of_length_eq_zero q0
      refine ⟨hT, fun H1 x1 T1 E' Q' hE hQ => ?_⟩
      have a1 := ha.extN x1
      have l1 := x1 _ _ hl (fun ps z => nomatch z)
      have v1_ := tv_N hv x1
      exact ⟨_, rfl, fun x dx nx ndx _ => do_end v1_ sm a1 nx ndx hE hQ fun v H2 e2 t => k v H2 (x1.trans (LamX.ExtN.of e2)) (T1.ext e2) t⟩
    refine iteNo (decide_eq_false fun z => q0 (by have := V.int.inj z; omega)) ?_
    refine ⟨_, rfl, l, _, rfl, .inl (SqL.of hl), rfl, _, rfl, ?_⟩
    by_cases q1 : xs.length = 1
    · refine iteYes (decide_eq_true (by rw [q1]; rfl)) ?_
      obtain ⟨v1, rfl⟩ : ∃ v1, xs = [v1] := len1 q1
      refine ⟨hT, fun H1 x1 T1 E' Q' hE hQ => ?_⟩
      have a1 := ha.extN x1
      have l1 := x1 _ _ hl (fun ps z => nomatch z)
      have v1_ := tv_N hv x1
      exact ⟨_, rfl, _, rfl, l, _, 0, v1, rfl, rfl, SqL.of l1, atI_nat (j := 0) rfl, fun x dx nx ndx _ => do_end v1_ sm a1 nx ndx hE hQ fun v H2 e2 t => k v H2 (x1.trans (LamX.ExtN.of e2)) (T1.ext e2) t⟩
    refine iteNo (decide_eq_false fun z => q1 (by have := V.int.inj z; omega)) ?_
    refine ⟨_, rfl, l, _, rfl, .inl (SqL.of hl), rfl, _, rfl, ?_⟩
    by_cases q2 : xs.length = 2
    · refine iteYes (decide_eq_true (by rw [q2]; rfl)) ?_
      obtain ⟨v1, v2, rfl⟩ : ∃ v1 v2, xs = [v1, v2] := len2 q2
      refine ⟨hT, fun H1 x1 T1 E' Q' hE hQ => ?_⟩
      have a1 := ha.extN x1
      have l1 := x1 _ _ hl (fun ps z => nomatch z)
      have v1_ := tv_N hv x1
      exact ⟨_, rfl, _, rfl, l, _, 0, v1, rfl, rfl, SqL.of l1, atI_nat (j := 0) rfl, _, rfl, l, _, 1, v2, rfl, rfl, SqL.of l1, atI_nat (j := 1) rfl, fun x dx nx ndx _ => do_end v1_ sm a1 nx ndx hE hQ fun v H2 e2 t => k v H2 (x1.trans (LamX.ExtN.of e2)) (T1.ext e2) t⟩
    refine iteNo (decide_eq_false fun z => q2 (by have := V.int.inj z; omega)) ?_
    refine ⟨_, rfl, l, _, rfl, .inl (SqL.of hl), rfl, _, rfl, ?_⟩
    by_cases q3 : xs.length = 3
    · refine iteYes (decide_eq_true (by rw [q3]; rfl)) ?_
      obtain ⟨v1, v2, v3, rfl⟩ : ∃ v1 v2 v3, xs = [v1, v2, v3] := len3 q3
      refine ⟨hT, fun H1 x1 T1 E' Q' hE hQ => ?_⟩
      have a1 := ha.extN x1
      have l1 := x1 _ _ hl (fun ps z => nomatch z)
      have v1_ := tv_N hv x1
      exact ⟨_, rfl, _, rfl, l, _, 0, v1, rfl, rfl, SqL.of l1, atI_nat (j := 0) rfl, _, rfl, l, _, 1, v2, rfl, rfl, SqL.of l1, atI_nat (j := 1) rfl, _, rfl, l, _, 2, v3, rfl, rfl, SqL.of l1, atI_nat (j := 2) rfl, fun x dx nx ndx _ => do_end v1_ sm a1 nx ndx hE hQ fun v H2 e2 t => k v H2 (x1.trans (LamX.ExtN.of e2)) (T1.ext e2) t⟩
    refine iteNo (decide_eq_false fun z => q3 (by have := V.int.inj z; omega)) ?_
    refine ⟨_, rfl, l, _, rfl, .inl (SqL.of hl), rfl, _, rfl, ?_⟩
    by_cases q4 : xs.length = 4
    · refine iteYes (decide_eq_true (by rw [q4]; rfl)) ?_
      obtain ⟨v1, v2, v3, v4, rfl⟩ : ∃ v1 v2 v3 v4, xs = [v1, v2, v3, v4] := len4 q4
      refine ⟨hT, fun H1 x1 T1 E' Q' hE hQ => ?_⟩
      have a1 := ha.extN x1
      have l1 := x1 _ _ hl (fun ps z => nomatch z)
      have v1_ := tv_N hv x1
      exact ⟨_, rfl, _, rfl, l, _, 0, v1, rfl, rfl, SqL.of l1, atI_nat (j := 0) rfl, _, rfl, l, _, 1, v2, rfl, rfl, SqL.of l1, atI_nat (j := 1) rfl, _, rfl, l, _, 2, v3, rfl, rfl, SqL.of l1, atI_nat (j := 2) rfl, _, rfl, l, _, 3, v4, rfl, rfl, SqL.of l1, atI_nat (j := 3) rfl, fun x dx nx ndx _ => do_end v1_ sm a1 nx ndx hE hQ fun v H2 e2 t => k v H2 (x1.trans (LamX.ExtN.of e2)) (T1.ext e2) t⟩
    refine iteNo (decide_eq_false fun z => q4 (by have := V.int.inj z; omega)) ?_
    have q5 : xs.length = 5 := by omega
    obtain ⟨v1, v2, v3, v4, v5, rfl⟩ : ∃ v1 v2 v3 v4 v5, xs = [v1, v2, v3, v4, v5] := len5 q5
    refine ⟨hT, fun H1 x1 T1 E' Q' hE hQ => ?_⟩
    have a1 := ha.extN x1
    have l1 := x1 _ _ hl (fun ps z => nomatch z)
    have v1_ := tv_N hv x1
    exact ⟨_, rfl, _, rfl, l, _, 0, v1, rfl, rfl, SqL.of l1, atI_nat (j := 0) rfl, _, rfl, l, _, 1, v2, rfl, rfl, SqL.of l1, atI_nat (j := 1) rfl, _, rfl, l, _, 2, v3, rfl, rfl, SqL.of l1, atI_nat (j := 2) rfl, _, rfl, l, _, 3, v4, rfl, rfl, SqL.of l1, atI_nat (j := 3) rfl, _, rfl, l, _, 4, v5, rfl, rfl, SqL.of l1, atI_nat (j := 4) rfl, fun x dx nx ndx _ => do_end v1_ sm a1 nx ndx hE hQ fun v H2 e2 t => k v H2 (x1.trans (LamX.ExtN.of e2)) (T1.ext e2) t⟩
end
end K02
end
section
set_option Elab.async false
set_option autoImplicit false
set_option linter.all false
set_option maxRecDepth 100000
set_option maxHeartbeats 4000000
namespace K02
open PySem PySem.Spec PyProof.Rows L2 Ls
open C8 (pss_cut tCut)
open TL
theorem bad_mem : ∀ {ds : List PyData} {d : PyData}, badOf ds = some d → d ∈ ds
  | [], _, h => by cases h
  | x :: r, d, h => by
    have h : (if nameOf x = none then some x else badOf r) = some d := h
    by_cases q : nameOf x = none
    · rw [if_pos q] at h
      cases h
      exact List.mem_cons_self
    · rw [if_neg q] at h
      exact List.mem_cons_of_mem _ (bad_mem h)
theorem twi_mem : ∀ {seen zs : List Str} {z : Str}, twi seen zs = some z → z ∈ zs
  | _, [], _, h => by cases h
  | seen, x :: r, z, h => by
    have h : (if x ∈ seen then some x else twi (seen ++ [x]) r) = some z := h
    by_cases q : x ∈ seen
    · rw [if_pos q] at h
      cases h
      exact List.mem_cons_self
    · rw [if_neg q] at h
      exact List.mem_cons_of_mem _ (twi_mem h)
theorem nm_shw {n : Nat} {d : PyData} {s : Str} (hs : Shw 100 (.str s)) (h : Shw n d) (hd : d.depth ≤ 2) : Shw (n + 200) (.tuple [.str s, d]) := (hs.tup2 h (show (0 : Nat) < 20 by decide) (by omega)).mono (by omega)
theorem s_name : Shw 100 (.str "name") := ⟨rfl, by decide, by decide +kernel⟩
theorem s_deed : Shw 100 (.str "deed") := ⟨rfl, by decide, by decide +kernel⟩
theorem s_twice : Shw 100 (.str "twice") := ⟨rfl, by decide, by decide +kernel⟩
theorem none_shw : Shw 100 .none := ⟨rfl, by decide, by decide +kernel⟩
theorem flt_shw {ds : List PyData} (h : ∀ d ∈ ds, Ask d) : Shw 400 (fltD (usedF ds)) := by
  unfold usedF
  cases hb : badOf ds with
  | some d =>
    have a := h d (bad_mem hb)
    exact nm_shw s_name a.sw a.dp
  | none =>
    show Shw 400 (fltD (match twi [] (namesOf ds) with | some z => some (Flt.twice z) | none => if 3 < ds.length then some .many else if ds = [] then some .deed else none))
    cases ht : twi [] (namesOf ds) with
    | some z =>
      have hz := twi_mem ht
      have a := h (.str z) (by rw [(bad_none hb).1]; exact List.mem_map_of_mem hz)
      exact nm_shw s_twice a.sw a.dp
    | none =>
      show Shw 400 (fltD (if 3 < ds.length then some .many else if ds = [] then some .deed else none))
      by_cases h3 : 3 < ds.length
      · rw [if_pos h3]
        exact ⟨rfl, by decide, by decide +kernel⟩
      · rw [if_neg h3]
        by_cases h0 : ds = []
        · rw [if_pos h0]
          exact ⟨rfl, by decide, by decide +kernel⟩
        · rw [if_neg h0]
          exact none_shw.mono (by decide)
theorem do_shw {d : PyData} {ds : List PyData} (hd : Ask d) (h : ∀ d ∈ ds, Ask d) : Shw 400 (fltD (doF d ds)) := by
  unfold doF
  by_cases q : nameOf d = none
  · rw [if_pos q]
    exact nm_shw s_name hd.sw hd.dp
  · rw [if_neg q]
    exact flt_shw h
theorem due_do (d : PyData) (ds : List PyData) : dueF 1 (d :: ds) = doF d ds := by
  unfold doF
  by_cases q : nameOf d = none
  · rw [if_pos q, due_one_no q]
  · rw [if_neg q, due_one q]
theorem dp_pair {K : PySem.W.Frag} {H : Hp} {v : V} (h : TV H v (.tuple [.str "deed", .none])) : Dp K H v (.tuple [.str "deed", .none]) := by
  cases h with
  | tup e h =>
    cases h with
    | cons h1 h2 =>
      cases tv_str h1
      cases h2 with
      | cons h3 h4 =>
        cases h3
        cases h4
        exact .tup (SqT.of e) (.cons (.str _) (.cons .non .nil))
theorem read_end {CN CB CW CY : Addr} {H : Hp} {c v0 : V} {d0 : PyData} {Q Q' : VK} {E' : XK} (hv : TV H v0 d0) (sm : SmD d0)
    (hE : ∀ cls d H', HeardE CN CW CY CB Q cls d H' → E' cls d H') (hQ : ∀ v H1, HeardV Q v H1 → Q' v H1) (k : ∀ v H', Ext H H' → TV H' v (if readOk d0 then .none else .tuple [.str "deed", d0]) → Q v H') : spRead CB [c, v0] H Q' E' := by
  refine ⟨c, v0, d0, rfl, hv, sm, fun ho a H1 e1 => hQ _ _ fun H2 e2 => k _ _ (e1.trans e2) ?_, fun ho dd H2 e2 hdd => hE _ _ _ ⟨CB, dd, v0, "value", "deed", rfl, rfl, (nw_some hdd).2, .inr (.inr (.inr ⟨rfl, rfl, rfl⟩)), fun p H3 e3 hp => k _ H3 (e2.trans e3) ?_⟩⟩
  · rw [ho]
    exact .non
  · rw [ho]
    exact .tup (nw_some hp).2 (.cons (.str _) (.cons (hv.ext (e2.trans e3)) .nil))
section
variable {P : Program} {w : World} {K : PySem.W.Frag} {mg : Str → Option Value} {base : Heap} {CE CN CB CW CY CD CU CM CO : Addr} {tL tN tU : Tok}
def spLaw (K : PySem.W.Frag) (TT : List (Addr × Str)) : Sp := fun vs H Q _ => ∃ (a : Addr) (ns : List Int), vs = [.ref a] ∧ SqL K H a (ns.map V.int) ∧ ns.length ≤ 63 ∧ LamX.Tabs TT H ∧ ∀ H', Q (.bl true) H'
abbrev s_law : Stmt := top 34
abbrev N_law : List Str := ["_law_script", "_law_pen_here", "_law_lap", "_law_values_here", "_law_due_here", "_law_text", "_law_odd_here"]
theorem sc_law : FnScope N_law ["_law_script"] (defScope s_law) := ⟨rfl, rfl, rfl, by decide +kernel, rfl, by decide +kernel, by decide +kernel⟩
theorem ok_law {f g c2 P2 : Addr} {fd fdh : FuncData} {TT : List (Addr × Str)} (F : Fun K "law" "law" s_law f fd) (T : Tx K mg CE CN CB CW CY CD CU CM CO tL tN tU)
    (F__law_heard : Fun K "_law_heard" "_law_heard" s__law_heard g fdh) (m__law_heard : mg "_law_heard" = some (.ref g)) (b__law_heard : L2.Binds K fdh ["_law_ask"] [])
    (eN : ErrT K CE CN CW CY CB CN "value" true false false false) (eW : ErrT K CE CN CW CY CB CW "name" false true false false) (eY : ErrT K CE CN CW CY CB CY "most" false false true false) (eB : ErrT K CE CN CW CY CB CB "value" false false false true)
    (hfc : fd.code = .ref c2) (TB : LamX.TabB base mg c2 P2) (hmT : (P2, ("law.<locals>.<lambda>" : Str)) ∈ TT) (huT : ∀ p ∈ TT, p.1 = P2 → p.2 = ("law.<locals>.<lambda>" : Str)) (hsys : (base.get? sysModules).isSome = true)
    (c_Use : Mkc P w K mg base (L2.CX P w) 5 CU "Use" (spUse CN CB CW CY CU)) (c_Make : Mkc P w K mg base (L2.CX P w) 5 CM "Make" (spMake CN CM)) (c_Do : Mkc P w K mg base (L2.CX P w) 5 CO "Do" (spDo CN CB CW CY CO))
    (c_Deed_read : Clm P w K mg base (L2.CX P w) 7 CD "read" (spRead CB))
    (c__law_pen : Cal P w K mg base CX0 1 "_law_pen" (spPen K)) (c__law_draw : Cal P w K mg base CX0 1 "_law_draw" spDraw) (c__law_values : Cal P w K mg base CX0 4 "_law_values" spVals) (c__law_done : CalG P w K mg base CX0 11 "_law_done" (spDone TT)) (c__law_used : CalG P w K mg base CX0 11 "_law_used" (spUsed TT))
    (c__law_due : Cal P w K mg base CX0 2 "_law_due" spDue) (c__law_is_name : Cal P w K mg base CX0 1 "_law_is_name" spName) (c__law_bent : Cal P w K mg base CX0 3 "_law_bent" spBent) (c__law_odd : Cal P w K mg base CX0 3 "_law_odd" spOdd) (c__law_is_text : Cal P w K mg base CX0 2 "_law_is_text" spText) :
    FnG P w K mg base CX0 13 f fd ["_law_script"] (spLaw K TT) := by
  refine okG F sc_law (fun vs H Q E h => ?_) (fun cdv A outer s H vs Q E hcd hgd hr h => ?_)
  · obtain ⟨a, ns, rfl, _⟩ := h
    rfl
  · obtain ⟨a, ns, rfl, ha, hn, hT, k⟩ := h
    rw [hfc] at hcd
    subst hcd
    have h4 : sizeLine = 16777216 := sizeLine_eq
    refine ⟨_, (pss_cons (ps_set (i := 1) sc_law.nd rfl (by first | exact Or.inl rfl | exact Or.inr rfl) (pe_cal c__law_pen (hr.mono (by decide)) (by rfl) pass0 (pa_cons (pv 0) pa_nil)))
      (pss_cons (ps_for PassesOwn.never rfl (pi_range1 rfl (T.bn _ (by decide +kernel)) (pa_cons pe_int pa_nil)) (pg_name (i := 2) sc_law.nd rfl (by first | exact Or.inl rfl | exact Or.inr rfl))
      (pss_cons (ps_set (i := 3) sc_law.nd rfl (by first | exact Or.inl rfl | exact Or.inr rfl) (pe_cal c__law_values (hr.mono (by decide)) (by rfl) pass0 (pa_cons (pv 1) (pa_cons (pe_op op_add pe_int (pe_cal c__law_draw (hr.mono (by decide)) (by rfl) pass0 (pa_cons (pv 1) (pa_cons pe_int pa_nil)))) pa_nil))))
      (pss_cons (ps_if (pt_cmpR op_ne (pe_callB (call_repr hgd hr hsys) (by rfl) (T.bn _ (by decide +kernel)) (by decide +kernel) (pa_cons (pe_calG hgd c__law_done (hr.mono (by decide)) (by rfl) pass0 (pa_cons (pe_ix ix_list (pv 3) pe_int (fun _ _ => rfl)) (pa_cons (pe_slice sl_list (pv 3) (po_some pe_int) po_none) pa_nil))) pa_nil)) (pe_callB (call_repr hgd hr hsys) (by rfl) (T.bn _ (by decide +kernel)) (by decide +kernel) (pa_cons (pe_cal c__law_due (hr.mono (by decide)) (by rfl) pass0 (pa_cons (pv 3) (pa_cons pe_int pa_nil))) pa_nil)) (nomark _)) (pss_one (ps_ret pe_bl)) pss_nil)
      (pss_cons (ps_if (pt_cmpR op_ne (pe_callB (call_repr hgd hr hsys) (by rfl) (T.bn _ (by decide +kernel)) (by decide +kernel) (pa_cons (pe_calG hgd c__law_used (hr.mono (by decide)) (by rfl) pass0 (pa_cons (pe_slice sl_list (pv 3) (po_some pe_int) po_none) pa_nil)) pa_nil)) (pe_callB (call_repr hgd hr hsys) (by rfl) (T.bn _ (by decide +kernel)) (by decide +kernel) (pa_cons (pe_cal c__law_due (hr.mono (by decide)) (by rfl) pass0 (pa_cons (pe_slice sl_list (pv 3) (po_some pe_int) po_none) (pa_cons pe_int pa_nil))) pa_nil)) (nomark _)) (pss_one (ps_ret pe_bl)) pss_nil)
      (pss_cut (ps_set (i := 4) sc_law.nd rfl (by first | exact Or.inl rfl | exact Or.inr rfl) (pe_ifExp (pt_val (pe_cal c__law_is_name (hr.mono (by decide)) (by rfl) pass0 (pa_cons (pe_ix ix_list (pv 3) pe_int (fun _ _ => rfl)) pa_nil))) pe_non (pe_tup (pa_cons pe_str (pa_cons (pe_ix ix_list (pv 3) pe_int (fun _ _ => rfl)) pa_nil)))))
      (pss_cons (ps_if (pt_cmpR op_ne (pe_callB (call_repr hgd hr hsys) (by rfl) (T.bn _ (by decide +kernel)) (by decide +kernel) (pa_cons (pe_lamS (T := TT) (k := 8) F__law_heard (by rfl) m__law_heard b__law_heard sc__law_heard rfl (.inl rfl) (fun cdv => heard_gives T eN eW eY eB) TB rfl hmT huT (hr.mono (by decide)) (LamX.lamS_by (sc := defScope s_law) (by decide +kernel)) rfl (fun _ _ _ _ _ => rfl) (fun A outer s H E f c2 hr => (pe_mkc c_Make (hr.mono (by decide)) (by rfl) passLm (pa_cons (pe_ix (show IxR _ (rIxL K) from ix_list) (pv 3) pe_int (fun _ _ => rfl)) pa_nil)))) pa_nil)) (pe_callB (call_repr hgd hr hsys) (by rfl) (T.bn _ (by decide +kernel)) (by decide +kernel) (pa_cons (pv 4) pa_nil)) (nomark _)) (pss_one (ps_ret pe_bl)) pss_nil)
      (pss_cons (ps_asg (pe_tup (pa_cons (pe_cal c__law_bent (hr.mono (by decide)) (by rfl) pass0 (pa_cons (pv 1) pa_nil)) (pa_cons (pe_cal c__law_odd (hr.mono (by decide)) (by rfl) pass0 (pa_cons (pv 1) pa_nil)) pa_nil))) (pg_tup rfl (pgs_cons (pg_name (i := 5) sc_law.nd rfl (by first | exact Or.inl rfl | exact Or.inr rfl)) (pgs_cons (pg_name (i := 6) sc_law.nd rfl (by first | exact Or.inl rfl | exact Or.inr rfl)) pgs_nil))))
      (pss_cut (ps_set (i := 4) sc_law.nd rfl (by first | exact Or.inl rfl | exact Or.inr rfl) (pe_ifExp (pt_val (pe_cal c__law_is_text (hr.mono (by decide)) (by rfl) pass0 (pa_cons (pv 5) pa_nil))) pe_non (pe_tup (pa_cons pe_str (pa_cons (pv 5) pa_nil)))))
      (pss_cons (ps_if (pt_cmpR op_ne (pe_callB (call_repr hgd hr hsys) (by rfl) (T.bn _ (by decide +kernel)) (by decide +kernel) (pa_cons (pe_lamS (T := TT) (k := 8) F__law_heard (by rfl) m__law_heard b__law_heard sc__law_heard rfl (.inl rfl) (fun cdv => heard_gives T eN eW eY eB) TB rfl hmT huT (hr.mono (by decide)) (LamX.lamS_by (sc := defScope s_law) (by decide +kernel)) rfl (fun _ _ _ _ _ => rfl) (fun A outer s H E f c2 hr => (pe_clm c_Deed_read (hr.mono (by decide)) (pe_gref (by rfl) T.m_Deed) passLm (pa_cons (pv 5) pa_nil)))) pa_nil)) (pe_callB (call_repr hgd hr hsys) (by rfl) (T.bn _ (by decide +kernel)) (by decide +kernel) (pa_cons (pv 4) pa_nil)) (nomark _)) (pss_one (ps_ret pe_bl)) pss_nil)
      (pss_one (ps_if (pt_cmpR op_ne (pe_callB (call_repr hgd hr hsys) (by rfl) (T.bn _ (by decide +kernel)) (by decide +kernel) (pa_cons (pe_lamS (T := TT) (k := 8) F__law_heard (by rfl) m__law_heard b__law_heard sc__law_heard rfl (.inl rfl) (fun cdv => heard_gives T eN eW eY eB) TB rfl hmT huT (hr.mono (by decide)) (LamX.lamS_by (sc := defScope s_law) (by decide +kernel)) rfl (fun _ _ _ _ _ => rfl) (fun A outer s H E f c2 hr => (pe_clm c_Deed_read (hr.mono (by decide)) (pe_gref (by rfl) T.m_Deed) passLm (pa_cons (pv 6) pa_nil)))) pa_nil)) (pe_callB (call_repr hgd hr hsys) (by rfl) (T.bn _ (by decide +kernel)) (by decide +kernel) (pa_cons (pe_tup (pa_cons pe_str (pa_cons (pv 6) pa_nil))) pa_nil)) (nomark _)) (pss_one (ps_ret pe_bl)) pss_nil)))))))))))
      (pss_cons (ps_if (pt_cmpR (op_neD hr.units) (pe_lamS (T := TT) (k := 8) F__law_heard (by rfl) m__law_heard b__law_heard sc__law_heard rfl (.inl rfl) (fun cdv => heard_gives T eN eW eY eB) TB rfl hmT huT (hr.mono (by decide)) (LamX.lamS_by (sc := defScope s_law) (by decide +kernel)) rfl (fun _ _ _ _ _ => rfl) (fun A outer s H E f c2 hr => (pe_mk0 c_Use (hr.mono (by decide)) (by rfl) passLm))) (pe_tup (pa_cons pe_str (pa_cons pe_non pa_nil))) (nomark _)) (pss_one (ps_ret pe_bl)) pss_nil)
      (pss_one (ps_ret (pe_cmpR (op_eqD hr.units) (pe_lamS (T := TT) (k := 8) F__law_heard (by rfl) m__law_heard b__law_heard sc__law_heard rfl (.inl rfl) (fun cdv => heard_gives T eN eW eY eB) TB rfl hmT huT (hr.mono (by decide)) (LamX.lamS_by (sc := defScope s_law) (by decide +kernel)) rfl (fun _ _ _ _ _ => rfl) (fun A outer s H E f c2 hr => (pe_mkc c_Do (hr.mono (by decide)) (by rfl) passLm (pa_cons pe_str pa_nil)))) (pe_tup (pa_cons pe_str (pa_cons pe_non pa_nil))) (nomark _))))))), ?_⟩
    refine ⟨_, rfl, a, ns, rfl, ha, by omega, fun p c H1 hp e1 _ _ => ?_⟩
    have T1 := hT.ext e1
    refine ⟨8, rfl, by decide, by decide, for_range (n := 8) (fun i σ H' => ∃ x2 x3 x4 x5 x6, σ = [some (.ref a), some (.ref p), x2, x3, x4, x5, x6] ∧ PenAt H' p c (i * 200) ∧ LamX.Tabs TT H') ⟨_, _, _, _, _, rfl, hp, T1⟩ ?_ ?_⟩
    · rintro i σ H2 hi ⟨o2, o3, o4, o5, o6, rfl, hp2, T2⟩
      have hi : i < 8 := hi
      refine ⟨_, rfl, _, rfl, p, c, i * 200, 6, rfl, hp2, by omega, by decide, by decide, fun j H3 j0 j1 hp3 kp3 => ?_⟩
      have T3 := hp2.tabs T2 kp3
      refine ⟨_, _, rfl, rfl, p, c, i * 200 + 1, 1 + j, rfl, hp3, by omega, by omega, by omega, fun l xs ds H4 nl hl4 npl ncl tv4 as4 hln hp4 kp4 => ?_⟩
      have T4 := hp3.tabs T3 kp4
      obtain ⟨y0, ys, rfl⟩ : ∃ y0 ys, xs = y0 :: ys := by
        cases xs with
        | nil => simp at hln; omega
        | cons y ys => exact ⟨y, ys, rfl⟩
      have ys5 : ys.length ≤ 5 := by simp at hln; omega
      have a4 : ArgsAt H4 (y0 :: ys) ds := ⟨tv4.ext vis_ext, fun d hd => (as4 d hd).sm, by simp; omega⟩
      obtain ⟨d0, dr, rfl⟩ : ∃ d0 dr, ds = d0 :: dr := by
        cases tv4 with
        | cons h hs => exact ⟨_, _, rfl⟩
      have k0 : Ask d0 := as4 d0 (by simp)
      have kr : ∀ d ∈ dr, Ask d := fun d hd => as4 d (by simp [hd])
      have dsh := do_shw k0 kr
      have ush := flt_shw kr
      have hd0 : ∀ {H' : Hp}, ArgsAt H' (y0 :: ys) (d0 :: dr) → TV H' y0 d0 := fun {H'} h => by
        cases h.tv with
        | cons h hs => exact h
      have hdr : ∀ {H' : Hp}, ArgsAt H' (y0 :: ys) (d0 :: dr) → ArgsAt H' ys dr := fun {H'} h => by
        cases h.tv with
        | cons h1 hs => exact ⟨hs, fun d hd => h.sm d (by simp [hd]), by have := h.ln; simp at this; omega⟩
      have msh : Shw 400 (fltD (if nameOf d0 = none then some (.name d0) else none)) := by
        by_cases q : nameOf d0 = none
        · rw [if_pos q]
          exact nm_shw s_name k0.sw k0.dp
        · rw [if_neg q]
          exact none_shw.mono (by decide)
      -- Do
      refine ⟨_, rfl, l, _, 0, y0, rfl, rfl, SqL.of hl4, atI_nat (j := 0) rfl, _, rfl, 1, rfl, l, _, rfl, SqL.of hl4, fun q1 nq1 => ?_⟩
      rw [cutV_from _ (show (0 : Int) ≤ 1 by decide), show (y0 :: ys).drop (1 : Int).toNat = ys from rfl]
      have e5 : Ext H4 (upd H4 q1 (.lst ys)) := Ext.upd nq1
      have f5 : (upd H4 q1 (.lst ys)) q1 = some (.lst ys) := upd_same
      generalize (upd H4 q1 (.lst ys)) = H5 at e5 f5
      have a5 := a4.ext e5
      refine ⟨y0, d0, q1, ys, dr, rfl, hd0 a5, k0.sm, f5, hdr a5, ys5, T4.ext e5, fun v H6 x6 T6 t6 => ?_⟩
      refine ⟨v, _, rfl, t6, dsh.sh, Nat.le_trans dsh.dp (by decide), Nat.le_trans dsh.ln (by decide), ?_⟩
      have x46 := (LamX.ExtN.of e5).trans x6
      refine ⟨_, rfl, l, _, _, 1, rfl, x46 _ _ hl4 (fun ps z => nomatch z), a4.extN x46, by simp, fun v2 H7 e7 t7 => ?_⟩
      rw [due_do] at t7
      refine ⟨v2, _, rfl, t7, dsh.sh, Nat.le_trans dsh.dp (by decide), Nat.le_trans dsh.ln (by decide), rfl, _, rfl, ?_⟩
      refine iteNo (by rw [decide_eq_true rfl]; rfl) ?_
      have x47 := x46.trans (LamX.ExtN.of e7)
      have T7 := T6.ext e7
      have hl7 := x47 _ _ hl4 (fun ps z => nomatch z)
      have a7 := a4.extN x47
      -- Use
      refine ⟨_, rfl, 1, rfl, l, _, rfl, SqL.of hl7, fun q2 nq2 => ?_⟩
      rw [cutV_from _ (show (0 : Int) ≤ 1 by decide), show (y0 :: ys).drop (1 : Int).toNat = ys from rfl]
      have e8 : Ext H7 (upd H7 q2 (.lst ys)) := Ext.upd nq2
      have f8 : (upd H7 q2 (.lst ys)) q2 = some (.lst ys) := upd_same
      generalize (upd H7 q2 (.lst ys)) = H8 at e8 f8
      refine ⟨q2, ys, dr, rfl, f8, hdr (a7.ext e8), ys5, T7.ext e8, fun v H9 x9 T9 t9 => ?_⟩
      refine ⟨v, _, rfl, t9, ush.sh, Nat.le_trans ush.dp (by decide), Nat.le_trans ush.ln (by decide), ?_⟩
      have x49 := x47.trans ((LamX.ExtN.of e8).trans x9)
      have hl9 := x49 _ _ hl4 (fun ps z => nomatch z)
      refine ⟨_, rfl, 1, rfl, l, _, rfl, SqL.of hl9, fun q3 nq3 => ?_⟩
      rw [cutV_from _ (show (0 : Int) ≤ 1 by decide), show (y0 :: ys).drop (1 : Int).toNat = ys from rfl]
      have e10 : Ext H9 (upd H9 q3 (.lst ys)) := Ext.upd nq3
      have f10 : (upd H9 q3 (.lst ys)) q3 = some (.lst ys) := upd_same
      generalize (upd H9 q3 (.lst ys)) = H10 at e10 f10
      refine ⟨q3, _, _, 0, rfl, f10, hdr ((a4.extN x49).ext e10), by simp, fun v2 H11 e11 t11 => ?_⟩
      rw [due_zero] at t11
      refine ⟨v2, _, rfl, t11, ush.sh, Nat.le_trans ush.dp (by decide), Nat.le_trans ush.ln (by decide), rfl, _, rfl, ?_⟩
      refine iteNo (by rw [decide_eq_true rfl]; rfl) ?_
      have x411 := x49.trans (LamX.ExtN.of (e10.trans e11))
      have T11 := T9.ext (e10.trans e11)
      have hl11 := x411 _ _ hl4 (fun ps z => nomatch z)
      have a11 := a4.extN x411
      -- Make
      refine ⟨fun σ' H' => ∃ dv, σ' = [some (.ref a), some (.ref p), some (.int (0 + (i : Int))), some (.ref l), some dv, o5, o6] ∧ Ext H11 H' ∧ TV H' dv (fltD (if nameOf d0 = none then some (.name d0) else none)), ?_, ?_⟩
      · refine ⟨_, rfl, l, _, 0, y0, rfl, rfl, SqL.of hl11, atI_nat (j := 0) rfl, y0, d0, rfl, hd0 a11, k0.sm, fun H12 e12 => ⟨_, rfl, ?_⟩⟩
        cases hn : nameOf d0 with
        | some z =>
          refine iteT ?_
          exact ⟨_, rfl, e12, .non⟩
        | none =>
          refine iteF ?_
          exact ⟨_, rfl, l, _, 0, y0, rfl, rfl, SqL.of (e12 _ _ hl11), atI_nat (j := 0) rfl, (by show 2 ≤ sizeLine; decide), fun t nt => ⟨_, rfl, e12.trans (Ext.upd nt), .tup upd_same (.cons (.str _) (.cons ((hd0 a11).ext (e12.trans (Ext.upd nt))) .nil))⟩⟩
      rintro σ' H13 ⟨dv, rfl, e13, t13⟩
      refine ⟨T11.ext e13, fun H14 x14 T14 E' Q' hE hQ => ?_⟩
      have x414 := x411.trans ((LamX.ExtN.of e13).trans x14)
      have a14 := a4.extN x414
      refine ⟨_, rfl, l, _, 0, y0, rfl, rfl, SqL.of (x414 _ _ hl4 (fun ps z => nomatch z)), atI_nat (j := 0) rfl, fun x dx nx ndx _ => make_end (hd0 a14) k0.sm nx ndx hE hQ fun v H15 e15 t15 => ?_⟩
      refine ⟨v, _, rfl, t15, msh.sh, Nat.le_trans msh.dp (by decide), Nat.le_trans msh.ln (by decide), ?_⟩
      refine ⟨_, rfl, dv, _, rfl, tv_N t13 (x14.trans (LamX.ExtN.of e15)), msh.sh, Nat.le_trans msh.dp (by decide), Nat.le_trans msh.ln (by decide), rfl, _, rfl, ?_⟩
      refine iteNo (by rw [decide_eq_true rfl]; rfl) ?_
      have x415 := x414.trans (LamX.ExtN.of e15)
      have T15 := T14.ext e15
      have hp15 := hp4.extN x415
      -- the two to read
      refine ⟨_, rfl, p, c, _, rfl, hp15, by omega, fun z H16 hz hp16 kp16 => ⟨_, rfl, p, c, _, rfl, hp16, by omega, fun vo d H17 hd tv17 hp17 kp17 => ⟨(by show 2 ≤ sizeLine; decide), fun t nt => ?_⟩⟩⟩
      have T17 := hp16.tabs (hp15.tabs T15 kp16) kp17
      obtain ⟨rdo, ko⟩ := odd_of hd
      have tvo : TV H17 vo d := tv17.ext nw_ext
      have e18 : Ext H17 (upd H17 t (.tup [.str z, vo])) := Ext.upd nt
      have f18 : (upd H17 t (.tup [.str z, vo])) t = some (.tup [.str z, vo]) := upd_same
      generalize (upd H17 t (.tup [.str z, vo])) = H18 at e18 f18
      refine ⟨t, _, rfl, SqT.of f18, rfl, _, _, rfl, _, _, rfl, rfl, ?_⟩
      have T18 := T17.ext e18
      have hp18 := hp17.ext e18
      have tv18 := tvo.ext e18
      have zl : z.length ≤ 900 := Nat.le_trans hz.1 (by decide)
      have sz : SmD (.str z) := fun y e => by cases e; exact Nat.le_trans hz.1 (by decide)
      have tsh : Shw 3000 (if readOk (.str z) then .none else .tuple [.str "deed", .str z]) := by
        cases readOk (.str z) with
        | true => exact none_shw.mono (by decide)
        | false => exact (nm_shw s_deed (Shw.str hz) (Nat.zero_le _)).mono (by decide)
      refine ⟨fun σ' H' => ∃ dv, σ' = [some (.ref a), some (.ref p), some (.int (0 + (i : Int))), some (.ref l), some dv, some (.str z), some vo] ∧ Ext H18 H' ∧ TV H' dv (if readOk (.str z) then .none else .tuple [.str "deed", .str z]), ?_, ?_⟩
      · refine ⟨_, rfl, z, rfl, zl, fun H19 e19 => ⟨_, rfl, ?_⟩⟩
        cases hn : readOk (.str z) with
        | true =>
          refine iteT ?_
          exact ⟨_, rfl, e19, .non⟩
        | false =>
          refine iteF ?_
          exact ⟨_, rfl, (by show 2 ≤ sizeLine; decide), fun t nt => ⟨_, rfl, e19.trans (Ext.upd nt), .tup upd_same (.cons (.str _) (.cons (.str _) .nil))⟩⟩
      rintro σ' H20 ⟨dv2, rfl, e20, t20⟩
      refine ⟨T18.ext e20, fun H21 x21 T21 E' Q' hE hQ => ⟨rfl, _, rfl, read_end (.str z) sz hE hQ fun v H22 e22 t22 => ?_⟩⟩
      refine ⟨v, _, rfl, t22, tsh.sh, Nat.le_trans tsh.dp (by decide), Nat.le_trans tsh.ln (by decide), ?_⟩
      refine ⟨_, rfl, dv2, _, rfl, tv_N t20 (x21.trans (LamX.ExtN.of e22)), tsh.sh, Nat.le_trans tsh.dp (by decide), Nat.le_trans tsh.ln (by decide), rfl, _, rfl, ?_⟩
      refine iteNo (by rw [decide_eq_true rfl]; rfl) ?_
      have x1822 := (LamX.ExtN.of e20).trans (x21.trans (LamX.ExtN.of e22))
      have T22 := T21.ext e22
      have osh := nm_shw s_deed ko.sw ko.dp
      refine ⟨T22, fun H23 x23 T23 E' Q' hE hQ => ⟨rfl, _, rfl, read_end (tv_N tv18 (x1822.trans x23)) ko.sm hE hQ fun v H24 e24 t24 => ?_⟩⟩
      rw [rdo] at t24
      have t24 : TV H24 v (.tuple [.str "deed", d]) := t24
      refine ⟨v, _, rfl, t24, osh.sh, Nat.le_trans osh.dp (by decide), Nat.le_trans osh.ln (by decide), ?_⟩
      have x1824 := x1822.trans (x23.trans (LamX.ExtN.of e24))
      refine ⟨_, rfl, (by show 2 ≤ sizeLine; decide), fun t2 nt2 => ⟨_, .tuple [.str "deed", d], rfl, .tup upd_same (.cons (.str _) (.cons ((tv_N tv18 x1824).ext (Ext.upd nt2)) .nil)), osh.sh, Nat.le_trans osh.dp (by decide), Nat.le_trans osh.ln (by decide), rfl, _, rfl, ?_⟩⟩
      refine iteNo (by rw [decide_eq_true rfl]; rfl) ?_
      exact ⟨_, _, _, _, _, rfl, ((hp18.extN x1824).ext (Ext.upd nt2)).mono (by omega), (T23.ext e24).ext (Ext.upd nt2)⟩
    · rintro σ H2 ⟨x2, x3, x4, x5, x6, rfl, hp2, T2⟩
      refine ⟨T2, fun H3 x3 T3 E' Q' hE hQ x dx nx ndx _ => use_end (ds := []) ⟨.nil, by simp, by simp⟩ nx ndx hE hQ fun v H4 e4 t => ?_⟩
      refine ⟨(by show 2 ≤ sizeLine; decide), fun t1 nt1 => ⟨_, _, dp_pair (t.ext (Ext.upd nt1)), .tup (SqT.of upd_same) (.cons (.str _) (.cons .non .nil)), (by decide +kernel), (by decide +kernel), _, rfl, ?_⟩⟩
      refine iteNo (by decide +kernel) ?_
      refine ⟨(T3.ext e4).ext (Ext.upd nt1), fun H5 x5 T5 E' Q' hE hQ x dx nx ndx _ => do_end (d0 := .str "a") (ds := []) (.str _) (fun z e => by cases e; decide +kernel) ⟨.nil, by simp, by simp⟩ nx ndx hE hQ fun v H6 e6 t => ?_⟩
      have hd : doF (.str "a") [] = some .deed := if_neg (by rw [nameOf_str (show isName "a" = true by decide +kernel)]; simp)
      have t' : TV H6 v (.tuple [.str "deed", .none]) := by
        rw [hd] at t
        exact t
      refine ⟨(by show 2 ≤ sizeLine; decide), fun t1 nt1 => ⟨_, _, dp_pair (t'.ext (Ext.upd nt1)), .tup (SqT.of upd_same) (.cons (.str _) (.cons .non .nil)), (by decide +kernel), (by decide +kernel), ?_⟩⟩
      exact k _
end
end K02
end
section
set_option Elab.async false
set_option linter.all false
set_option maxRecDepth 100000
set_option maxHeartbeats 8000000
namespace K02
open PySem PySem.Spec PyProof.Rows L2 Ls
theorem all_mk {l : PySem.W.OpenLaw} {w : World} {K : PySem.W.Frag} {q : Program} {h : Heap} {mg : Str → Option Value} {fa : Addr} (X : K.In h) (G : h.Ns mainGlobals mg) (hfa : mg "law" = some (.ref fa))
    (ow : ∀ (x : Str) (fx : Addr), ((recsOf q).any fun e => e.name == x) = true → mg x = some (.ref fx) → LamX.OwnTab K fx h)
    {tL tN : Tok} {zL : Str}
    {tU : Tok}
    {CE : Addr}
    {CD fDI fR pR : Addr} {mc : Value} {restR : List Value}
    {odDI anDI : Option Addr} {slDI : Array (Option Value)} {ocDI kVDI dcDI pmDI ctDI : Value}
    {cdDI : Value}
    {odR anR : Option Addr} {slR : Array (Option Value)} {ocR kVR dcR pmR ctR : Value}
    {cdR : Value}
    {CN : Addr}
    {CW : Addr}
    {CY : Addr}
    {CB : Addr}
    {fN_ ccN cdaN : Addr} {clN cclN : Value} {cldN cddN : Option Addr} {cslN ccsN : Array (Option Value)} {vsN : Array Value} {fileN : Str} {tfN : Tok} {cdatN : ClassData}
    {xnmN xqN : Str} {xNN : Addr} {xbsN xbmN xsubN : List Value} {xsnN : List Str} {xabN : Bool} {xcolN : Option Bool} {xddN : Option Addr} {xaN xbN xcN xdN xeN : Option Value}
    {odIN anIN : Option Addr} {slIN : Array (Option Value)} {ocIN kVIN dcIN pmIN ctIN : Value}
    {fW_ ccW cdaW : Addr} {clW cclW : Value} {cldW cddW : Option Addr} {cslW ccsW : Array (Option Value)} {vsW : Array Value} {fileW : Str} {tfW : Tok} {cdatW : ClassData}
    {xnmW xqW : Str} {xNW : Addr} {xbsW xbmW xsubW : List Value} {xsnW : List Str} {xabW : Bool} {xcolW : Option Bool} {xddW : Option Addr} {xaW xbW xcW xdW xeW : Option Value}
    {odIW anIW : Option Addr} {slIW : Array (Option Value)} {ocIW kVIW dcIW pmIW ctIW : Value}
    {fY_ ccY cdaY : Addr} {clY cclY : Value} {cldY cddY : Option Addr} {cslY ccsY : Array (Option Value)} {vsY : Array Value} {fileY : Str} {tfY : Tok} {cdatY : ClassData}
    {xnmY xqY : Str} {xNY : Addr} {xbsY xbmY xsubY : List Value} {xsnY : List Str} {xabY : Bool} {xcolY : Option Bool} {xddY : Option Addr} {xaY xbY xcY xdY xeY : Option Value}
    {odIY anIY : Option Addr} {slIY : Array (Option Value)} {ocIY kVIY dcIY pmIY ctIY : Value}
    {fB_ ccB cdaB : Addr} {clB cclB : Value} {cldB cddB : Option Addr} {cslB ccsB : Array (Option Value)} {vsB : Array Value} {fileB : Str} {tfB : Tok} {cdatB : ClassData}
    {xnmB xqB : Str} {xNB : Addr} {xbsB xbmB xsubB : List Value} {xsnB : List Str} {xabB : Bool} {xcolB : Option Bool} {xddB : Option Addr} {xaB xbB xcB xdB xeB : Option Value}
    {odIB anIB : Option Addr} {slIB : Array (Option Value)} {ocIB kVIB dcIB pmIB ctIB : Value}
    {CU fU_ : Addr}
    {odIU anIU : Option Addr} {slIU : Array (Option Value)} {ocIU kVIU dcIU pmIU ctIU : Value}
    {cdIU : Value}
    {CM fM_ : Addr}
    {odIM anIM : Option Addr} {slIM : Array (Option Value)} {ocIM kVIM dcIM pmIM ctIM : Value}
    {cdIM : Value}
    {CO fO_ : Addr}
    {odIO anIO : Option Addr} {slIO : Array (Option Value)} {ocIO kVIO dcIO pmIO ctIO : Value}
    {cdIO : Value}
    {f_is_name : Addr}
    {od_is_name an_is_name : Option Addr} {sl_is_name : Array (Option Value)} {oc_is_name kV_is_name dc_is_name pm_is_name ct_is_name : Value}
    {cd_is_name : Value}
    {f_need_names : Addr}
    {od_need_names an_need_names : Option Addr} {sl_need_names : Array (Option Value)} {oc_need_names kV_need_names dc_need_names pm_need_names ct_need_names : Value}
    {cd_need_names : Value}
    {f_need_used : Addr}
    {od_need_used an_need_used : Option Addr} {sl_need_used : Array (Option Value)} {oc_need_used kV_need_used dc_need_used pm_need_used ct_need_used : Value}
    {cd_need_used : Value}
    {f_need_name : Addr}
    {od_need_name an_need_name : Option Addr} {sl_need_name : Array (Option Value)} {oc_need_name kV_need_name dc_need_name pm_need_name ct_need_name : Value}
    {cd_need_name : Value}
    {f_is_deed_row : Addr}
    {od_is_deed_row an_is_deed_row : Option Addr} {sl_is_deed_row : Array (Option Value)} {oc_is_deed_row kV_is_deed_row dc_is_deed_row pm_is_deed_row ct_is_deed_row : Value}
    {cd_is_deed_row : Value}
    {f__law_pen : Addr}
    {od__law_pen an__law_pen : Option Addr} {sl__law_pen : Array (Option Value)} {oc__law_pen kV__law_pen dc__law_pen pm__law_pen ct__law_pen : Value}
    {cd__law_pen : Value}
    {f__law_draw : Addr}
    {od__law_draw an__law_draw : Option Addr} {sl__law_draw : Array (Option Value)} {oc__law_draw kV__law_draw dc__law_draw pm__law_draw ct__law_draw : Value}
    {cd__law_draw : Value}
    {f__law_pick : Addr}
    {od__law_pick an__law_pick : Option Addr} {sl__law_pick : Array (Option Value)} {oc__law_pick kV__law_pick dc__law_pick pm__law_pick ct__law_pick : Value}
    {cd__law_pick : Value}
    {f__law_heard : Addr}
    {od__law_heard an__law_heard : Option Addr} {sl__law_heard : Array (Option Value)} {oc__law_heard kV__law_heard dc__law_heard pm__law_heard ct__law_heard : Value}
    {cd__law_heard : Value}
    {f__law_is_name : Addr}
    {od__law_is_name an__law_is_name : Option Addr} {sl__law_is_name : Array (Option Value)} {oc__law_is_name kV__law_is_name dc__law_is_name pm__law_is_name ct__law_is_name : Value}
    {cd__law_is_name : Value}
    {f__law_due : Addr}
    {od__law_due an__law_due : Option Addr} {sl__law_due : Array (Option Value)} {oc__law_due kV__law_due dc__law_due pm__law_due ct__law_due : Value}
    {cd__law_due : Value}
    {f__law_used : Addr}
    {q1 P1 : Addr} {qd1 : Option Addr} {qv1 : Array Value} {qs1 : Array (Option Value)} {qf1 : Str} {qt1 qg1 qh1 : Tok} {qi1 qj1 : Int} {qb1 : Bool}
    {od__law_used an__law_used : Option Addr} {sl__law_used : Array (Option Value)} {oc__law_used kV__law_used dc__law_used pm__law_used ct__law_used : Value}
    {f__law_done : Addr}
    {q2 P2 : Addr} {qd2 : Option Addr} {qv2 : Array Value} {qs2 : Array (Option Value)} {qf2 : Str} {qt2 qg2 qh2 : Tok} {qi2 qj2 : Int} {qb2 : Bool}
    {od__law_done an__law_done : Option Addr} {sl__law_done : Array (Option Value)} {oc__law_done kV__law_done dc__law_done pm__law_done ct__law_done : Value}
    {f__law_odd : Addr}
    {od__law_odd an__law_odd : Option Addr} {sl__law_odd : Array (Option Value)} {oc__law_odd kV__law_odd dc__law_odd pm__law_odd ct__law_odd : Value}
    {cd__law_odd : Value}
    {f__law_values : Addr}
    {od__law_values an__law_values : Option Addr} {sl__law_values : Array (Option Value)} {oc__law_values kV__law_values dc__law_values pm__law_values ct__law_values : Value}
    {cd__law_values : Value}
    {f__law_is_text : Addr}
    {od__law_is_text an__law_is_text : Option Addr} {sl__law_is_text : Array (Option Value)} {oc__law_is_text kV__law_is_text dc__law_is_text pm__law_is_text ct__law_is_text : Value}
    {cd__law_is_text : Value}
    {f__law_bent : Addr}
    {od__law_bent an__law_bent : Option Addr} {sl__law_bent : Array (Option Value)} {oc__law_bent kV__law_bent dc__law_bent pm__law_bent ct__law_bent : Value}
    {cd__law_bent : Value}
    {f_law : Addr}
    {q3 P3 : Addr} {qd3 : Option Addr} {qv3 : Array Value} {qs3 : Array (Option Value)} {qf3 : Str} {qt3 qg3 qh3 : Tok} {qi3 qj3 : Int} {qb3 : Bool}
    {od_law an_law : Option Addr} {sl_law : Array (Option Value)} {oc_law kV_law dc_law pm_law ct_law : Value}
    (b0 : PySem.W.nsIn K mainGlobals "len" = some none)
    (b1 : PySem.W.nsIn K mainGlobals "int" = some none)
    (b2 : PySem.W.nsIn K mainGlobals "abs" = some none)
    (b3 : PySem.W.nsIn K mainGlobals "list" = some none)
    (b4 : PySem.W.nsIn K mainGlobals "str" = some none)
    (b5 : PySem.W.nsIn K mainGlobals "isinstance" = some none)
    (b6 : PySem.W.nsIn K mainGlobals "all" = some none)
    (b7 : PySem.W.nsIn K mainGlobals "range" = some none)
    (b8 : PySem.W.nsIn K mainGlobals "tuple" = some none)
    (b9 : PySem.W.nsIn K mainGlobals "super" = some none)
    (b10 : PySem.W.nsIn K mainGlobals "repr" = some none)
    (b11 : PySem.W.nsIn K mainGlobals "set" = some none)
    (b12 : PySem.W.nsIn K mainGlobals "ValueError" = some none)
    (gL : PySem.W.nsIn K mainGlobals "LETTERS" = some (some (.str zL tL)))
    (eL : zL = lettersS)
    (gN : PySem.W.nsIn K mainGlobals "LONGEST_NAME" = some (some (.int 6 tN)))
    (gMU : PySem.W.nsIn K mainGlobals "MOST_USED" = some (some (.int 3 tU)))
    (hn : PySem.W.specialIn K (.builtin "object.__class__") "__get__" = some (some (.builtin "getset_descriptor.__get__")))
    (htk : PySem.W.takesIn K (.builtin "object.__class__") = some true)
    (any_ : PySem.W.nsIn K cStatics "thirdparty.any" = some none)
    (top_ : (l.prog.main.scope.names.lookup ("super" : Str)).isSome = false)
    (gCE : PySem.W.nsIn K mainGlobals "StowError" = some (some (.ref CE)))
    (eE1 : PySem.W.subIn K (.ref CE) (.type "BaseException") = some true)
    (eE2 : PySem.W.hasDictIn K CE = true)
    (eE3 : PySem.W.typeIn K (.ref CE) = some (.type "type"))
    (gD_ : PySem.W.nsIn K mainGlobals "Deed" = some (some (.ref CD)))
    (tyM : PySem.W.typeIn K (.ref CD) = some mc)
    (rdM : PySem.W.readsIn K CD mc = true)
    (gaM : PySem.W.specialIn K (.ref CD) "__getattribute__" = some (some (.builtin "type.__getattribute__")))
    (atDI : PySem.W.findCls K (.ref CD) mc "__init__" = some (.val (.ref fDI)))
    (lDI : K.lookup fDI = some ⟨ocDI, odDI, .func (PySem.W.fnOf "__init__" "Deed.__init__" (defArgs s_Deed_init) (defBody s_Deed_init) (defScope s_Deed_init) .none kVDI dcDI pmDI anDI cdDI ctDI), slDI⟩)
    (cDI : PySem.W.codeIn K cdDI "Deed.__init__" = true)
    (kDI : PySem.W.keepIn K (.ref fDI) = true)
    (atR : PySem.W.findCls K (.ref CD) mc "read" = some (.get (.builtin "classmethod.__get__") (.ref pR) .none (.ref CD)))
    (rcR : PySem.W.recIn K pR "classmethod" = some (.ref fR :: restR))
    (fiR : PySem.W.fnIn K fR = true)
    (lR : K.lookup fR = some ⟨ocR, odR, .func (PySem.W.fnOf "read" "Deed.read" (defArgs s_Deed_read) (defBody s_Deed_read) (defScope s_Deed_read) .none kVR dcR pmR anR cdR ctR), slR⟩)
    (cR : PySem.W.codeIn K cdR "Deed.read" = true)
    (kR : PySem.W.keepIn K (.ref fR) = true)
    (gN_ : PySem.W.nsIn K mainGlobals "BadName" = some (some (.ref CN)))
    (xoN : K.lookup CN = some (excClassObj xnmN xqN CN xNN xbsN xbmN true xsnN xsubN xabN xcolN xddN xaN xbN xcN xdN xeN "ValueError.__new__"))
    (xrN : PySem.HandSPX.refsVE xbmN = true)
    (saN : PySem.W.findIn K (.ref CN) "__setattr__" = some (some (.builtin "object.__setattr__")))
    (beN : PySem.W.subIn K (.ref CN) (.type "BaseException") = some true)
    (tyN : PySem.W.typeIn K (.ref CN) = some (.type "type"))
    (kpN : PySem.W.keepIn K (.ref CN) = true)
    (inN : PySem.W.findIn K (.ref CN) "__init__" = some (some (.ref fN_)))
    (tf_N : PySem.W.typeIn K (.ref fN_) = some (.type "function"))
    (lIN : K.lookup fN_ = some ⟨ocIN, odIN, .func (PySem.W.ksFn "__init__" "BadName.__init__" (defArgs s_BadName_init) (defBody s_BadName_init) (defScope s_BadName_init) .none kVIN dcIN pmIN anIN (.ref cdaN) ctIN ccN), slIN⟩)
    (cIN : PySem.W.codeIn K (.ref cdaN) "BadName.__init__" = true)
    (kIN : PySem.W.keepIn K (.ref fN_) = true)
    (ceN : K.lookup ccN = some ⟨clN, cldN, .cell (some (.ref CN)), cslN⟩)
    (coN : K.lookup cdaN = some ⟨cclN, cddN, .fields vsN, ccsN⟩)
    (v2N : vsN[2]? = some (.str fileN tfN))
    (flN : ((l.prog.main.file : Str) == fileN) = true)
    (cd_N : PySem.W.clsIn K CN = some cdatN)
    (sbN : PySem.W.mroIn K CN (.ref CN) = some true)
    (svN : PySem.W.mroIn K CN (.type "ValueError") = some true)
    (fd_N : PySem.W.ks_superIn K CN CN "__init__" = some (some (.builtin "ValueError.__init__")))
    (noN_value : PySem.W.findIn K (.ref CN) "value" = some none)
    (suN : PySem.W.subIn K (.ref CN) (.ref CE) = some true)
    (xgN : PySem.W.findIn K (.ref CN) "__getattribute__" = some (some (.builtin "BaseException.__getattribute__")))
    (xkN : PySem.W.findIn K (.ref CN) "__getattr__" = some none)
    (hdN : PySem.W.hasDictIn K CN = true)
    (haN : PySem.W.findIn K (.ref CN) "__class__" = some (some (.builtin "object.__class__")))
    (hmN : PySem.W.mroIn K CN (.type "object") = some true)
    (gW_ : PySem.W.nsIn K mainGlobals "Twice" = some (some (.ref CW)))
    (xoW : K.lookup CW = some (excClassObj xnmW xqW CW xNW xbsW xbmW true xsnW xsubW xabW xcolW xddW xaW xbW xcW xdW xeW "ValueError.__new__"))
    (xrW : PySem.HandSPX.refsVE xbmW = true)
    (saW : PySem.W.findIn K (.ref CW) "__setattr__" = some (some (.builtin "object.__setattr__")))
    (beW : PySem.W.subIn K (.ref CW) (.type "BaseException") = some true)
    (tyW : PySem.W.typeIn K (.ref CW) = some (.type "type"))
    (kpW : PySem.W.keepIn K (.ref CW) = true)
    (inW : PySem.W.findIn K (.ref CW) "__init__" = some (some (.ref fW_)))
    (tf_W : PySem.W.typeIn K (.ref fW_) = some (.type "function"))
    (lIW : K.lookup fW_ = some ⟨ocIW, odIW, .func (PySem.W.ksFn "__init__" "Twice.__init__" (defArgs s_Twice_init) (defBody s_Twice_init) (defScope s_Twice_init) .none kVIW dcIW pmIW anIW (.ref cdaW) ctIW ccW), slIW⟩)
    (cIW : PySem.W.codeIn K (.ref cdaW) "Twice.__init__" = true)
    (kIW : PySem.W.keepIn K (.ref fW_) = true)
    (ceW : K.lookup ccW = some ⟨clW, cldW, .cell (some (.ref CW)), cslW⟩)
    (coW : K.lookup cdaW = some ⟨cclW, cddW, .fields vsW, ccsW⟩)
    (v2W : vsW[2]? = some (.str fileW tfW))
    (flW : ((l.prog.main.file : Str) == fileW) = true)
    (cd_W : PySem.W.clsIn K CW = some cdatW)
    (sbW : PySem.W.mroIn K CW (.ref CW) = some true)
    (svW : PySem.W.mroIn K CW (.type "ValueError") = some true)
    (fd_W : PySem.W.ks_superIn K CW CW "__init__" = some (some (.builtin "ValueError.__init__")))
    (noW_name : PySem.W.findIn K (.ref CW) "name" = some none)
    (suW : PySem.W.subIn K (.ref CW) (.ref CE) = some true)
    (xgW : PySem.W.findIn K (.ref CW) "__getattribute__" = some (some (.builtin "BaseException.__getattribute__")))
    (xkW : PySem.W.findIn K (.ref CW) "__getattr__" = some none)
    (hdW : PySem.W.hasDictIn K CW = true)
    (haW : PySem.W.findIn K (.ref CW) "__class__" = some (some (.builtin "object.__class__")))
    (hmW : PySem.W.mroIn K CW (.type "object") = some true)
    (gY_ : PySem.W.nsIn K mainGlobals "TooMany" = some (some (.ref CY)))
    (xoY : K.lookup CY = some (excClassObj xnmY xqY CY xNY xbsY xbmY true xsnY xsubY xabY xcolY xddY xaY xbY xcY xdY xeY "ValueError.__new__"))
    (xrY : PySem.HandSPX.refsVE xbmY = true)
    (saY : PySem.W.findIn K (.ref CY) "__setattr__" = some (some (.builtin "object.__setattr__")))
    (beY : PySem.W.subIn K (.ref CY) (.type "BaseException") = some true)
    (tyY : PySem.W.typeIn K (.ref CY) = some (.type "type"))
    (kpY : PySem.W.keepIn K (.ref CY) = true)
    (inY : PySem.W.findIn K (.ref CY) "__init__" = some (some (.ref fY_)))
    (tf_Y : PySem.W.typeIn K (.ref fY_) = some (.type "function"))
    (lIY : K.lookup fY_ = some ⟨ocIY, odIY, .func (PySem.W.ksFn "__init__" "TooMany.__init__" (defArgs s_TooMany_init) (defBody s_TooMany_init) (defScope s_TooMany_init) .none kVIY dcIY pmIY anIY (.ref cdaY) ctIY ccY), slIY⟩)
    (cIY : PySem.W.codeIn K (.ref cdaY) "TooMany.__init__" = true)
    (kIY : PySem.W.keepIn K (.ref fY_) = true)
    (ceY : K.lookup ccY = some ⟨clY, cldY, .cell (some (.ref CY)), cslY⟩)
    (coY : K.lookup cdaY = some ⟨cclY, cddY, .fields vsY, ccsY⟩)
    (v2Y : vsY[2]? = some (.str fileY tfY))
    (flY : ((l.prog.main.file : Str) == fileY) = true)
    (cd_Y : PySem.W.clsIn K CY = some cdatY)
    (sbY : PySem.W.mroIn K CY (.ref CY) = some true)
    (svY : PySem.W.mroIn K CY (.type "ValueError") = some true)
    (fd_Y : PySem.W.ks_superIn K CY CY "__init__" = some (some (.builtin "ValueError.__init__")))
    (noY_most : PySem.W.findIn K (.ref CY) "most" = some none)
    (suY : PySem.W.subIn K (.ref CY) (.ref CE) = some true)
    (xgY : PySem.W.findIn K (.ref CY) "__getattribute__" = some (some (.builtin "BaseException.__getattribute__")))
    (xkY : PySem.W.findIn K (.ref CY) "__getattr__" = some none)
    (hdY : PySem.W.hasDictIn K CY = true)
    (haY : PySem.W.findIn K (.ref CY) "__class__" = some (some (.builtin "object.__class__")))
    (hmY : PySem.W.mroIn K CY (.type "object") = some true)
    (gB_ : PySem.W.nsIn K mainGlobals "BadDeed" = some (some (.ref CB)))
    (xoB : K.lookup CB = some (excClassObj xnmB xqB CB xNB xbsB xbmB true xsnB xsubB xabB xcolB xddB xaB xbB xcB xdB xeB "ValueError.__new__"))
    (xrB : PySem.HandSPX.refsVE xbmB = true)
    (saB : PySem.W.findIn K (.ref CB) "__setattr__" = some (some (.builtin "object.__setattr__")))
    (beB : PySem.W.subIn K (.ref CB) (.type "BaseException") = some true)
    (tyB : PySem.W.typeIn K (.ref CB) = some (.type "type"))
    (kpB : PySem.W.keepIn K (.ref CB) = true)
    (inB : PySem.W.findIn K (.ref CB) "__init__" = some (some (.ref fB_)))
    (tf_B : PySem.W.typeIn K (.ref fB_) = some (.type "function"))
    (lIB : K.lookup fB_ = some ⟨ocIB, odIB, .func (PySem.W.ksFn "__init__" "BadDeed.__init__" (defArgs s_BadDeed_init) (defBody s_BadDeed_init) (defScope s_BadDeed_init) .none kVIB dcIB pmIB anIB (.ref cdaB) ctIB ccB), slIB⟩)
    (cIB : PySem.W.codeIn K (.ref cdaB) "BadDeed.__init__" = true)
    (kIB : PySem.W.keepIn K (.ref fB_) = true)
    (ceB : K.lookup ccB = some ⟨clB, cldB, .cell (some (.ref CB)), cslB⟩)
    (coB : K.lookup cdaB = some ⟨cclB, cddB, .fields vsB, ccsB⟩)
    (v2B : vsB[2]? = some (.str fileB tfB))
    (flB : ((l.prog.main.file : Str) == fileB) = true)
    (cd_B : PySem.W.clsIn K CB = some cdatB)
    (sbB : PySem.W.mroIn K CB (.ref CB) = some true)
    (svB : PySem.W.mroIn K CB (.type "ValueError") = some true)
    (fd_B : PySem.W.ks_superIn K CB CB "__init__" = some (some (.builtin "ValueError.__init__")))
    (noB_value : PySem.W.findIn K (.ref CB) "value" = some none)
    (suB : PySem.W.subIn K (.ref CB) (.ref CE) = some true)
    (xgB : PySem.W.findIn K (.ref CB) "__getattribute__" = some (some (.builtin "BaseException.__getattribute__")))
    (xkB : PySem.W.findIn K (.ref CB) "__getattr__" = some none)
    (hdB : PySem.W.hasDictIn K CB = true)
    (haB : PySem.W.findIn K (.ref CB) "__class__" = some (some (.builtin "object.__class__")))
    (hmB : PySem.W.mroIn K CB (.type "object") = some true)
    (kvN : PySem.W.kitOne K (.ref CN) (.type "ValueError") = some true)
    (kNN_ : PySem.W.kitOne K (.ref CN) (.ref CN) = some true)
    (kNW_ : PySem.W.kitOne K (.ref CN) (.ref CW) = some false)
    (kNY_ : PySem.W.kitOne K (.ref CN) (.ref CY) = some false)
    (kNB_ : PySem.W.kitOne K (.ref CN) (.ref CB) = some false)
    (kvW : PySem.W.kitOne K (.ref CW) (.type "ValueError") = some true)
    (kWN_ : PySem.W.kitOne K (.ref CW) (.ref CN) = some false)
    (kWW_ : PySem.W.kitOne K (.ref CW) (.ref CW) = some true)
    (kWY_ : PySem.W.kitOne K (.ref CW) (.ref CY) = some false)
    (kWB_ : PySem.W.kitOne K (.ref CW) (.ref CB) = some false)
    (kvY : PySem.W.kitOne K (.ref CY) (.type "ValueError") = some true)
    (kYN_ : PySem.W.kitOne K (.ref CY) (.ref CN) = some false)
    (kYW_ : PySem.W.kitOne K (.ref CY) (.ref CW) = some false)
    (kYY_ : PySem.W.kitOne K (.ref CY) (.ref CY) = some true)
    (kYB_ : PySem.W.kitOne K (.ref CY) (.ref CB) = some false)
    (kvB : PySem.W.kitOne K (.ref CB) (.type "ValueError") = some true)
    (kBN_ : PySem.W.kitOne K (.ref CB) (.ref CN) = some false)
    (kBW_ : PySem.W.kitOne K (.ref CB) (.ref CW) = some false)
    (kBY_ : PySem.W.kitOne K (.ref CB) (.ref CY) = some false)
    (kBB_ : PySem.W.kitOne K (.ref CB) (.ref CB) = some true)
    (gU_ : PySem.W.nsIn K mainGlobals "Use" = some (some (.ref CU)))
    (pgU : PySem.W.plainGet K CU Str.empty = true)
    (hdU : PySem.W.hasDictIn K CU = true)
    (poU : PySem.W.plainOver K CU = true)
    (saU : PySem.W.findIn K (.ref CU) "__setattr__" = some (some (.builtin "object.__setattr__")))
    (nU_used_names : PySem.W.findIn K (.ref CU) "used_names" = some none)
    (nU_made_names : PySem.W.findIn K (.ref CU) "made_names" = some none)
    (haU : PySem.W.findIn K (.ref CU) "__class__" = some (some (.builtin "object.__class__")))
    (hmU : PySem.W.mroIn K CU (.type "object") = some true)
    (mkU : PySem.W.makesIn K CU = true)
    (inU : PySem.W.findIn K (.ref CU) "__init__" = some (some (.ref fU_)))
    (fnU : PySem.W.isFn K (.ref fU_) = true)
    (kpU : PySem.W.keepIn K (.ref CU) = true)
    (lIU : K.lookup fU_ = some ⟨ocIU, odIU, .func (PySem.W.fnOf "__init__" "Use.__init__" (defArgs s_Use_init) (defBody s_Use_init) (defScope s_Use_init) .none kVIU dcIU pmIU anIU cdIU ctIU), slIU⟩)
    (cIU : PySem.W.codeIn K cdIU "Use.__init__" = true)
    (kIU : PySem.W.keepIn K (.ref fU_) = true)
    (gM_ : PySem.W.nsIn K mainGlobals "Make" = some (some (.ref CM)))
    (pgM : PySem.W.plainGet K CM Str.empty = true)
    (hdM : PySem.W.hasDictIn K CM = true)
    (poM : PySem.W.plainOver K CM = true)
    (saM : PySem.W.findIn K (.ref CM) "__setattr__" = some (some (.builtin "object.__setattr__")))
    (nM_used_names : PySem.W.findIn K (.ref CM) "used_names" = some none)
    (nM_made_names : PySem.W.findIn K (.ref CM) "made_names" = some none)
    (haM : PySem.W.findIn K (.ref CM) "__class__" = some (some (.builtin "object.__class__")))
    (hmM : PySem.W.mroIn K CM (.type "object") = some true)
    (mkM : PySem.W.makesIn K CM = true)
    (inM : PySem.W.findIn K (.ref CM) "__init__" = some (some (.ref fM_)))
    (fnM : PySem.W.isFn K (.ref fM_) = true)
    (kpM : PySem.W.keepIn K (.ref CM) = true)
    (lIM : K.lookup fM_ = some ⟨ocIM, odIM, .func (PySem.W.fnOf "__init__" "Make.__init__" (defArgs s_Make_init) (defBody s_Make_init) (defScope s_Make_init) .none kVIM dcIM pmIM anIM cdIM ctIM), slIM⟩)
    (cIM : PySem.W.codeIn K cdIM "Make.__init__" = true)
    (kIM : PySem.W.keepIn K (.ref fM_) = true)
    (gO_ : PySem.W.nsIn K mainGlobals "Do" = some (some (.ref CO)))
    (pgO : PySem.W.plainGet K CO Str.empty = true)
    (hdO : PySem.W.hasDictIn K CO = true)
    (poO : PySem.W.plainOver K CO = true)
    (saO : PySem.W.findIn K (.ref CO) "__setattr__" = some (some (.builtin "object.__setattr__")))
    (nO_used_names : PySem.W.findIn K (.ref CO) "used_names" = some none)
    (nO_made_names : PySem.W.findIn K (.ref CO) "made_names" = some none)
    (haO : PySem.W.findIn K (.ref CO) "__class__" = some (some (.builtin "object.__class__")))
    (hmO : PySem.W.mroIn K CO (.type "object") = some true)
    (mkO : PySem.W.makesIn K CO = true)
    (inO : PySem.W.findIn K (.ref CO) "__init__" = some (some (.ref fO_)))
    (fnO : PySem.W.isFn K (.ref fO_) = true)
    (kpO : PySem.W.keepIn K (.ref CO) = true)
    (lIO : K.lookup fO_ = some ⟨ocIO, odIO, .func (PySem.W.fnOf "__init__" "Do.__init__" (defArgs s_Do_init) (defBody s_Do_init) (defScope s_Do_init) .none kVIO dcIO pmIO anIO cdIO ctIO), slIO⟩)
    (cIO : PySem.W.codeIn K cdIO "Do.__init__" = true)
    (kIO : PySem.W.keepIn K (.ref fO_) = true)
    (a_is_name : PySem.W.nsIn K mainGlobals "is_name" = some (some (.ref f_is_name)))
    (l_is_name : K.lookup f_is_name = some ⟨oc_is_name, od_is_name, .func (PySem.W.fnOf "is_name" "is_name" (defArgs s_is_name) (defBody s_is_name) (defScope s_is_name) .none kV_is_name dc_is_name pm_is_name an_is_name cd_is_name ct_is_name), sl_is_name⟩)
    (c_is_name : PySem.W.codeIn K cd_is_name "is_name" = true)
    (k_is_name : PySem.W.keepIn K (.ref f_is_name) = true)
    (a_need_names : PySem.W.nsIn K mainGlobals "need_names" = some (some (.ref f_need_names)))
    (l_need_names : K.lookup f_need_names = some ⟨oc_need_names, od_need_names, .func (PySem.W.fnOf "need_names" "need_names" (defArgs s_need_names) (defBody s_need_names) (defScope s_need_names) .none kV_need_names dc_need_names pm_need_names an_need_names cd_need_names ct_need_names), sl_need_names⟩)
    (c_need_names : PySem.W.codeIn K cd_need_names "need_names" = true)
    (k_need_names : PySem.W.keepIn K (.ref f_need_names) = true)
    (a_need_used : PySem.W.nsIn K mainGlobals "need_used" = some (some (.ref f_need_used)))
    (l_need_used : K.lookup f_need_used = some ⟨oc_need_used, od_need_used, .func (PySem.W.fnOf "need_used" "need_used" (defArgs s_need_used) (defBody s_need_used) (defScope s_need_used) .none kV_need_used dc_need_used pm_need_used an_need_used cd_need_used ct_need_used), sl_need_used⟩)
    (c_need_used : PySem.W.codeIn K cd_need_used "need_used" = true)
    (k_need_used : PySem.W.keepIn K (.ref f_need_used) = true)
    (a_need_name : PySem.W.nsIn K mainGlobals "need_name" = some (some (.ref f_need_name)))
    (l_need_name : K.lookup f_need_name = some ⟨oc_need_name, od_need_name, .func (PySem.W.fnOf "need_name" "need_name" (defArgs s_need_name) (defBody s_need_name) (defScope s_need_name) .none kV_need_name dc_need_name pm_need_name an_need_name cd_need_name ct_need_name), sl_need_name⟩)
    (c_need_name : PySem.W.codeIn K cd_need_name "need_name" = true)
    (k_need_name : PySem.W.keepIn K (.ref f_need_name) = true)
    (a_is_deed_row : PySem.W.nsIn K mainGlobals "is_deed_row" = some (some (.ref f_is_deed_row)))
    (l_is_deed_row : K.lookup f_is_deed_row = some ⟨oc_is_deed_row, od_is_deed_row, .func (PySem.W.fnOf "is_deed_row" "is_deed_row" (defArgs s_is_deed_row) (defBody s_is_deed_row) (defScope s_is_deed_row) .none kV_is_deed_row dc_is_deed_row pm_is_deed_row an_is_deed_row cd_is_deed_row ct_is_deed_row), sl_is_deed_row⟩)
    (c_is_deed_row : PySem.W.codeIn K cd_is_deed_row "is_deed_row" = true)
    (k_is_deed_row : PySem.W.keepIn K (.ref f_is_deed_row) = true)
    (a__law_pen : PySem.W.nsIn K mainGlobals "_law_pen" = some (some (.ref f__law_pen)))
    (l__law_pen : K.lookup f__law_pen = some ⟨oc__law_pen, od__law_pen, .func (PySem.W.fnOf "_law_pen" "_law_pen" (defArgs s__law_pen) (defBody s__law_pen) (defScope s__law_pen) .none kV__law_pen dc__law_pen pm__law_pen an__law_pen cd__law_pen ct__law_pen), sl__law_pen⟩)
    (c__law_pen : PySem.W.codeIn K cd__law_pen "_law_pen" = true)
    (k__law_pen : PySem.W.keepIn K (.ref f__law_pen) = true)
    (a__law_draw : PySem.W.nsIn K mainGlobals "_law_draw" = some (some (.ref f__law_draw)))
    (l__law_draw : K.lookup f__law_draw = some ⟨oc__law_draw, od__law_draw, .func (PySem.W.fnOf "_law_draw" "_law_draw" (defArgs s__law_draw) (defBody s__law_draw) (defScope s__law_draw) .none kV__law_draw dc__law_draw pm__law_draw an__law_draw cd__law_draw ct__law_draw), sl__law_draw⟩)
    (c__law_draw : PySem.W.codeIn K cd__law_draw "_law_draw" = true)
    (k__law_draw : PySem.W.keepIn K (.ref f__law_draw) = true)
    (a__law_pick : PySem.W.nsIn K mainGlobals "_law_pick" = some (some (.ref f__law_pick)))
    (l__law_pick : K.lookup f__law_pick = some ⟨oc__law_pick, od__law_pick, .func (PySem.W.fnOf "_law_pick" "_law_pick" (defArgs s__law_pick) (defBody s__law_pick) (defScope s__law_pick) .none kV__law_pick dc__law_pick pm__law_pick an__law_pick cd__law_pick ct__law_pick), sl__law_pick⟩)
    (c__law_pick : PySem.W.codeIn K cd__law_pick "_law_pick" = true)
    (k__law_pick : PySem.W.keepIn K (.ref f__law_pick) = true)
    (a__law_heard : PySem.W.nsIn K mainGlobals "_law_heard" = some (some (.ref f__law_heard)))
    (l__law_heard : K.lookup f__law_heard = some ⟨oc__law_heard, od__law_heard, .func (PySem.W.fnOf "_law_heard" "_law_heard" (defArgs s__law_heard) (defBody s__law_heard) (defScope s__law_heard) .none kV__law_heard dc__law_heard pm__law_heard an__law_heard cd__law_heard ct__law_heard), sl__law_heard⟩)
    (c__law_heard : PySem.W.codeIn K cd__law_heard "_law_heard" = true)
    (k__law_heard : PySem.W.keepIn K (.ref f__law_heard) = true)
    (a__law_is_name : PySem.W.nsIn K mainGlobals "_law_is_name" = some (some (.ref f__law_is_name)))
    (l__law_is_name : K.lookup f__law_is_name = some ⟨oc__law_is_name, od__law_is_name, .func (PySem.W.fnOf "_law_is_name" "_law_is_name" (defArgs s__law_is_name) (defBody s__law_is_name) (defScope s__law_is_name) .none kV__law_is_name dc__law_is_name pm__law_is_name an__law_is_name cd__law_is_name ct__law_is_name), sl__law_is_name⟩)
    (c__law_is_name : PySem.W.codeIn K cd__law_is_name "_law_is_name" = true)
    (k__law_is_name : PySem.W.keepIn K (.ref f__law_is_name) = true)
    (a__law_due : PySem.W.nsIn K mainGlobals "_law_due" = some (some (.ref f__law_due)))
    (l__law_due : K.lookup f__law_due = some ⟨oc__law_due, od__law_due, .func (PySem.W.fnOf "_law_due" "_law_due" (defArgs s__law_due) (defBody s__law_due) (defScope s__law_due) .none kV__law_due dc__law_due pm__law_due an__law_due cd__law_due ct__law_due), sl__law_due⟩)
    (c__law_due : PySem.W.codeIn K cd__law_due "_law_due" = true)
    (k__law_due : PySem.W.keepIn K (.ref f__law_due) = true)
    (a__law_used : PySem.W.nsIn K mainGlobals "_law_used" = some (some (.ref f__law_used)))
    (l__law_used : K.lookup f__law_used = some ⟨oc__law_used, od__law_used, .func (PySem.W.fnOf "_law_used" "_law_used" (defArgs s__law_used) (defBody s__law_used) (defScope s__law_used) .none kV__law_used dc__law_used pm__law_used an__law_used (.ref q1) ct__law_used), sl__law_used⟩)
    (c__law_used : PySem.W.codeIn K (.ref q1) "_law_used" = true)
    (k__law_used : PySem.W.keepIn K (.ref f__law_used) = true)
    (qo1 : K.lookup q1 = some ⟨.type "code", qd1, .fields qv1, qs1⟩)
    (qp1 : qv1[11]? = some (.ref P1))
    (qr1 : qv1.getD 11 .none = .ref P1)
    (qs_1 : qv1.getD 18 .none = .str qf1 qt1)
    (qu1 : qv1.getD 7 .none = .int qi1 qg1)
    (qv_1 : qv1.getD 9 .none = .bool qb1)
    (qw1 : qv1.getD 10 .none = .int qj1 qh1)
    (qx1 : q1 ≠ P1)
    (qn1 : K.lookup P1 = none)
    (rc1 : ((recsOf q).any fun e => e.name == "_law_used") = true)
    (a__law_done : PySem.W.nsIn K mainGlobals "_law_done" = some (some (.ref f__law_done)))
    (l__law_done : K.lookup f__law_done = some ⟨oc__law_done, od__law_done, .func (PySem.W.fnOf "_law_done" "_law_done" (defArgs s__law_done) (defBody s__law_done) (defScope s__law_done) .none kV__law_done dc__law_done pm__law_done an__law_done (.ref q2) ct__law_done), sl__law_done⟩)
    (c__law_done : PySem.W.codeIn K (.ref q2) "_law_done" = true)
    (k__law_done : PySem.W.keepIn K (.ref f__law_done) = true)
    (qo2 : K.lookup q2 = some ⟨.type "code", qd2, .fields qv2, qs2⟩)
    (qp2 : qv2[11]? = some (.ref P2))
    (qr2 : qv2.getD 11 .none = .ref P2)
    (qs_2 : qv2.getD 18 .none = .str qf2 qt2)
    (qu2 : qv2.getD 7 .none = .int qi2 qg2)
    (qv_2 : qv2.getD 9 .none = .bool qb2)
    (qw2 : qv2.getD 10 .none = .int qj2 qh2)
    (qx2 : q2 ≠ P2)
    (qn2 : K.lookup P2 = none)
    (rc2 : ((recsOf q).any fun e => e.name == "_law_done") = true)
    (a__law_odd : PySem.W.nsIn K mainGlobals "_law_odd" = some (some (.ref f__law_odd)))
    (l__law_odd : K.lookup f__law_odd = some ⟨oc__law_odd, od__law_odd, .func (PySem.W.fnOf "_law_odd" "_law_odd" (defArgs s__law_odd) (defBody s__law_odd) (defScope s__law_odd) .none kV__law_odd dc__law_odd pm__law_odd an__law_odd cd__law_odd ct__law_odd), sl__law_odd⟩)
    (c__law_odd : PySem.W.codeIn K cd__law_odd "_law_odd" = true)
    (k__law_odd : PySem.W.keepIn K (.ref f__law_odd) = true)
    (a__law_values : PySem.W.nsIn K mainGlobals "_law_values" = some (some (.ref f__law_values)))
    (l__law_values : K.lookup f__law_values = some ⟨oc__law_values, od__law_values, .func (PySem.W.fnOf "_law_values" "_law_values" (defArgs s__law_values) (defBody s__law_values) (defScope s__law_values) .none kV__law_values dc__law_values pm__law_values an__law_values cd__law_values ct__law_values), sl__law_values⟩)
    (c__law_values : PySem.W.codeIn K cd__law_values "_law_values" = true)
    (k__law_values : PySem.W.keepIn K (.ref f__law_values) = true)
    (a__law_is_text : PySem.W.nsIn K mainGlobals "_law_is_text" = some (some (.ref f__law_is_text)))
    (l__law_is_text : K.lookup f__law_is_text = some ⟨oc__law_is_text, od__law_is_text, .func (PySem.W.fnOf "_law_is_text" "_law_is_text" (defArgs s__law_is_text) (defBody s__law_is_text) (defScope s__law_is_text) .none kV__law_is_text dc__law_is_text pm__law_is_text an__law_is_text cd__law_is_text ct__law_is_text), sl__law_is_text⟩)
    (c__law_is_text : PySem.W.codeIn K cd__law_is_text "_law_is_text" = true)
    (k__law_is_text : PySem.W.keepIn K (.ref f__law_is_text) = true)
    (a__law_bent : PySem.W.nsIn K mainGlobals "_law_bent" = some (some (.ref f__law_bent)))
    (l__law_bent : K.lookup f__law_bent = some ⟨oc__law_bent, od__law_bent, .func (PySem.W.fnOf "_law_bent" "_law_bent" (defArgs s__law_bent) (defBody s__law_bent) (defScope s__law_bent) .none kV__law_bent dc__law_bent pm__law_bent an__law_bent cd__law_bent ct__law_bent), sl__law_bent⟩)
    (c__law_bent : PySem.W.codeIn K cd__law_bent "_law_bent" = true)
    (k__law_bent : PySem.W.keepIn K (.ref f__law_bent) = true)
    (a_law : PySem.W.nsIn K mainGlobals "law" = some (some (.ref f_law)))
    (l_law : K.lookup f_law = some ⟨oc_law, od_law, .func (PySem.W.fnOf "law" "law" (defArgs s_law) (defBody s_law) (defScope s_law) .none kV_law dc_law pm_law an_law (.ref q3) ct_law), sl_law⟩)
    (c_law : PySem.W.codeIn K (.ref q3) "law" = true)
    (k_law : PySem.W.keepIn K (.ref f_law) = true)
    (qo3 : K.lookup q3 = some ⟨.type "code", qd3, .fields qv3, qs3⟩)
    (qp3 : qv3[11]? = some (.ref P3))
    (qr3 : qv3.getD 11 .none = .ref P3)
    (qs_3 : qv3.getD 18 .none = .str qf3 qt3)
    (qu3 : qv3.getD 7 .none = .int qi3 qg3)
    (qv_3 : qv3.getD 9 .none = .bool qb3)
    (qw3 : qv3.getD 10 .none = .int qj3 qh3)
    (qx3 : q3 ≠ P3)
    (qn3 : K.lookup P3 = none)
    (rc3 : ((recsOf q).any fun e => e.name == "law") = true)
    (qne12 : P1 ≠ P2)
    (qne13 : P1 ≠ P3)
    (qne23 : P2 ≠ P3) :
    LawG l w K CX0 13 63 "_law_script" mg fa h := by
  have e := hfa.symm.trans (PySem.W.mg_of X G a_law)
  cases e
  subst eL
  have T : Tx K mg CE CN CB CW CY CD CU CM CO tL tN tU := ⟨by
    intro x hx
    simp only [bns, List.mem_cons, List.not_mem_nil, or_false] at hx
    rcases hx with rfl | rfl | rfl | rfl | rfl | rfl | rfl | rfl | rfl | rfl | rfl | rfl | rfl
    · exact PySem.W.mg_none_of X G b0
    · exact PySem.W.mg_none_of X G b1
    · exact PySem.W.mg_none_of X G b2
    · exact PySem.W.mg_none_of X G b3
    · exact PySem.W.mg_none_of X G b4
    · exact PySem.W.mg_none_of X G b5
    · exact PySem.W.mg_none_of X G b6
    · exact PySem.W.mg_none_of X G b7
    · exact PySem.W.mg_none_of X G b8
    · exact PySem.W.mg_none_of X G b9
    · exact PySem.W.mg_none_of X G b10
    · exact PySem.W.mg_none_of X G b11
    · exact PySem.W.mg_none_of X G b12, PySem.W.mg_of X G gL, PySem.W.mg_of X G gN, PySem.W.mg_of X G gMU, PySem.W.mg_of X G gCE, PySem.W.mg_of X G gN_, PySem.W.mg_of X G gB_, PySem.W.mg_of X G gW_, PySem.W.mg_of X G gY_, PySem.W.mg_of X G gD_, PySem.W.mg_of X G gU_, PySem.W.mg_of X G gM_, PySem.W.mg_of X G gO_⟩
  have FSN : Ls.FunS K "__init__" "BadName.__init__" s_BadName_init fN_ _ cdaN ccN := ⟨⟨_, _, _, _, _, _, _, _, rfl, lIN, cIN⟩, kIN⟩
  have OXN : OexC K CN := ⟨⟨_, _, _, _, _, _, _, _, _, _, _, _, _, _, _, xoN, xrN⟩, saN, beN, tyN, kpN⟩
  have SEN : SupE l.prog K mg CN CN ccN cdaN := ⟨⟨_, _, _, ceN⟩, ⟨_, _, _, _, _, _, coN, v2N, flN⟩, ⟨_, cd_N⟩, sbN, svN, T.bn _ (by decide +kernel), top_, any_, fd_N, OXN⟩
  have exmN := PySem.W.exm_ref eE1 eE2 eE3 suN
  have ecN : ExcC K CN := ⟨xgN, xkN, beN, hdN, haN, hn, htk, hmN⟩
  have xfN : XfC K CN := ⟨xgN, xkN, beN, hdN⟩
  have FSW : Ls.FunS K "__init__" "Twice.__init__" s_Twice_init fW_ _ cdaW ccW := ⟨⟨_, _, _, _, _, _, _, _, rfl, lIW, cIW⟩, kIW⟩
  have OXW : OexC K CW := ⟨⟨_, _, _, _, _, _, _, _, _, _, _, _, _, _, _, xoW, xrW⟩, saW, beW, tyW, kpW⟩
  have SEW : SupE l.prog K mg CW CW ccW cdaW := ⟨⟨_, _, _, ceW⟩, ⟨_, _, _, _, _, _, coW, v2W, flW⟩, ⟨_, cd_W⟩, sbW, svW, T.bn _ (by decide +kernel), top_, any_, fd_W, OXW⟩
  have exmW := PySem.W.exm_ref eE1 eE2 eE3 suW
  have ecW : ExcC K CW := ⟨xgW, xkW, beW, hdW, haW, hn, htk, hmW⟩
  have xfW : XfC K CW := ⟨xgW, xkW, beW, hdW⟩
  have FSY : Ls.FunS K "__init__" "TooMany.__init__" s_TooMany_init fY_ _ cdaY ccY := ⟨⟨_, _, _, _, _, _, _, _, rfl, lIY, cIY⟩, kIY⟩
  have OXY : OexC K CY := ⟨⟨_, _, _, _, _, _, _, _, _, _, _, _, _, _, _, xoY, xrY⟩, saY, beY, tyY, kpY⟩
  have SEY : SupE l.prog K mg CY CY ccY cdaY := ⟨⟨_, _, _, ceY⟩, ⟨_, _, _, _, _, _, coY, v2Y, flY⟩, ⟨_, cd_Y⟩, sbY, svY, T.bn _ (by decide +kernel), top_, any_, fd_Y, OXY⟩
  have exmY := PySem.W.exm_ref eE1 eE2 eE3 suY
  have ecY : ExcC K CY := ⟨xgY, xkY, beY, hdY, haY, hn, htk, hmY⟩
  have xfY : XfC K CY := ⟨xgY, xkY, beY, hdY⟩
  have FSB : Ls.FunS K "__init__" "BadDeed.__init__" s_BadDeed_init fB_ _ cdaB ccB := ⟨⟨_, _, _, _, _, _, _, _, rfl, lIB, cIB⟩, kIB⟩
  have OXB : OexC K CB := ⟨⟨_, _, _, _, _, _, _, _, _, _, _, _, _, _, _, xoB, xrB⟩, saB, beB, tyB, kpB⟩
  have SEB : SupE l.prog K mg CB CB ccB cdaB := ⟨⟨_, _, _, ceB⟩, ⟨_, _, _, _, _, _, coB, v2B, flB⟩, ⟨_, cd_B⟩, sbB, svB, T.bn _ (by decide +kernel), top_, any_, fd_B, OXB⟩
  have exmB := PySem.W.exm_ref eE1 eE2 eE3 suB
  have ecB : ExcC K CB := ⟨xgB, xkB, beB, hdB, haB, hn, htk, hmB⟩
  have xfB : XfC K CB := ⟨xgB, xkB, beB, hdB⟩
  have eN : ErrT K CE CN CW CY CB CN "value" true false false false := ⟨exmN, ecN, kvN, kNN_, kNW_, kNY_, kNB_, xfN, noN_value⟩
  have eW : ErrT K CE CN CW CY CB CW "name" false true false false := ⟨exmW, ecW, kvW, kWN_, kWW_, kWY_, kWB_, xfW, noW_name⟩
  have eY : ErrT K CE CN CW CY CB CY "most" false false true false := ⟨exmY, ecY, kvY, kYN_, kYW_, kYY_, kYB_, xfY, noY_most⟩
  have eB : ErrT K CE CN CW CY CB CB "value" false false false true := ⟨exmB, ecB, kvB, kBN_, kBW_, kBY_, kBB_, xfB, noB_value⟩
  have CL_U : Cls K CU := ⟨pgU, hdU, poU, saU⟩
  have CD_U : ClD K CU := ⟨CL_U, nU_used_names, nU_made_names⟩
  have FIU := fun_mk (st := s_Use_init) lIU cIU kIU
  have CL_M : Cls K CM := ⟨pgM, hdM, poM, saM⟩
  have CD_M : ClD K CM := ⟨CL_M, nM_used_names, nM_made_names⟩
  have FIM := fun_mk (st := s_Make_init) lIM cIM kIM
  have CL_O : Cls K CO := ⟨pgO, hdO, poO, saO⟩
  have CD_O : ClD K CO := ⟨CL_O, nO_used_names, nO_made_names⟩
  have FIO := fun_mk (st := s_Do_init) lIO cIO kIO
  have FDI := fun_mk (st := s_Deed_init) lDI cDI kDI
  have BDI := FDI.binds (ps := ["self", "used", "made"]) fun _ _ _ _ _ _ us hl => match us, hl with | [_, _, _], _ => rfl
  have FR := fun_mk (st := s_Deed_read) lR cR kR
  have BR := FR.binds (ps := ["cls", "text"]) fun _ _ _ _ _ _ us hl => match us, hl with | [_, _], _ => rfl
  have BIM := FIM.binds (ps := ["self", "name"]) fun _ _ _ _ _ _ us hl => match us, hl with | [_, _], _ => rfl
  have F_is_name := fun_mk (st := s_is_name) l_is_name c_is_name k_is_name
  have B_is_name := F_is_name.binds (ps := ["value"]) fun _ _ _ _ _ _ us hl => match us, hl with | [_], _ => rfl
  have F_need_names := fun_mk (st := s_need_names) l_need_names c_need_names k_need_names
  have B_need_names := F_need_names.binds (ps := ["values"]) fun _ _ _ _ _ _ us hl => match us, hl with | [_], _ => rfl
  have F_need_used := fun_mk (st := s_need_used) l_need_used c_need_used k_need_used
  have B_need_used := F_need_used.binds (ps := ["names"]) fun _ _ _ _ _ _ us hl => match us, hl with | [_], _ => rfl
  have F_need_name := fun_mk (st := s_need_name) l_need_name c_need_name k_need_name
  have B_need_name := F_need_name.binds (ps := ["value"]) fun _ _ _ _ _ _ us hl => match us, hl with | [_], _ => rfl
  have F_is_deed_row := fun_mk (st := s_is_deed_row) l_is_deed_row c_is_deed_row k_is_deed_row
  have B_is_deed_row := F_is_deed_row.binds (ps := ["words"]) fun _ _ _ _ _ _ us hl => match us, hl with | [_], _ => rfl
  have F__law_pen := fun_mk (st := s__law_pen) l__law_pen c__law_pen k__law_pen
  have B__law_pen := F__law_pen.binds (ps := ["_law_script"]) fun _ _ _ _ _ _ us hl => match us, hl with | [_], _ => rfl
  have F__law_draw := fun_mk (st := s__law_draw) l__law_draw c__law_draw k__law_draw
  have B__law_draw := F__law_draw.binds (ps := ["_law_pen_here", "_law_many"]) fun _ _ _ _ _ _ us hl => match us, hl with | [_, _], _ => rfl
  have F__law_pick := fun_mk (st := s__law_pick) l__law_pick c__law_pick k__law_pick
  have B__law_pick := F__law_pick.binds (ps := ["_law_pen_here", "_law_some"]) fun _ _ _ _ _ _ us hl => match us, hl with | [_, _], _ => rfl
  have F__law_heard := fun_mk (st := s__law_heard) l__law_heard c__law_heard k__law_heard
  have B__law_heard := F__law_heard.binds (ps := ["_law_ask"]) fun _ _ _ _ _ _ us hl => match us, hl with | [_], _ => rfl
  have F__law_is_name := fun_mk (st := s__law_is_name) l__law_is_name c__law_is_name k__law_is_name
  have B__law_is_name := F__law_is_name.binds (ps := ["_law_value"]) fun _ _ _ _ _ _ us hl => match us, hl with | [_], _ => rfl
  have F__law_due := fun_mk (st := s__law_due) l__law_due c__law_due k__law_due
  have B__law_due := F__law_due.binds (ps := ["_law_values_here", "_law_first"]) fun _ _ _ _ _ _ us hl => match us, hl with | [_, _], _ => rfl
  have F__law_used := fun_mk (st := s__law_used) l__law_used c__law_used k__law_used
  have B__law_used := F__law_used.binds (ps := ["_law_used_here"]) fun _ _ _ _ _ _ us hl => match us, hl with | [_], _ => rfl
  have F__law_done := fun_mk (st := s__law_done) l__law_done c__law_done k__law_done
  have B__law_done := F__law_done.binds (ps := ["_law_made", "_law_used_here"]) fun _ _ _ _ _ _ us hl => match us, hl with | [_, _], _ => rfl
  have F__law_odd := fun_mk (st := s__law_odd) l__law_odd c__law_odd k__law_odd
  have B__law_odd := F__law_odd.binds (ps := ["_law_pen_here"]) fun _ _ _ _ _ _ us hl => match us, hl with | [_], _ => rfl
  have F__law_values := fun_mk (st := s__law_values) l__law_values c__law_values k__law_values
  have B__law_values := F__law_values.binds (ps := ["_law_pen_here", "_law_many"]) fun _ _ _ _ _ _ us hl => match us, hl with | [_, _], _ => rfl
  have F__law_is_text := fun_mk (st := s__law_is_text) l__law_is_text c__law_is_text k__law_is_text
  have B__law_is_text := F__law_is_text.binds (ps := ["_law_text"]) fun _ _ _ _ _ _ us hl => match us, hl with | [_], _ => rfl
  have F__law_bent := fun_mk (st := s__law_bent) l__law_bent c__law_bent k__law_bent
  have B__law_bent := F__law_bent.binds (ps := ["_law_pen_here"]) fun _ _ _ _ _ _ us hl => match us, hl with | [_], _ => rfl
  have F_law := fun_mk (st := s_law) l_law c_law k_law
  refine ⟨_, [(q1, P1), (q2, P2), (q3, P3)], spLaw K [(P1, ("_law_used.<locals>.<lambda>" : Str)), (P2, ("_law_done.<locals>.<lambda>" : Str)), (P3, ("law.<locals>.<lambda>" : Str))], ?_, ?_, ?_, fun s u => .of_eq (fd := PySem.W.fnOf "law" "law" (defArgs s_law) (defBody s_law) (defScope s_law) .none kV_law dc_law pm_law an_law (.ref q3) ct_law) rfl, ?_, ?_⟩
  · intro p hp
    simp only [List.mem_cons, List.not_mem_nil, or_false] at hp
    rcases hp with rfl | rfl | rfl
    · exact ow "_law_used" _ rc1 (PySem.W.mg_of X G a__law_used) q1 P1 _ _ _ _ _ _ l__law_used rfl rfl qo1 qp1
    · exact ow "_law_done" _ rc2 (PySem.W.mg_of X G a__law_done) q2 P2 _ _ _ _ _ _ l__law_done rfl rfl qo2 qp2
    · exact ow "law" _ rc3 (PySem.W.mg_of X G a_law) q3 P3 _ _ _ _ _ _ l_law rfl rfl qo3 qp3
  · intro p hp
    simp only [List.mem_cons, List.not_mem_nil, or_false] at hp
    rcases hp with rfl | rfl | rfl
    · exact qn1
    · exact qn2
    · exact qn3
  · intro p hp
    simp only [List.mem_cons, List.not_mem_nil, or_false] at hp
    rcases hp with rfl | rfl | rfl
    · exact ⟨_, _, _, _, _, _, _, _, _, X _ _ qo1, rfl, rfl, qp1, qr1, qs_1, qu1, qv_1, qw1, qx1⟩
    · exact ⟨_, _, _, _, _, _, _, _, _, X _ _ qo2, rfl, rfl, qp2, qr2, qs_2, qu2, qv_2, qw2, qx2⟩
    · exact ⟨_, _, _, _, _, _, _, _, _, X _ _ qo3, rfl, rfl, qp3, qr3, qs_3, qu3, qv_3, qw3, qx3⟩
  · intro H a ns hl _ hH hS
    refine ⟨a, ns, rfl, hS, hl, fun p hp => ?_, fun _ => rfl⟩
    simp only [List.mem_cons, List.not_mem_nil, or_false] at hp
    rcases hp with rfl | rfl | rfl
    · exact LamX.TabS.nil (hH (q1, P1) (by simp))
    · exact LamX.TabS.nil (hH (q2, P2) (by simp))
    · exact LamX.TabS.nil (hH (q3, P3) (by simp))
  intro base _ _ TBs hsys
  have TB1 := TBs (q1, P1) (by simp)
  have TB2 := TBs (q2, P2) (by simp)
  have TB3 := TBs (q3, P3) (by simp)
  have hu1 : ∀ p ∈ [(P1, ("_law_used.<locals>.<lambda>" : Str)), (P2, ("_law_done.<locals>.<lambda>" : Str)), (P3, ("law.<locals>.<lambda>" : Str))], p.1 = P1 → p.2 = ("_law_used.<locals>.<lambda>" : Str) := fun p hp e => by
    simp only [List.mem_cons, List.not_mem_nil, or_false] at hp
    rcases hp with rfl | rfl | rfl
    · rfl
    · exact absurd e.symm qne12
    · exact absurd e.symm qne13
  have hu2 : ∀ p ∈ [(P1, ("_law_used.<locals>.<lambda>" : Str)), (P2, ("_law_done.<locals>.<lambda>" : Str)), (P3, ("law.<locals>.<lambda>" : Str))], p.1 = P2 → p.2 = ("_law_done.<locals>.<lambda>" : Str) := fun p hp e => by
    simp only [List.mem_cons, List.not_mem_nil, or_false] at hp
    rcases hp with rfl | rfl | rfl
    · exact absurd e qne12
    · rfl
    · exact absurd e.symm qne23
  have hu3 : ∀ p ∈ [(P1, ("_law_used.<locals>.<lambda>" : Str)), (P2, ("_law_done.<locals>.<lambda>" : Str)), (P3, ("law.<locals>.<lambda>" : Str))], p.1 = P3 → p.2 = ("law.<locals>.<lambda>" : Str) := fun p hp e => by
    simp only [List.mem_cons, List.not_mem_nil, or_false] at hp
    rcases hp with rfl | rfl | rfl
    · exact absurd e qne13
    · exact absurd e qne23
    · rfl
  have raw : ∀ {CX : CXT} {k : Nat} {f : Addr} {fd : FuncData} {ps : List Str} {sp : Sp}, FnOk l.prog w K mg base CX k f fd ps sp → Binds K fd ps [] → FnR l.prog w K mg base CX k f sp := fun {CX k f fd ps sp} F b => (F.raw b .nil).imp fun vs H Q E h => by rw [List.append_nil]; exact h
  have x_BadName : Xer l.prog w K mg base CN "BadName" ["value"] := ⟨T.m_BadName, OXN, _, _, _, inN, tf_N, ok_BadName_init FSN SEN noN_value, Binds.all fun us hl => match us, hl with | [_, _], _ => rfl⟩
  have x_Twice : Xer l.prog w K mg base CW "Twice" ["name"] := ⟨T.m_Twice, OXW, _, _, _, inW, tf_W, ok_Twice_init FSW SEW noW_name, Binds.all fun us hl => match us, hl with | [_, _], _ => rfl⟩
  have x_TooMany : Xer l.prog w K mg base CY "TooMany" ["most"] := ⟨T.m_TooMany, OXY, _, _, _, inY, tf_Y, ok_TooMany_init FSY SEY noY_most, Binds.all fun us hl => match us, hl with | [_, _], _ => rfl⟩
  have x_BadDeed : Xer l.prog w K mg base CB "BadDeed" ["value"] := ⟨T.m_BadDeed, OXB, _, _, _, inB, tf_B, ok_BadDeed_init FSB SEB noB_value, Binds.all fun us hl => match us, hl with | [_, _], _ => rfl⟩
  have c_is_name : Cal l.prog w K mg base CX0 1 "is_name" spName := ⟨_, PySem.W.mg_of X G a_is_name, k_is_name, raw (ok_name F_is_name T) B_is_name⟩
  have c_need_names : Cal l.prog w K mg base (L2.CX l.prog w) 3 "need_names" (spNN K CN CW) := ⟨_, PySem.W.mg_of X G a_need_names, k_need_names, raw (ok_nn F_need_names T c_is_name x_BadName x_Twice) B_need_names⟩
  have c_need_used : Cal l.prog w K mg base (L2.CX l.prog w) 4 "need_used" (spNU K CN CB CW CY) := ⟨_, PySem.W.mg_of X G a_need_used, k_need_used, raw (ok_nu F_need_used T c_need_names x_TooMany x_BadDeed) B_need_used⟩
  have c_need_name : Cal l.prog w K mg base (L2.CX l.prog w) 3 "need_name" (spN1 CN) := ⟨_, PySem.W.mg_of X G a_need_name, k_need_name, raw (ok_n1 F_need_name T c_is_name x_BadName) B_need_name⟩
  have c_Deed_init : Clf l.prog w K mg base CX0 1 CD "__init__" (spDI K) := ⟨mc, fDI, ⟨rdM, gaM⟩, atDI, kDI, raw (ok_DI FDI T) BDI⟩
  have c_Use : Mkc l.prog w K mg base (L2.CX l.prog w) 5 CU "Use" (spUse CN CB CW CY CU) := ⟨fU_, T.m_Use, ⟨mkU, inU, fnU, kpU⟩, ok_Use_init FIU T CD_U c_need_used c_Deed_init⟩
  have c_Make : Mkc l.prog w K mg base (L2.CX l.prog w) 5 CM "Make" (spMake CN CM) := ⟨fM_, T.m_Make, ⟨mkM, inM, fnM, kpM⟩, raw (ok_Make_init FIM T CD_M c_need_name c_Deed_init) BIM⟩
  have c_Do : Mkc l.prog w K mg base (L2.CX l.prog w) 5 CO "Do" (spDo CN CB CW CY CO) := ⟨fO_, T.m_Do, ⟨mkO, inO, fnO, kpO⟩, ok_Do_init FIO T CD_O c_need_name c_need_used⟩
  have c_is_deed_row : Cal l.prog w K mg base CX0 2 "is_deed_row" spRow := ⟨_, PySem.W.mg_of X G a_is_deed_row, k_is_deed_row, raw (ok_drow F_is_deed_row T c_is_name) B_is_deed_row⟩
  have c_Deed_read : Clm l.prog w K mg base (L2.CX l.prog w) 7 CD "read" (spRead CB) := ⟨mc, pR, fR, ⟨rdM, gaM⟩, ⟨atR, ⟨_, rcR⟩, fiR⟩, raw (ok_read FR T c_is_deed_row x_BadDeed c_Use c_Make c_Do) BR⟩
  have c__law_pen : Cal l.prog w K mg base CX0 1 "_law_pen" (spPen K) := ⟨_, PySem.W.mg_of X G a__law_pen, k__law_pen, raw (ok_pen F__law_pen T) B__law_pen⟩
  have c__law_draw : Cal l.prog w K mg base CX0 1 "_law_draw" spDraw := ⟨_, PySem.W.mg_of X G a__law_draw, k__law_draw, raw (ok_draw F__law_draw T) B__law_draw⟩
  have c__law_pick : Cal l.prog w K mg base CX0 2 "_law_pick" (spPick K) := ⟨_, PySem.W.mg_of X G a__law_pick, k__law_pick, raw (ok_pick F__law_pick T c__law_draw) B__law_pick⟩
  have c__law_is_name : Cal l.prog w K mg base CX0 1 "_law_is_name" spName := ⟨_, PySem.W.mg_of X G a__law_is_name, k__law_is_name, raw (ok_lis F__law_is_name T) B__law_is_name⟩
  have c__law_due : Cal l.prog w K mg base CX0 2 "_law_due" spDue := ⟨_, PySem.W.mg_of X G a__law_due, k__law_due, raw (ok_due F__law_due T c__law_is_name) B__law_due⟩
  have c__law_odd : Cal l.prog w K mg base CX0 3 "_law_odd" spOdd := ⟨_, PySem.W.mg_of X G a__law_odd, k__law_odd, raw (ok_odd F__law_odd T c__law_pick) B__law_odd⟩
  have c__law_values : Cal l.prog w K mg base CX0 4 "_law_values" spVals := ⟨_, PySem.W.mg_of X G a__law_values, k__law_values, raw (ok_vals F__law_values T c__law_draw c__law_pick c__law_odd) B__law_values⟩
  have c__law_is_text : Cal l.prog w K mg base CX0 2 "_law_is_text" spText := ⟨_, PySem.W.mg_of X G a__law_is_text, k__law_is_text, raw (ok_text F__law_is_text T c__law_is_name) B__law_is_text⟩
  have c__law_bent : Cal l.prog w K mg base CX0 3 "_law_bent" spBent := ⟨_, PySem.W.mg_of X G a__law_bent, k__law_bent, raw (ok_bent F__law_bent T c__law_draw c__law_pick) B__law_bent⟩
  have mh := PySem.W.mg_of X G a__law_heard
  have c__law_used : CalG l.prog w K mg base CX0 11 "_law_used" (spUsed [(P1, ("_law_used.<locals>.<lambda>" : Str)), (P2, ("_law_done.<locals>.<lambda>" : Str)), (P3, ("law.<locals>.<lambda>" : Str))]) := ⟨_, _, _, PySem.W.mg_of X G a__law_used, k__law_used, B__law_used, ok_law_used F__law_used T F__law_heard mh B__law_heard eN eW eY eB rfl TB1 (by simp) hu1 c_Use⟩
  have c__law_done : CalG l.prog w K mg base CX0 11 "_law_done" (spDone [(P1, ("_law_used.<locals>.<lambda>" : Str)), (P2, ("_law_done.<locals>.<lambda>" : Str)), (P3, ("law.<locals>.<lambda>" : Str))]) := ⟨_, _, _, PySem.W.mg_of X G a__law_done, k__law_done, B__law_done, ok_law_done F__law_done T F__law_heard mh B__law_heard eN eW eY eB rfl TB2 (by simp) hu2 c_Do⟩
  exact ok_law F_law T F__law_heard mh B__law_heard eN eW eY eB rfl TB3 (by simp) hu3 hsys c_Use c_Make c_Do c_Deed_read c__law_pen c__law_draw c__law_values c__law_done c__law_used c__law_due c__law_is_name c__law_bent c__law_odd c__law_is_text
theorem walk {l : PySem.W.OpenLaw} {q : Program} {loose : List Str} {XP : (Str → Option Value) → Heap → Prop} {YP : World → Heap → Prop} {d : DefRec} {K : Params → PySem.W.Frag} (hn : l.most = some 63) (hdf : d.params.defaults = []) (him : importsNone q = true)
    (hY : ∀ (w : World) (h : Heap), YP w h → (K w.params).In h)
    (F : ∀ (w : World) (mg : Str → Option Value) (fa : Addr) (h : Heap), (K w.params).In h → h.Ns mainGlobals mg → mg d.name = some (.ref fa) → (∀ (x : Str) (fx : Addr), ((recsOf q).any fun e => e.name == x) = true → mg x = some (.ref fx) → LamX.OwnTab (K w.params) fx h) → LawG l w (K w.params) CX0 13 63 "_law_script" mg fa h) :
    PySem.W.WalkO q loose XP YP l.row.toRowW d [] (fun f vs => PySem.call f vs) :=
  walk_G (n := 63) (k := 13) (x := "_law_script") (CX := fun _ => CX0) hn (by decide) hdf ⟨rfl, by decide, by decide⟩ him hY (fun w mg fa h _ => F w mg fa h) fun _ _ _ _ _ z => z
end K02
open PySem PySem.W PyProof.Rows
set_option maxRecDepth 100000 in
set_option maxHeartbeats 0 in
theorem PySem.Challenge.cw_loopstow_k02_deeds_refused_holds : PySem.Challenge.rw_loopstow_k02_deeds_refused.Holds := by
  w_on; o_law; k_head; (case hw => w_witness2)
  k_fill
  refine K02.walk (l := PySem.Challenge.rw_loopstow_k02_deeds_refused) rfl rfl (by decide +kernel) (fun w h Y => PySem.W.km_in_of Y) ?F
  case F =>
    intro w mg fa h KX G hmg ow
    refine' K02.all_mk KX G hmg ow ?b0 ?b1 ?b2 ?b3 ?b4 ?b5 ?b6 ?b7 ?b8 ?b9 ?b10 ?b11 ?b12 ?gL ?eL ?gN ?gMU ?hn ?htk ?any_ ?top_ ?gCE ?eE1 ?eE2 ?eE3 ?gD_ ?tyM ?rdM ?gaM ?atDI ?lDI ?cDI ?kDI ?atR ?rcR ?fiR ?lR ?cR ?kR ?gN_ ?xoN ?xrN ?saN ?beN ?tyN ?kpN ?inN ?tf_N ?lIN ?cIN ?kIN ?ceN ?coN ?v2N ?flN ?cd_N ?sbN ?svN ?fd_N ?noN_value ?suN ?xgN ?xkN ?hdN ?haN ?hmN ?gW_ ?xoW ?xrW ?saW ?beW ?tyW ?kpW ?inW ?tf_W ?lIW ?cIW ?kIW ?ceW ?coW ?v2W ?flW ?cd_W ?sbW ?svW ?fd_W ?noW_name ?suW ?xgW ?xkW ?hdW ?haW ?hmW ?gY_ ?xoY ?xrY ?saY ?beY ?tyY ?kpY ?inY ?tf_Y ?lIY ?cIY ?kIY ?ceY ?coY ?v2Y ?flY ?cd_Y ?sbY ?svY ?fd_Y ?noY_most ?suY ?xgY ?xkY ?hdY ?haY ?hmY ?gB_ ?xoB ?xrB ?saB ?beB ?tyB ?kpB ?inB ?tf_B ?lIB ?cIB ?kIB ?ceB ?coB ?v2B ?flB ?cd_B ?sbB ?svB ?fd_B ?noB_value ?suB ?xgB ?xkB ?hdB ?haB ?hmB ?kvN ?kNN_ ?kNW_ ?kNY_ ?kNB_ ?kvW ?kWN_ ?kWW_ ?kWY_ ?kWB_ ?kvY ?kYN_ ?kYW_ ?kYY_ ?kYB_ ?kvB ?kBN_ ?kBW_ ?kBY_ ?kBB_ ?gU_ ?pgU ?hdU ?poU ?saU ?nU_used_names ?nU_made_names ?haU ?hmU ?mkU ?inU ?fnU ?kpU ?lIU ?cIU ?kIU ?gM_ ?pgM ?hdM ?poM ?saM ?nM_used_names ?nM_made_names ?haM ?hmM ?mkM ?inM ?fnM ?kpM ?lIM ?cIM ?kIM ?gO_ ?pgO ?hdO ?poO ?saO ?nO_used_names ?nO_made_names ?haO ?hmO ?mkO ?inO ?fnO ?kpO ?lIO ?cIO ?kIO ?a_is_name ?l_is_name ?c_is_name ?k_is_name ?a_need_names ?l_need_names ?c_need_names ?k_need_names ?a_need_used ?l_need_used ?c_need_used ?k_need_used ?a_need_name ?l_need_name ?c_need_name ?k_need_name ?a_is_deed_row ?l_is_deed_row ?c_is_deed_row ?k_is_deed_row ?a__law_pen ?l__law_pen ?c__law_pen ?k__law_pen ?a__law_draw ?l__law_draw ?c__law_draw ?k__law_draw ?a__law_pick ?l__law_pick ?c__law_pick ?k__law_pick ?a__law_heard ?l__law_heard ?c__law_heard ?k__law_heard ?a__law_is_name ?l__law_is_name ?c__law_is_name ?k__law_is_name ?a__law_due ?l__law_due ?c__law_due ?k__law_due ?a__law_used ?l__law_used ?c__law_used ?k__law_used ?qo1 ?qp1 ?qr1 ?qs_1 ?qu1 ?qv_1 ?qw1 ?qx1 ?qn1 ?rc1 ?a__law_done ?l__law_done ?c__law_done ?k__law_done ?qo2 ?qp2 ?qr2 ?qs_2 ?qu2 ?qv_2 ?qw2 ?qx2 ?qn2 ?rc2 ?a__law_odd ?l__law_odd ?c__law_odd ?k__law_odd ?a__law_values ?l__law_values ?c__law_values ?k__law_values ?a__law_is_text ?l__law_is_text ?c__law_is_text ?k__law_is_text ?a__law_bent ?l__law_bent ?c__law_bent ?k__law_bent ?a_law ?l_law ?c_law ?k_law ?qo3 ?qp3 ?qr3 ?qs_3 ?qu3 ?qv_3 ?qw3 ?qx3 ?qn3 ?rc3 ?qne12 ?qne13 ?qne23
    (case b0 => k_is)
    (case b1 => k_is)
    (case b2 => k_is)
    (case b3 => k_is)
    (case b4 => k_is)
    (case b5 => k_is)
    (case b6 => k_is)
    (case b7 => k_is)
    (case b8 => k_is)
    (case b9 => k_is)
    (case b10 => k_is)
    (case b11 => k_is)
    (case b12 => k_is)
    (case gL => k_is)
    (case eL => decide +kernel)
    (case gN => k_is)
    (case gMU => k_is)
    (case hn => k_is)
    (case htk => k_is)
    (case any_ => k_is)
    (case top_ => decide +kernel)
    (case gCE => k_is)
    (case eE1 => k_is)
    (case eE2 => k_is)
    (case eE3 => k_is)
    (case gD_ => k_is)
    (case tyM => k_is)
    (case rdM => k_is)
    (case gaM => k_is)
    (case atDI => k_is)
    (case lDI => k_is)
    (case cDI => k_is)
    (case kDI => k_is)
    (case atR => k_is)
    (case rcR => k_is)
    (case fiR => k_is)
    (case lR => k_is)
    (case cR => k_is)
    (case kR => k_is)
    (case gN_ => k_is)
    (case xoN => k_is)
    (case xrN => rfl)
    (case saN => k_is)
    (case beN => k_is)
    (case tyN => k_is)
    (case kpN => k_is)
    (case inN => k_is)
    (case tf_N => k_is)
    (case lIN => k_is)
    (case cIN => k_is)
    (case kIN => k_is)
    (case ceN => k_is)
    (case coN => k_is)
    (case v2N => rfl)
    (case flN => decide +kernel)
    (case cd_N => k_is)
    (case sbN => k_is)
    (case svN => k_is)
    (case fd_N => ks_is)
    (case noN_value => k_is)
    (case suN => k_is)
    (case xgN => k_is)
    (case xkN => k_is)
    (case hdN => k_is)
    (case haN => k_is)
    (case hmN => k_is)
    (case gW_ => k_is)
    (case xoW => k_is)
    (case xrW => rfl)
    (case saW => k_is)
    (case beW => k_is)
    (case tyW => k_is)
    (case kpW => k_is)
    (case inW => k_is)
    (case tf_W => k_is)
    (case lIW => k_is)
    (case cIW => k_is)
    (case kIW => k_is)
    (case ceW => k_is)
    (case coW => k_is)
    (case v2W => rfl)
    (case flW => decide +kernel)
    (case cd_W => k_is)
    (case sbW => k_is)
    (case svW => k_is)
    (case fd_W => ks_is)
    (case noW_name => k_is)
    (case suW => k_is)
    (case xgW => k_is)
    (case xkW => k_is)
    (case hdW => k_is)
    (case haW => k_is)
    (case hmW => k_is)
    (case gY_ => k_is)
    (case xoY => k_is)
    (case xrY => rfl)
    (case saY => k_is)
    (case beY => k_is)
    (case tyY => k_is)
    (case kpY => k_is)
    (case inY => k_is)
    (case tf_Y => k_is)
    (case lIY => k_is)
    (case cIY => k_is)
    (case kIY => k_is)
    (case ceY => k_is)
    (case coY => k_is)
    (case v2Y => rfl)
    (case flY => decide +kernel)
    (case cd_Y => k_is)
    (case sbY => k_is)
    (case svY => k_is)
    (case fd_Y => ks_is)
    (case noY_most => k_is)
    (case suY => k_is)
    (case xgY => k_is)
    (case xkY => k_is)
    (case hdY => k_is)
    (case haY => k_is)
    (case hmY => k_is)
    (case gB_ => k_is)
    (case xoB => k_is)
    (case xrB => rfl)
    (case saB => k_is)
    (case beB => k_is)
    (case tyB => k_is)
    (case kpB => k_is)
    (case inB => k_is)
    (case tf_B => k_is)
    (case lIB => k_is)
    (case cIB => k_is)
    (case kIB => k_is)
    (case ceB => k_is)
    (case coB => k_is)
    (case v2B => rfl)
    (case flB => decide +kernel)
    (case cd_B => k_is)
    (case sbB => k_is)
    (case svB => k_is)
    (case fd_B => ks_is)
    (case noB_value => k_is)
    (case suB => k_is)
    (case xgB => k_is)
    (case xkB => k_is)
    (case hdB => k_is)
    (case haB => k_is)
    (case hmB => k_is)
    (case kvN => kit_is)
    (case kNN_ => kit_is)
    (case kNW_ => kit_is)
    (case kNY_ => kit_is)
    (case kNB_ => kit_is)
    (case kvW => kit_is)
    (case kWN_ => kit_is)
    (case kWW_ => kit_is)
    (case kWY_ => kit_is)
    (case kWB_ => kit_is)
    (case kvY => kit_is)
    (case kYN_ => kit_is)
    (case kYW_ => kit_is)
    (case kYY_ => kit_is)
    (case kYB_ => kit_is)
    (case kvB => kit_is)
    (case kBN_ => kit_is)
    (case kBW_ => kit_is)
    (case kBY_ => kit_is)
    (case kBB_ => kit_is)
    (case gU_ => k_is)
    (case pgU => k_is)
    (case hdU => k_is)
    (case poU => k_is)
    (case saU => k_is)
    (case nU_used_names => k_is)
    (case nU_made_names => k_is)
    (case haU => k_is)
    (case hmU => k_is)
    (case mkU => k_is)
    (case inU => k_is)
    (case fnU => k_is)
    (case kpU => k_is)
    (case lIU => k_is)
    (case cIU => k_is)
    (case kIU => k_is)
    (case gM_ => k_is)
    (case pgM => k_is)
    (case hdM => k_is)
    (case poM => k_is)
    (case saM => k_is)
    (case nM_used_names => k_is)
    (case nM_made_names => k_is)
    (case haM => k_is)
    (case hmM => k_is)
    (case mkM => k_is)
    (case inM => k_is)
    (case fnM => k_is)
    (case kpM => k_is)
    (case lIM => k_is)
    (case cIM => k_is)
    (case kIM => k_is)
    (case gO_ => k_is)
    (case pgO => k_is)
    (case hdO => k_is)
    (case poO => k_is)
    (case saO => k_is)
    (case nO_used_names => k_is)
    (case nO_made_names => k_is)
    (case haO => k_is)
    (case hmO => k_is)
    (case mkO => k_is)
    (case inO => k_is)
    (case fnO => k_is)
    (case kpO => k_is)
    (case lIO => k_is)
    (case cIO => k_is)
    (case kIO => k_is)
    (case a_is_name => k_is)
    (case l_is_name => k_is)
    (case c_is_name => k_is)
    (case k_is_name => k_is)
    (case a_need_names => k_is)
    (case l_need_names => k_is)
    (case c_need_names => k_is)
    (case k_need_names => k_is)
    (case a_need_used => k_is)
    (case l_need_used => k_is)
    (case c_need_used => k_is)
    (case k_need_used => k_is)
    (case a_need_name => k_is)
    (case l_need_name => k_is)
    (case c_need_name => k_is)
    (case k_need_name => k_is)
    (case a_is_deed_row => k_is)
    (case l_is_deed_row => k_is)
    (case c_is_deed_row => k_is)
    (case k_is_deed_row => k_is)
    (case a__law_pen => k_is)
    (case l__law_pen => k_is)
    (case c__law_pen => k_is)
    (case k__law_pen => k_is)
    (case a__law_draw => k_is)
    (case l__law_draw => k_is)
    (case c__law_draw => k_is)
    (case k__law_draw => k_is)
    (case a__law_pick => k_is)
    (case l__law_pick => k_is)
    (case c__law_pick => k_is)
    (case k__law_pick => k_is)
    (case a__law_heard => k_is)
    (case l__law_heard => k_is)
    (case c__law_heard => k_is)
    (case k__law_heard => k_is)
    (case a__law_is_name => k_is)
    (case l__law_is_name => k_is)
    (case c__law_is_name => k_is)
    (case k__law_is_name => k_is)
    (case a__law_due => k_is)
    (case l__law_due => k_is)
    (case c__law_due => k_is)
    (case k__law_due => k_is)
    (case a__law_used => k_is)
    (case l__law_used => k_is)
    (case c__law_used => k_is)
    (case k__law_used => k_is)
    (case qo1 => k_is)
    (case qp1 => rfl)
    (case qr1 => rfl)
    (case qs_1 => rfl)
    (case qu1 => rfl)
    (case qv_1 => rfl)
    (case qw1 => rfl)
    (case qx1 => decide)
    (case qn1 => first | rfl | kernel_rfl)
    (case rc1 => decide +kernel)
    (case a__law_done => k_is)
    (case l__law_done => k_is)
    (case c__law_done => k_is)
    (case k__law_done => k_is)
    (case qo2 => k_is)
    (case qp2 => rfl)
    (case qr2 => rfl)
    (case qs_2 => rfl)
    (case qu2 => rfl)
    (case qv_2 => rfl)
    (case qw2 => rfl)
    (case qx2 => decide)
    (case qn2 => first | rfl | kernel_rfl)
    (case rc2 => decide +kernel)
    (case a__law_odd => k_is)
    (case l__law_odd => k_is)
    (case c__law_odd => k_is)
    (case k__law_odd => k_is)
    (case a__law_values => k_is)
    (case l__law_values => k_is)
    (case c__law_values => k_is)
    (case k__law_values => k_is)
    (case a__law_is_text => k_is)
    (case l__law_is_text => k_is)
    (case c__law_is_text => k_is)
    (case k__law_is_text => k_is)
    (case a__law_bent => k_is)
    (case l__law_bent => k_is)
    (case c__law_bent => k_is)
    (case k__law_bent => k_is)
    (case a_law => k_is)
    (case l_law => k_is)
    (case c_law => k_is)
    (case k_law => k_is)
    (case qo3 => k_is)
    (case qp3 => rfl)
    (case qr3 => rfl)
    (case qs_3 => rfl)
    (case qu3 => rfl)
    (case qv_3 => rfl)
    (case qw3 => rfl)
    (case qx3 => decide)
    (case qn3 => first | rfl | kernel_rfl)
    (case rc3 => decide +kernel)
    (case qne12 => decide)
    (case qne13 => decide)
    (case qne23 => decide)
end
