import PyProof.Rows.All
import Wide.All
import OpenK.AllK
import Wide.FinOn
import KE.KSuper
import KE.KCallOwn
import HandS.ForMost
import HandS.ClsMeth
import HandS.OwnEq
import HandS.FStr
import HandS.IsInst
import HandS.Star
import HandS.SlotsOwn
import HandS.Defaults
import HandS.RaiseMore
import PyProof.NeKinds
import HandS.Walk
import KE.KFromBytes
import HandS.Exc
import HandS.ExcInit
import HandS.ExcSuper
import HandS.ExcIs
import KE.KExcIs
import HandS.ExcField
import HandS.ExcValue
import HandS.Lambda
import HandS.EndTab
import HandS.EndOwn
import HandS.Words
import HandS.WordsExc
import HandS.Dict
import HandS.Text
import PyProof.InstNe
import PyProof.ReprLen
import KE.KRevSl
import HandS.SetFor
import HandS.Style
import HandS.Property
import HandS.List
import PyProof.P3Eq
import PyProof.FitsInt
import HandS.MakeKw
import KE.GoesMore
import KE.GoesEnum
import PyProof.EnumMake
import HandS.Iter
import KE.KOpsOwn
import HandS.Nested
import HandS.Replace
import HandS.ReplaceLit
import HandS.ReplaceList
import HandS.GenBody
import HandS.GenYield
import HandS.GenCall
import HandS.GenList
import HandS.Codes
import HandS.Wide
import HandS.WideMore
import HandS.Conv
import HandS.TupAny
import HandS.TryOnly
import PySem.Challenge.RW_loopstow_k10_rows_refused
import KE.RegKSuper
import KE.RegKIsAll
import KE.KStateDown
import HandS.Head0
import HandS.Head1
import HandS.Head2
section
set_option Elab.async false
set_option linter.all false
set_option maxRecDepth 100000
set_option maxHeartbeats 4000000
/-! Own rules over the hand layer. -/
namespace Ls
open PySem PySem.Spec PyProof.Rows L2

/-! ### what a for walks: one of two kinds -/
theorem PI.or {X : Cx} {tg iter : Expr} {w1 w2 : TI} (h1 : PI X tg iter w1) (h2 : PI X tg iter w2) : PI X tg iter (fun σ H R => w1 σ H R ∨ w2 σ H R) :=
  ⟨fun pins s σ H R I h => h.elim (fun h => h1.run pins s σ H R I h) (fun h => h2.run pins s σ H R I h)⟩
/-- a list or a tuple -/
theorem pi_seq {X : Cx} {tg l : Expr} {tl : TE} (hl : PE X l tl) : PI X tg l (fun σ H R => iList X.K tl σ H R ∨ iTup X.K tl σ H R) := PI.or (pi_list hl) (pi_tup hl)

/-! ### f(k = v, ..), no positional argument -/
section
variable {X : Cx} {CX : CXT} {k : Nat} {f : Addr} {fd : FuncData} {ps ks : List Str} {sp : Sp} {E : XK} {x : Str} {p pos : Pos} {kws : List Keyword} {tk : TA} {g : List Value → List Value → List Value} {gV : List V → List V → List V}
theorem pe_callK0 (F : FnOk X.prog X.w X.K X.mg X.base CX k f fd ps sp) (hr : Room k X.A) (hg : Gl X x) (hm : X.mg x = some (.ref f)) (hk : PySem.W.keepIn X.K (.ref f) = true) (hb : KBn X.K fd ps 0 ks g gV) (hx : Passes CX X E)
    (hkw : PK X kws tk) (hall : (backToKw pos (keywordEach kws X.env)).all (·.1.isSome) = true := by rfl) (hks : (backToKw pos (keywordEach kws X.env)).filterMap (·.1) = ks := by rfl)
    (hdb : (x == ("__debug__" : Str)) = false := by decide)
    (hpl : ((backTo pos (starEach [] X.env)).any (·.1) || (backToKw pos (keywordEach kws X.env)).any (·.1.isNone)) = false := by rfl) :
    PE X (.Call (.Name x p) [] kws pos) (tCallN 0 ks.length sp gV E tNil tk) := by
  refine ⟨fun pins s σ H Q I h => ?_⟩
  refine wpAny_Call_Name_kw (ld_glob I hg hm ?_ hdb)
  refine PySem.W.callWith_KW0 (h₀ := X.base) I.ok.mod.kin hk hall ?_ hpl
  refine thn (hkw.run pos pins s σ H _ I h) fun ws s2 ⟨zs, H2, I2, rz, l1, l2, q2⟩ => ⟨I2.kIn, ?_⟩
  rw [hks]
  exact run_fnN (us := []) (vs := []) F hr hb hx I2 .nil rz l1 l2 q2
/-- one parameter, given by its name -/
theorem kbn_one {K : PySem.W.Frag} {x qual : Str} {st : Stmt} {f : Addr} {fd : FuncData} {a : Str} (F : Fun K x qual st f fd)
    (h : ∀ (kV doc pm : Value) (an : Option Addr) (cdv ct u : Value), bindArgs (PySem.W.fnOf x qual (defArgs st) (defBody st) (defScope st) .none kV doc pm an cdv ct) ⟨[], [(a, u)]⟩ = pure [(a, u)]) :
    KBn K fd [a] 0 [a] (fun _ ws => ws) (fun _ zs => zs) := by
  obtain ⟨oc, od, kV, doc, pm, an, cdv, ct, osl, rfl, lk, hcd⟩ := F.ex
  refine ⟨fun s us ws _ l1 l2 => ?_, fun _ r => r⟩
  match us, ws, l1, l2 with
  | [], [u], _, _ => exact .of_eq (h kV doc pm an cdv ct u)
end

/-! ### str(x), x an instance whose class has the text's own __str__ -/
def rStrOwn (K : PySem.W.Frag) (g : Addr) (sp : Sp) (E : XK) : List V → Hp → VK → Prop := fun xs H Q => ∃ a C dx fs, xs = [V.ref a] ∧ H a = some (.ins C dx fs) ∧ PySem.W.findIn K (.ref C) "__str__" = some (some (.ref g)) ∧ sp [.ref a] H (fun z H' => ∃ y, z = .str y ∧ Q z H') E
section
variable {X : Cx} {CX : CXT} {g : Addr} {n : Nat} {sp : Sp} {E : XK}
theorem call_strOwn (hf : PySem.W.isFn X.K (.ref g) = true) (F : FnR X.prog X.w X.K X.mg X.base CX n g sp) (hr : Room (n + 2) X.A) (hx : Passes CX X E) : CallR X (.type "str") (rStrOwn X.K g sp E) := by
  intro pins s σ H xs us Q I r h
  obtain ⟨a, C, dx, fs, rfl, ha, hs, q⟩ := h
  obtain ⟨u, rfl, ru⟩ := r.one
  cases (show u = Value.ref a from ru)
  obtain ⟨mA, O, _⟩ := ins_get I.hok ha
  obtain ⟨od, J, _⟩ := O.look
  have hr2 : Room n X.A.in1.in1 := (show Room (n + 1) X.A.in1 from Room.in1 hr).in1
  refine PySem.W.kso_call hr2.units0 I.kIn J hs hf (wpAny_mono (wpAny_call (SlX.run_at (us := [.ref a]) (ws := [.ref a]) F hr2 I.env0.in1.in1 hx I (.cons rfl .nil) q)) (fun w s' z => ?_) fun _ _ x => x)
  obtain ⟨z', H', I', rz, y, ey, qz⟩ := z
  subst ey
  obtain ⟨t, e⟩ := (show ∃ t, w = Value.str y t from rz)
  cases e
  exact ⟨.str y, H', I', ⟨t, rfl⟩, qz⟩
/-- .. the written part by its own name (for a block) -/
theorem call_strOwnK {P : Program} {w : World} {K : PySem.W.Frag} {mg : Str → Option Value} {base : Heap} (hf : PySem.W.isFn K (.ref g) = true) (F : FnR P w K mg base CX n g sp) {A : Around} (hr : Room (n + 2) A) (hP : X.prog = P) (hw : X.w = w) (hK : X.K = K) (hmg : X.mg = mg) (hb : X.base = base) (hA : X.A = A) (hx : Passes CX X E) :
    CallR X (.type "str") (rStrOwn K g sp E) := by
  subst hP hw hK hmg hb hA
  exact call_strOwn hf F hr hx
end
end Ls
end
section
set_option Elab.async false
set_option linter.all false
set_option maxRecDepth 100000
set_option maxHeartbeats 4000000
namespace Ls
open PySem PySem.Spec PyProof.Rows L2

/-! ### a def that closes over __class__, its first statement super().__init__(..) -/
structure ScS (N ps : List Str) (sc : Scope) : Prop where
  kind : sc.kind = .function
  co : sc.isCoroutine = false
  gen : sc.isGenerator = false
  nd : N.Nodup
  pre : N.take ps.length = ps
  par : ∀ x ∈ ps, sc.names.lookup x = some .local
  nocell : ∀ y ∈ sc.names, y.2 ≠ .cell
  free : ∀ y ∈ sc.names, y.2 = .free → y.1 = "__class__"

def cxS (CX : CXT) (P : Program) (w : World) (K : PySem.W.Frag) (mg : Str → Option Value) (base : Heap) (N : List Str) (qual : Str) (scope : Scope) (f : Addr) (cd : Value) (cc : Addr) (A : Around) (outer : List Env) (s : Shared) (H : Hp) (E : XK) : Cx where
  prog := P
  w := w
  K := K
  mg := mg
  base := base
  A := A.deeper (PySem.W.ksEnv qual scope s.heap.objs.size f cd cc)
  N := N
  s_0 := s
  H_0 := H
  env := PySem.W.ksEnv qual scope s.heap.objs.size f cd cc
  outer := outer
  stack := PySem.W.ksEnv qual scope s.heap.objs.size f cd cc :: outer
  ex := []
  calm := true
  fn := fun x => !(x == ("__class__" : Str))
  pn := []
  xe := fun e s' => wpAny (model P w) (A.deeper (PySem.W.ksEnv qual scope s.heap.objs.size f cd cc)) (leaving (PySem.W.ksEnv qual scope s.heap.objs.size f cd cc) e) (fun _ s'' => CX outer H s E e s'') (fun e' s'' => CX outer H s E e' s'') s'

theorem rev_lookup {x : Str} {v : Value} : ∀ {ps : List Str} {us : List Value} {i : Nat}, ps.Nodup → ps[i]? = some x → us[i]? = some v → (ps.zip us).reverse.lookup x = some v
  | [], _, _, _, h, _ => by simp at h
  | _ :: _, [], _, _, _, h => by simp at h
  | p :: ps, u :: us, 0, nd, h1, h2 => by
    simp at h1 h2
    subst h1; subst h2
    rw [List.zip_cons_cons, List.reverse_cons, List.lookup_append]
    have : (ps.zip us).reverse.lookup p = none := by
      rw [List.lookup_eq_none_iff]
      rintro ⟨a, b⟩ hm
      have hm' := List.mem_reverse.mp hm
      have ha := (List.of_mem_zip hm').1
      have : p ≠ a := fun e => (List.nodup_cons.mp nd).1 (e ▸ ha)
      simpa using this
    rw [this]
    simp [List.lookup]
  | p :: ps, u :: us, i + 1, nd, h1, h2 => by
    rw [List.zip_cons_cons, List.reverse_cons, List.lookup_append, rev_lookup (i := i) (List.nodup_cons.mp nd).2 (by simpa using h1) (by simpa using h2)]
    rfl

section
variable {CX : CXT} {P : Program} {w : World} {K : PySem.W.Frag} {mg : Str → Option Value} {base : Heap} {N ps : List Str} {qual : Str} {scope : Scope} {f cc : Addr} {cd : Value} {A : Around} {outer : List Env} {s : Shared} {H : Hp} {E : XK} {us : List Value} {vs : List V}

theorem inv_startS {h1 : Heap} {tk : Nat} {ocell : Obj} {vc : Option Value} (S : ScS N ps scope) (hd : A.handled = none) (e0 : Env0 P w K mg base A outer s H) (hl : vs.length = ps.length) (r : Vals vs us)
    (hcell : K.lookup cc = some ocell) (hcd : ocell.data = .cell vc)
    (hns : h1.Ns s.heap.objs.size (fun x => (ps.zip us).reverse.lookup x)) (hk : ∀ b o, s.heap.get? b = some o → h1.get? b = some o) :
    Inv (cxS CX P w K mg base N qual scope f cd cc A outer s H E) [] (start N vs) H { s with heap := h1, toks := tk } := by
  have hpl : ps.length ≤ N.length := by have := congrArg List.length S.pre; rw [List.length_take] at this; omega
  have hccb : base.get? cc = some ocell := e0.mod.kin _ _ hcell
  have lkc : ∀ x c, List.lookup x [(("__class__" : Str), cc)] = some c → x = "__class__" ∧ c = cc := fun x c e => by
    by_cases hx : x = "__class__"
    · subst hx
      simp [List.lookup] at e
      exact ⟨rfl, e.symm⟩
    · have : (x == ("__class__" : Str)) = false := by simpa using hx
      simp [List.lookup, this] at e
  have noA : ∀ b : Addr, b ∉ (cxS CX P w K mg base N qual scope f cd cc A outer s H E).ex := fun b z => absurd (show b ∈ ([] : List Addr) from z) (by simp)
  refine ⟨⟨e0.mod, S.kind, rfl, rfl, Nat.le_refl _, fun y z c q1 q2 => ?_, fun y hy => ?_, fun y c hfn h => ?_, fun _ => hd, Around.frames_deeper e0.frames, .inr ⟨rfl, rfl⟩, fun b z => absurd z (noA b), e0.bs, e0.bsz, fun b _ _ => noA b, fun b z => absurd z (noA b), e0.funs, e0.frf⟩,
    rfl, e0.bare, Un.kept hk, ⟨_, hns, fun i y v q1 q2 q3 => ?_⟩, fun y c h => ?_, e0.hok.fresh (Nat.le_refl _), fun y c h => ?_, fun p hp => absurd (show p ∈ ([] : List (Addr × Obj)) from hp) (by simp), e0.hok.kept hk, ?_⟩
  · rw [(lkc y c q1).1, (lkc z c q2).1]
  · have hy : scope.names.lookup y = some .cell ∨ scope.names.lookup y = some .free := hy
    rcases hy with hy | hy
    · exact absurd rfl (S.nocell _ (PySem.mem_of_lookup hy))
    · have e := S.free _ (PySem.mem_of_lookup hy) rfl
      have e' : y = "__class__" := e
      subst e'
      exact ⟨cc, by show List.lookup _ [_] = _; simp [List.lookup]⟩
  · have e := (lkc y c h).1
    subst e
    exact absurd (show (!(("__class__" : Str) == ("__class__" : Str))) = true from hfn) (by simp)
  · have hi : i < vs.length := by
      unfold L2.start at q2
      by_cases hi : i < vs.length
      · exact hi
      · rw [List.getElem?_append_right (by simpa using hi)] at q2
        rw [List.getElem?_replicate] at q2
        split at q2 <;> cases q2
    have ha : vs[i]? = some v := by
      unfold L2.start at q2
      rw [List.getElem?_append_left (by simpa using hi), List.getElem?_map] at q2
      cases e : vs[i]? with
      | none => rw [e] at q2; cases q2
      | some a => rw [e] at q2; cases q2; rfl
    obtain ⟨u, hu, rv⟩ := r.get ha
    have hp : ps[i]? = some y := by
      rw [← S.pre, List.getElem?_take_of_lt (by omega)]; exact q1
    have ndP : ps.Nodup := by rw [← S.pre]; exact S.nd.sublist (List.take_sublist _ _)
    exact ⟨u, rv, .inl ⟨S.par y (List.mem_of_getElem? hp), rev_lookup ndP hp hu⟩⟩
  · obtain ⟨_, e⟩ := lkc y c h
    subst e
    exact ⟨vc, ocell, hk _ _ (e0.bs _ _ hccb).1, hcd⟩
  · obtain ⟨_, e⟩ := lkc y c h
    subst e
    exact (e0.bs _ _ hccb).2
  · unfold L2.start
    show _ = N.length
    rw [List.length_append, List.length_map, List.length_replicate]
    omega
end

/-- what the written part says for super().__init__ in a def of the class at D, of an instance of the class at C -/
structure SupT (P : Program) (K : PySem.W.Frag) (mg : Str → Option Value) (C D cc cda : Addr) (m : Str) (f2 : Addr) : Prop where
  cell : ∃ cl cld csl, K.lookup cc = some ⟨cl, cld, .cell (some (.ref D)), csl⟩
  code : ∃ ccl cdd vs ccs file tf, K.lookup cda = some ⟨ccl, cdd, .fields vs, ccs⟩ ∧ vs[2]? = some (.str file tf) ∧ ((P.main.file : Str) == file) = true
  clD : ∃ cdD, PySem.W.clsIn K D = some cdD
  sub : PySem.W.mroIn K C (.ref D) = some true
  sup : mg "super" = none
  top : (P.main.scope.names.lookup ("super" : Str)).isSome = false
  any : PySem.W.nsIn K cStatics "thirdparty.any" = some none
  fnd : PySem.W.ks_superIn K C D m = some (some (.ref f2))
  ty : PySem.W.typeIn K (.ref f2) = some (.type "function")
  fi : PySem.W.fnIn K f2 = true

section
variable {CX : CXT} {P : Program} {w : World} {K : PySem.W.Frag} {mg : Str → Option Value} {base : Heap} {k : Nat} {f cc cda : Addr} {name qual : Str} {params : Arguments} {scope : Scope} {dV kV doc pm ct oc : Value} {an od : Option Addr}
    {osl : Array (Option Value)} {N ps : List Str} {sp : Sp} {e : PySem.Expr} {es : List PySem.Expr} {rest : List Stmt} {m : Str} {p0 p1 apos pos epos : Pos} {pl : Sem Bool}
theorem fn_super (lk : K.lookup f = some ⟨oc, od, .func (PySem.W.ksFn name qual params (.Expr (.Call (.Attribute (.Call (.Name "super" p0) [] [] p1) m apos) (e :: es) [] pos) epos :: rest) scope dV kV doc pm an (.ref cda) ct cc), osl⟩)
    (hcd : PySem.W.codeIn K (.ref cda) qual = true) (S : ScS N ps scope)
    {ar : Arg} (hp0 : (params.posonlyargs ++ params.args).head? = some ar) (hps : ps.head? = some ar.arg) (hN0 : N.head? = some ar.arg) (har : scope.names.lookup ar.arg = some .local)
    (hks : scope.names.lookup ("super" : Str) = some .globalImplicit) (hkc : scope.names.lookup ("__class__" : Str) = some .free) (hmc : (m == ("__class__" : Str)) = false)
    (len : ∀ vs H Q E, sp vs H Q E → vs.length = ps.length)
    (hbody : ∀ (A : Around) (outer : List Env) (s : Shared) (H : Hp) (vs : List V) (Q : VK) (E : XK), Room k (A.deeper (PySem.W.ksEnv qual scope s.heap.objs.size f (.ref cda) cc)) → sp vs H Q E →
      ∃ (x C D dx f2 : Addr) (fs : List (Str × V)) (vs' : List V) (ta : TA) (u : TS) (spM : Sp) (CX' : CXT) (E' : XK), vs = .ref x :: vs' ∧ H x = some (.ins C dx fs) ∧ SupT P K mg C D cc cda m f2 ∧
        PA (cxS CX P w K mg base N qual scope f (.ref cda) cc A outer s H E) (e :: es) ta ∧ FnR P w K mg base CX' k f2 spM ∧ Passes CX' (cxS CX P w K mg base N qual scope f (.ref cda) cc A outer s H E) E' ∧
        PSs (cxS CX P w K mg base N qual scope f (.ref cda) cc A outer s H E) rest u ∧
        ta (start N vs) H (fun ws H1 => spM (.ref x :: ws) H1 (fun _ H2 => u { nx := fun _ H' => Q .non H', rt := Q } (start N vs) H2) E'))
    (hi : ∀ L, interactive (PySem.W.ksEnv qual scope L f (.ref cda) cc) = false) (hsw : ∀ L, swapsWith (.Call (.Attribute (.Call (.Name "super" p0) [] [] p1) m apos) (e :: es) [] pos) none epos.line (PySem.W.ksEnv qual scope L f (.ref cda) cc) = pure false)
    (he : ∀ L, eval (.Call (.Attribute (.Call (.Name "super" p0) [] [] p1) m apos) (e :: es) [] pos) (PySem.W.ksEnv qual scope L f (.ref cda) cc) = (do
      let ov ← attributeBase (.Call (.Name "super" p0) [] [] p1) m (PySem.W.ksEnv qual scope L f (.ref cda) cc) (eval (.Call (.Name "super" p0) [] [] p1) (PySem.W.ksEnv qual scope L f (.ref cda) cc))
      standAt apos.atName
      let (fn, first) ← holding [ov] (getMethod ov m pl)
      callWith pos fn first (backTo pos (starEach (e :: es) (PySem.W.ksEnv qual scope L f (.ref cda) cc))) []))
    (hst : ∀ L, starEach (e :: es) (PySem.W.ksEnv qual scope L f (.ref cda) cc) = (false, eval e (PySem.W.ksEnv qual scope L f (.ref cda) cc)) :: starEach es (PySem.W.ksEnv qual scope L f (.ref cda) cc))
    (hpl : ∀ L, (backTo pos (starEach es (PySem.W.ksEnv qual scope L f (.ref cda) cc))).any (·.1) = false) :
    FnOk P w K mg base CX (k + 1) f (PySem.W.ksFn name qual params (.Expr (.Call (.Attribute (.Call (.Name "super" p0) [] [] p1) m apos) (e :: es) [] pos) epos :: rest) scope dV kV doc pm an (.ref cda) ct cc) ps sp := by
  refine ⟨len, fun A outer s H args us vs Q E hr e0 hb r hsp => ?_⟩
  have hl := len _ _ _ _ hsp
  have KX : K.In s.heap := e0.mod.kin.keeps fun b o e => (e0.bs b o e).1
  have lim : s.heap.NoLimit := e0.mod.nolimit.keeps fun b o e => (e0.bs b o e).1
  obtain ⟨x, C, D, dx, f2, fs, vs', ta, u, spM, CX', E', rfl, hx, T, hta, FM, hpx, hrest, hq⟩ := hbody A outer s H vs Q E (hr.deeper _) hsp
  obtain ⟨cl, cld, csl, hcell⟩ := T.cell
  obtain ⟨ccl, cdd, cvs, ccs, file, tf, hcode, hvs, hfile⟩ := T.code
  obtain ⟨cdD, hD⟩ := T.clD
  refine PySem.ks_codeAny_call_defAt (binds := ps.zip us) hr.depth (KX _ _ lk) rfl lim (PySem.W.codeRec_of KX hcd) rfl hb S.nocell (fun y hy => S.par y.1 (List.of_mem_zip hy).1) (fun h1 hns hk => ?_) S.co S.gen S.kind
  have I : Inv (cxS CX P w K mg base N qual scope f (.ref cda) cc A outer s H E) [] (start N (.ref x :: vs')) H { s with heap := h1, toks := s.toks + (ps.zip us).length } :=
    inv_startS (vs := .ref x :: vs') S hr.hd e0 hl r hcell rfl hns hk
  have hX : K.In h1 := I.kIn
  obtain ⟨mA, O, _⟩ := ins_get I.hok hx
  obtain ⟨odx, J, _⟩ := O.look
  obtain ⟨oD, hD1, hD2⟩ : ∃ oD, h1.get? D = some oD ∧ oD.data = .cls cdD := by
    unfold PySem.W.clsIn at hD
    split at hD
    · rename_i c d cd' sl ho
      cases hD
      exact ⟨_, hX _ _ ho, rfl⟩
    · cases hD
  have hbase : ∀ b o, s.heap.get? b = some o → h1.get? b = some o := hk
  refine PySem.ks_wpAt_execs_cons (PySem.ks_wpAt_Expr_any (PySem.ks_wpAt_MethodCall (pl := pl) ?_ (he _)) (hi _) (hsw _))
  refine PySem.ks_wpAt_super_base (env := PySem.W.ksEnv qual scope s.heap.objs.size f (.ref cda) cc) hks hkc hmc rfl (hX _ _ lk) rfl hp0 rfl (hX _ _ hcode) rfl hvs hfile T.top ?_
  obtain ⟨mb, hb1, hb2⟩ := I.mod.blt
  refine PySem.W.ks_loadName_global S.kind hks (Calls.loadGlobal_builtin (env := PySem.W.ksEnv qual scope s.heap.objs.size f (.ref cda) cc) (I.mod.glob.keeps I.bk) T.sup (hb1.keeps I.bk) ((hb2 _ (by decide +kernel)).trans (show bootBuiltins "super" = some (.type "super") by first | rfl | kernel_rfl)) ⟨rfl, ?_⟩)
  refine wpAny_loadName_free S.kind hkc (by show List.lookup _ [_] = _; simp [List.lookup]) ⟨_, hX _ _ hcell, rfl⟩ ?_
  have hself : (ps.zip us).reverse.lookup ar.arg = some (.ref x) := by
    match ps, us, hps, r with
    | p :: ps', u' :: us', hp', .cons ru _ =>
      have hp'' : p = ar.arg := by simpa using hp'
      subst hp''
      cases (show u' = Value.ref x from ru)
      have ndP : (ar.arg :: ps').Nodup := by
        have := S.pre
        rw [← this]
        exact S.nd.sublist (List.take_sublist _ _)
      exact rev_lookup (i := 0) ndP rfl rfl
  refine wpAny_loadName_local S.kind har hns hself ?_
  refine PySem.ks_wpAny_isType_cls hD1 hD2 ⟨rfl, ?_⟩
  refine PySem.ks_wpAny_call_super hD1 hD2 J.at_ J.cls (fun c e => ?_) (PySem.W.looks_mroIn hX T.sub) (fun h' hso k' => ?_)
  · have := J.no
    unfold PySem.W.notCls at this
    rw [e] at this
    exact Bool.noConfusion this
  -- the super object is pinned
  have I1 : Inv (cxS CX P w K mg base N qual scope f (.ref cda) cc A outer s H E) [(h1.objs.size, PySem.W.ks_superObj D x C)] (start N (.ref x :: vs')) H { s with heap := h', toks := s.toks + (ps.zip us).length } :=
    ClX.pin_new (s := { s with heap := h1, toks := s.toks + (ps.zip us).length }) (t' := s.toks + (ps.zip us).length) I k' (Nat.le_refl _) hso (fun v z => nomatch z)
  have hX' : K.In h' := I1.kIn
  have fnd := T.fnd
  cases hc : PySem.W.clsIn K C with
  | none => unfold PySem.W.ks_superIn at fnd; rw [hc] at fnd; cases fnd
  | some cdC =>
    unfold PySem.W.ks_superIn at fnd
    rw [hc] at fnd
    obtain ⟨of, hof, hofc⟩ : ∃ of, h'.get? f2 = some of ∧ of.cls = .type "function" := by
      have ht' : (K.lookup f2).map (·.cls) = some (.type "function") := T.ty
      cases z : K.lookup f2 with
      | none => rw [z] at ht'; cases ht'
      | some of => rw [z] at ht'; exact ⟨of, hX' _ _ z, Option.some.inj ht'⟩
    refine PySem.ks_wpAny_getMethod_super (h := h') hso (PySem.W.looks_opaque hX' T.any) (l₀ := cdC.mro) ?_ rfl hX' fnd hof hofc (PySem.W.ks_ne hX J hc) hmc ?_
    · exact fun A Q E s k q => wpAny_bind ((PySem.W.looks_clsIn hX' hc) A _ E s k (wpAny_pure q))
    · have I2 := ClX.pin_new (s := { s with heap := h', toks := s.toks + (ps.zip us).length }) (o := PySem.W.methodObj (.ref f2) (.ref x)) (t' := s.toks + (ps.zip us).length + 1) I1 (fun _ _ z => Heap.get?_push_of_some _ z) (Nat.le_refl _) (Heap.get?_push_size h' rfl) (fun v z => nomatch z)
      refine ClX.callwith_cm (X := cxS CX P w K mg base N qual scope f (.ref cda) cc A outer s H E) I2 (ClX.base_none I1 (Nat.le_refl _)) T.fi (thn (hta.run pos _ _ _ H _ I2 hq) fun us2 s3 ⟨ws, H2, I3, rv, q2⟩ => ⟨⟨ClX.pin_at I3, I3.kIn⟩, ?_⟩) (hst _) (hpl _)
      refine thn (ClX.run_cm FM (hr.deeper _) hpx I3 rv q2) fun v s4 h4 => ?_
      obtain ⟨v4, H4, I4, _, q4⟩ := ClX.unpinE h4
      refine wpAt_of_wpAny (wpAny_mono (hrest.run [] s4 _ H4 _ I4 q4) (fun fl s' hs => ?_) fun e s' hs => hs)
      have fin : ∀ {σ' : L2.St} {H' : Hp} {v : V} {u : Value}, Inv (cxS CX P w K mg base N qual scope f (.ref cda) cc A outer s H E) [] σ' H' s' → RelV v u → Q v H' → CE outer P w H s Q u s' :=
        fun {σ' H' v u} J rv q => ⟨v, H', J.os, J.bare, J.base, J.hok, rv, q⟩
      cases fl with
      | ret u =>
        obtain ⟨v, σ', H', J, rv, q⟩ := hs
        exact fin J rv q
      | next =>
        obtain ⟨σ', H', J, q⟩ := hs
        exact fin (v := V.non) (u := Value.none) J rfl q
      | brk =>
        obtain ⟨_, _, _, q⟩ := hs
        exact False.elim q
      | cont =>
        obtain ⟨_, _, _, q⟩ := hs
        exact False.elim q
end
end Ls
end
section
set_option Elab.async false
set_option linter.all false
set_option maxRecDepth 100000
set_option maxHeartbeats 4000000
namespace LsN
open PySem PySem.SeqAt
open AutoSeq1 (wpAny_loadPart')
open MeetsSeq MeetsSeq2 MeetsSeq3 SeqRoads2
section
variable {prog : Program} {w : World} {A : Around} {R : Result → Shared → Prop}
theorem ne_loopG (l b : Addr) (N : Nat) (I : Nat → Shared → Prop) (hl : GQ.ListI prog w A (fun e s' => R (.error e) s') l b N I)
    (fin : ∀ s, I N s → R (.ok (.ret (.bool false))) s) (k : Nat) :
    ∀ i : Nat, N - i = k → i ≤ N → ∀ s, I i s →
      wpAny (model prog w) A.in1 (Builtin.«list.__eq__.loop» ⟨[.ref l, .ref b, rawInt i, rawInt 3], []⟩) (GQ.FinOf prog w A R) (fun e s' => R (.error e) s') s := by
  induction k with
  | zero =>
    intro i hk hi s h
    obtain ⟨items, items2, n, n2, hl1, hb1, hs1, hs2, _⟩ := hl _ _ h
    have hi' : i = N := by omega
    have hR : R (.ok (.ret (.bool false))) s := fin s (hi' ▸ h)
    obtain ⟨hp, g, d, tk, os⟩ := s
    wp_walk using wpAny_loadPart' hl1, wpAny_loadPart' hb1
    have hi1 : items[((i : Nat) : Int).toNat]? = none := by simp; omega
    have hi2 : items2[((i : Nat) : Int).toNat]? = none := by simp; omega
    rw [hi1, hi2]
    wp_walk using wpAny_loadPart' hl1, wpAny_loadPart' hb1
    show R (.ok (.ret (.bool (items.size != items2.size)))) _
    rw [hs1, hs2]
    simpa using hR
  | succ k ih =>
    intro i hk hi s h
    obtain ⟨items, items2, n, n2, hl1, hb1, hs1, hs2, turn⟩ := hl _ _ h
    have hlt : i < items.size := by omega
    have hlt2 : i < items2.size := by omega
    have ht := turn hlt hlt2
    obtain ⟨hp, g, d, tk, os⟩ := s
    wp_walk using wpAny_loadPart' hl1, wpAny_loadPart' hb1
    have hi1 : items[((i : Nat) : Int).toNat]? = some items[i] := by simp [hlt]
    have hi2 : items2[((i : Nat) : Int).toNat]? = some items2[i] := by simp [hlt2]
    have hc : ((i : Int) + 1) = ((i + 1 : Nat) : Int) := by omega
    rw [hi1, hi2]
    refine wpAny_bind (wpAny_mono ht (fun r s2 h2 => ?_) fun _ _ x => x)
    obtain ⟨hr, h2⟩ := h2
    subst hr
    have hrec := ih (i + 1) (by omega) (by omega) s2 h2
    obtain ⟨hp2, g2, d2, tk2, os2⟩ := s2
    wp_walk
    rw [hc]
    exact ⟨plainId_quiet plain_eq_loop _, codeAny_builtin entry_eq_loop (by
      rw [Around.under_plainId plain_eq_loop _]
      exact hrec)⟩
theorem list_neG (l b : Addr) (N : Nat) (I : Nat → Shared → Prop) (hl : GQ.ListI prog w A (fun e s' => R (.error e) s') l b N I)
    (fin : ∀ s, I N s → R (.ok (.ret (.bool false))) s) {s : Shared} (h : I 0 s) :
    wpAny (model prog w) A.in1 (Builtin.«list.__ne__» ⟨[.ref l, .ref b], []⟩) (GQ.FinOf prog w A R) (fun e s' => R (.error e) s') s := by
  obtain ⟨items, items2, n, n2, hl1, hb1, hs1, hs2, _⟩ := hl _ _ h
  have hrec := ne_loopG (A := A) (R := R) l b N I hl fin _ 0 rfl (Nat.zero_le _) s h
  obtain ⟨hp, g, d, tk, os⟩ := s
  have f3 := AutoSeq1.sub_list_list
  have hne : ¬ (items.size != items2.size) = true := by simp [hs1, hs2]
  wp_walk using wpAny_loadPart' hl1, wpAny_loadPart' hb1
  exact ⟨plainId_quiet plain_eq_loop _, codeAny_builtin entry_eq_loop (by
    rw [Around.under_plainId plain_eq_loop _]
    exact hrec)⟩
end
section
variable {prog : Program} {w : World} {A : Around} {E : Value → Shared → Prop} {s : Shared}
theorem rc_listNe {l b : Addr} {N : Nat} {Q : Value → Shared → Prop} (hu : A.units < cLine) (I : Nat → Shared → Prop) (hl : GQ.ListI prog w A E l b N I)
    (fin : ∀ s, I N s → Q (.bool false) s) (h : I 0 s) : wpAny (model prog w) A (richCompare .NotEq (.ref l) (.ref b)) Q E s := by
  obtain ⟨items, items2, n, n2, hl1, hb1, _, _, _⟩ := hl _ _ h
  refine wpAny_richCompare_same_room (op := .NotEq) ⟨_, hl1, rfl⟩ ⟨_, hb1, rfl⟩ F.slot_list_ne (GQ.call_here F.slot_list_ne ⟨_, hl1, rfl⟩ F.entry_list_ne (F.args_list_ne_2 _ _) ?_) hu
  exact list_neG (R := wants (fun v s' => v ≠ .notImplemented ∧ Q v s') E) l b N I hl (fun s' q => ⟨(fun x => nomatch x), fin s' q⟩) h
end
end LsN
namespace Ls
open PySem PySem.Spec PyProof.Rows L2
section
variable {X : Cx} {n : Nat} {D : Eqv}
/-- x != y of two lists whose items are equal (by ==, which only makes objects): False -/
def rNeG (D : Eqv) : R2 := fun x y H Q => DList D x y H ∧ ∀ H', Ext H H' → Q (.bl false) H'
theorem op_neG (hD : Mon D) (h : EqG X n D) (hr : Room (n + 1) X.A) : OpR X (compareOp .NotEq) (rNeG D) := by
  intro pins s σ H x y v u Q I rx ry hq
  obtain ⟨⟨a, b, xs, ys, rfl, rfl, ha, hb, p⟩, q⟩ := hq
  cases (show v = Value.ref a from rx)
  cases (show u = Value.ref b from ry)
  show wpAny (model X.prog X.w) X.A (richCompare .NotEq (.ref a) (.ref b)) (EP X pins σ Q) X.xe s
  have sb : L2.Sub X (n + 1) X.A := ⟨hr, rfl⟩
  refine LsN.rc_listNe (N := xs.length) hr.units0 (fun _ s' => LoopI X pins σ H s') (fun i s' q => ?_) (fun s' q' => ?_) ⟨H, I, Ext.rfl'⟩
  · obtain ⟨H1, I1, e1⟩ := id q
    obtain ⟨z, its, k, r, e⟩ := I1.hok a _ (e1 _ _ ha)
    obtain ⟨z2, its2, k2, r2, e2⟩ := I1.hok b _ (e1 _ _ hb)
    refine ⟨its.toArray, its2.toArray, k, k2, e, e2, by rw [List.size_toArray, ← r.length], by rw [List.size_toArray, ← r2.length, ← p.1], fun h1 h2 => ?_⟩
    exact turnG hD h sb p r r2 i h1 h2 s' q
  · obtain ⟨H', I', e'⟩ := q'
    exact ⟨.bl false, H', I', rfl, q H' e'⟩
end
end Ls
end
section
set_option Elab.async false
set_option linter.all false
set_option maxRecDepth 100000
set_option maxHeartbeats 4000000
namespace Ls
open PySem PySem.Spec PyProof.Rows L2

/-! ### callees in one word -/
section
variable (P : Program) (w : World) (K : PySem.W.Frag) (mg : Str → Option Value) (base : Heap) (CX : CXT) (k : Nat)
/-- the def under the module's name x keeps sp -/
structure Cal (x : Str) (sp : Sp) : Prop where
  ex : ∃ f, mg x = some (.ref f) ∧ PySem.W.keepIn K (.ref f) = true ∧ FnR P w K mg base CX k f sp
/-- .. called with one keyword -/
structure CalK (x a : Str) (sp : Sp) : Prop where
  ex : ∃ f fd, mg x = some (.ref f) ∧ PySem.W.keepIn K (.ref f) = true ∧ KBn K fd [a] 0 [a] (fun _ ws => ws) (fun _ zs => zs) ∧ FnOk P w K mg base CX k f fd [a] sp
/-- the class at C under the module's name x; its __init__ keeps sp -/
structure Mkc (C : Addr) (x : Str) (sp : Sp) : Prop where
  ex : ∃ f, mg x = some (.ref C) ∧ Mk K C f ∧ FnR P w K mg base CX k f sp
/-- the classmethod m of the class at C keeps sp -/
structure Clm (C : Addr) (m : Str) (sp : Sp) : Prop where
  ex : ∃ mc p g, ClX.CRead K C mc ∧ ClX.CMet K C mc m p g ∧ FnR P w K mg base CX k g sp
end
def tCl (sp : Sp) (E : XK) (t : TA) : TE := fun σ H Q => t σ H fun vs H1 => sp vs H1 Q E
section
variable {X : Cx} {CX : CXT} {k : Nat} {C : Addr} {sp : Sp} {E : XK} {x m a : Str} {p pos apos : Pos} {e o : PySem.Expr} {es : List PySem.Expr} {kws : List Keyword} {ta : TE} {t tk : TA} {pl : Sem Bool}
theorem pe_cal (c : Cal X.prog X.w X.K X.mg X.base CX k x sp) (hr : Room k X.A) (hg : Gl X x) (hx : Passes CX X E) (ha : PA X (e :: es) t) (hd : (x == ("__debug__" : Str)) = false := by decide)
    (he : starEach (e :: es) X.env = (false, eval e X.env) :: starEach es X.env := by rfl) (hpl : (backTo pos (starEach es X.env)).any (·.1) = false := by rfl) :
    PE X (.Call (.Name x p) (e :: es) [] pos) (tCl sp E t) := by
  obtain ⟨f, hm, hk, F⟩ := c.ex
  refine ⟨fun pins s σ H Q I h => ?_⟩
  refine wpAny_Call_Name_kw (ld_glob I hg hm ?_ hd)
  refine PySem.W.callWith_K (h₀ := X.base) I.ok.mod.kin hk (thn (ha.run pos pins s σ H _ I h) fun us s1 ⟨vs, H1, I1, r, q⟩ => ⟨I1.kIn, ?_⟩) he hpl
  exact wpAny_call (run_fnR F hr hx I1 r q)
theorem pe_calk (c : CalK X.prog X.w X.K X.mg X.base CX k x a sp) (hr : Room k X.A) (hg : Gl X x) (hx : Passes CX X E)
    (hkw : PK X kws tk) (hall : (backToKw pos (keywordEach kws X.env)).all (·.1.isSome) = true := by rfl) (hks : (backToKw pos (keywordEach kws X.env)).filterMap (·.1) = [a] := by rfl)
    (hdb : (x == ("__debug__" : Str)) = false := by decide)
    (hpl : ((backTo pos (starEach [] X.env)).any (·.1) || (backToKw pos (keywordEach kws X.env)).any (·.1.isNone)) = false := by rfl) :
    PE X (.Call (.Name x p) [] kws pos) (tCallN 0 1 sp (fun _ zs => zs) E tNil tk) := by
  obtain ⟨f, fd, hm, hk, hb, F⟩ := c.ex
  exact pe_callK0 F hr hg hm hk hb hx hkw hall hks hdb hpl
theorem pe_mkc (c : Mkc X.prog X.w X.K X.mg X.base CX k C x sp) (hr : Room (k + 1) X.A) (hg : Gl X x) (hx : Passes CX X E) (ha : PA X (e :: es) t) (hdb : (x == ("__debug__" : Str)) = false := by decide)
    (he : starEach (e :: es) X.env = (false, eval e X.env) :: starEach es X.env := by rfl) (hpl : (backTo pos (starEach es X.env)).any (·.1) = false := by rfl) :
    PE X (.Call (.Name x p) (e :: es) [] pos) (StX.tMakeR C sp E t) := by
  obtain ⟨f, hm, M, F⟩ := c.ex
  exact StX.pe_makeR M F hr hg hm hx ha hdb he hpl
theorem pe_clm (c : Clm X.prog X.w X.K X.mg X.base CX k C m sp) (hr : Room k X.A) (ho : PE X o ta) (hx : Passes CX X E) (ha : PA X (e :: es) t)
    (hst : starEach (e :: es) X.env = (false, eval e X.env) :: starEach es X.env := by rfl) (hpl : (backTo pos (starEach es X.env)).any (·.1) = false := by rfl)
    (ht : eval (.Call (.Attribute o m apos) (e :: es) [] pos) X.env = (do
      let ov ← eval o X.env
      standAt apos.atName
      let (f, first) ← holding [ov] (getMethod ov m pl)
      callWith pos f first (backTo pos (starEach (e :: es) X.env)) (backToKw pos (keywordEach [] X.env))) := by rfl) :
    PE X (.Call (.Attribute o m apos) (e :: es) [] pos) (ClX.tCMeth C sp E ta t) := by
  obtain ⟨mc, p, g, r, c, F⟩ := c.ex
  exact ClX.pe_cmeth (pl := pl) ho r c F hr hx ha hst hpl ht
end

theorem iteNo {c : Bool} {A B : Prop} (hc : c = false) (h : B) : if c = true then A else B := by rw [hc, if_neg Bool.false_ne_true]; exact h
theorem strNo {a b : Str} (h : ¬ a = b) : decide (V.str a = V.str b) = false := decide_eq_false fun e => h (V.str.inj e)
theorem iteYes {c : Bool} {A B : Prop} (hc : c = true) (h : A) : if c = true then A else B := by rw [hc, if_pos rfl]; exact h
/-! ### constants of the module -/
section
variable {X : Cx} {x z : Str} {i : Int} {tk : Tok} {a : Addr} {pos : Pos}
theorem pe_gstr (hg : Gl X x) (hm : X.mg x = some (.str z tk)) (hd : (x == ("__debug__" : Str)) = false := by decide) : PE X (.Name x pos) (tC (.str z)) := pe_glob hg hm ⟨_, rfl⟩ hd
theorem pe_gint (hg : Gl X x) (hm : X.mg x = some (.int i tk)) (hd : (x == ("__debug__" : Str)) = false := by decide) : PE X (.Name x pos) (tC (.int i)) := pe_glob hg hm ⟨_, rfl⟩ hd
theorem pe_gref (hg : Gl X x) (hm : X.mg x = some (.ref a)) (hd : (x == ("__debug__" : Str)) = false := by decide) : PE X (.Name x pos) (tC (.ref a)) := pe_glob hg hm rfl hd
theorem pe_gty {T : String} (hg : Gl X x) (hm : X.mg x = none) (hv : bootBuiltins x = some (.type T)) (hn : x ≠ "__name__" := by decide) (hd : (x == ("__debug__" : Str)) = false := by decide) : PE X (.Name x pos) (tC (.ty T)) := pe_bltn hg hm hv rfl hn hd
end

/-! ### what a dict's table says behind a store -/
theorem len_put {κ : Type} [DecidableEq κ] {kvs : List (κ × V)} {k : κ} {x v : V} (h : valV kvs k = some x) : (putK kvs k v).length = kvs.length := by
  unfold putK
  rw [valV_any, h]
  simp
theorem val_same {κ : Type} [DecidableEq κ] {kvs : List (κ × V)} {k : κ} {v : V} : valV (putK kvs k v) k = some v := by rw [valV_put, if_pos rfl]
theorem val_other {κ : Type} [DecidableEq κ] {kvs : List (κ × V)} {k j : κ} {v : V} {r : Option V} (hne : ¬ j = k) (h : valV kvs j = r) : valV (putK kvs k v) j = r := by rw [valV_put, if_neg hne]; exact h

/-! ### heaps that keep all but two objects -/
def Keep (p c : Addr) (H H' : Hp) : Prop := ∀ b o, H b = some o → b ≠ p → b ≠ c → H' b = some o
theorem Keep.refl {p c : Addr} {H : Hp} : Keep p c H H := fun _ _ e _ _ => e
theorem Keep.trans {p c : Addr} {H H1 H2 : Hp} (a : Keep p c H H1) (b : Keep p c H1 H2) : Keep p c H H2 := fun d o e h1 h2 => b d o (a d o e h1 h2) h1 h2
theorem Keep.upd1 {p c : Addr} {H : Hp} {o : HO} : Keep p c H (upd H p o) := fun b u e h1 _ => by rw [upd_ne h1]; exact e
theorem Keep.upd2 {p c : Addr} {H : Hp} {o : HO} : Keep p c H (upd H c o) := fun b u e _ h2 => by rw [upd_ne h2]; exact e
theorem Keep.ext {p c : Addr} {H H' : Hp} (e : Ext H H') : Keep p c H H' := fun b o h _ _ => e b o h
theorem Keep.new {p c a : Addr} {H : Hp} {o : HO} (h : H a = none) : Keep p c H (upd H a o) := Keep.ext (Ext.upd h)

/-! ### rules within a comprehension's block: the written part by its own name -/
section
variable {X : Cx} {K : PySem.W.Frag}
theorem pi_listK {tg l : PySem.Expr} {tl : TE} (hK : X.K = K) (hl : PE X l tl) : PI X tg l (iList K tl) := by subst hK; exact pi_list hl
theorem pi_tupK {tg l : PySem.Expr} {tl : TE} (hK : X.K = K) (hl : PE X l tl) : PI X tg l (iTup K tl) := by subst hK; exact pi_tup hl
def rTupOf (K : PySem.W.Frag) : List V → Hp → VK → Prop := fun xs H Q => ∃ p ys, xs = [.ref p] ∧ ((SqL K H p ys ∧ ∀ l, H l = none → Q (.ref l) (upd H l (.tup ys))) ∨ (SqT K H p ys ∧ Q (.ref p) H))
theorem call_tupK (hK : X.K = K) : CallR X (.type "tuple") (rTupOf K) := by subst hK; exact call_tuple_of
def rLenSeq (K : PySem.W.Frag) : List V → Hp → VK → Prop := fun xs H Q => ∃ p ys, xs = [.ref p] ∧ (SqL K H p ys ∨ SqT K H p ys) ∧ Q (.int ys.length) H
theorem call_lenK (hK : X.K = K) : CallR X (.builtin "len") (rLenSeq K) := by subst hK; exact call_len_seq
theorem call_isiB (hK : X.K = K) : CallR X (.builtin "isinstance") (rIsi K) := by subst hK; exact call_isi
def rJoinK (K : PySem.W.Frag) : V → List V → Hp → VK → Prop := fun x xs H Q => ∃ a p, ∃ ys : List Str, x = .str a ∧ xs = [.ref p] ∧ (SqL K H p (ys.map V.str) ∨ SqT K H p (ys.map V.str)) ∧ (ys.map (·.length)).sum + ys.length * a.length ≤ 16777216 ∧ Q (.str (Txt.join a ys)) H
theorem pe_joinK {o e : PySem.Expr} {to te : TE} {apos pos : Pos} (hK : X.K = K) (ho : PE X o to) (he : PE X e te) (hs : starEach [e] X.env = [(false, eval e X.env)] := by rfl) (hbase : attributeBase o "join" X.env (eval o X.env) = eval o X.env := by rfl) (hline : (apos.endLine == pos.line) = true := by rfl) :
    PE X (.Call (.Attribute o "join" apos) [e] [] pos) (tM1 (rJoinK K) to te) := by subst hK; exact pe_join ho he hs hbase hline
end

/-! ### a list beside [] -/
def rNeNil : R2 := fun x y H Q => ∃ a b xs, x = .ref a ∧ y = .ref b ∧ H a = some (.lst xs) ∧ H b = some (.lst []) ∧ Q (.bl (!xs.isEmpty)) H
def rEqNil : R2 := fun x y H Q => ∃ a b xs, x = .ref a ∧ y = .ref b ∧ H a = some (.lst xs) ∧ H b = some (.lst []) ∧ Q (.bl xs.isEmpty) H
section
variable {X : Cx}
theorem op_neNil {k : Nat} (hr : Room k X.A) : OpR X (compareOp .NotEq) rNeNil := by
  intro pins s σ H x y v u Q I rx ry hq
  obtain ⟨a, b, xs, rfl, rfl, ha, hb, q⟩ := hq
  cases (show v = Value.ref a from rx)
  cases (show u = Value.ref b from ry)
  show wpAny (model X.prog X.w) X.A (richCompare .NotEq (.ref a) (.ref b)) (EP X pins σ Q) X.xe s
  obtain ⟨its, r, p1, _⟩ := I.list (SqL.of (K := X.K) ha)
  obtain ⟨its2, r2, p2, _⟩ := I.list (SqL.of (K := X.K) hb)
  cases r2
  cases r with
  | nil => exact SeqAt.RcNeAt.lists (e := fun _ => true) p1.isList p2.isList rfl hr.units0 (fun j h1 _ => absurd h1 (by simp)) X.prog X.w X.xe _ ⟨.bl false, H, I, rfl, q⟩
  | cons r0 r1 => exact SeqAt.RcNeAt.lists_lengths p1.isList p2.isList (by simp) hr.units0 X.prog X.w X.xe _ ⟨.bl true, H, I, rfl, q⟩
theorem op_eqNil {k : Nat} (hr : Room k X.A) : OpR X (compareOp .Eq) rEqNil := by
  intro pins s σ H x y v u Q I rx ry hq
  obtain ⟨a, b, xs, rfl, rfl, ha, hb, q⟩ := hq
  cases (show v = Value.ref a from rx)
  cases (show u = Value.ref b from ry)
  show wpAny (model X.prog X.w) X.A (richCompare .Eq (.ref a) (.ref b)) (EP X pins σ Q) X.xe s
  obtain ⟨its, r, p1, _⟩ := I.list (SqL.of (K := X.K) ha)
  obtain ⟨its2, r2, p2, _⟩ := I.list (SqL.of (K := X.K) hb)
  cases r2
  cases r with
  | nil => exact SeqAt.RcAt.lists (e := fun _ => true) p1.isList p2.isList rfl hr.units0 (fun j h1 _ => absurd h1 (by simp)) X.prog X.w X.xe _ ⟨.bl true, H, I, rfl, q⟩
  | cons r0 r1 => exact SeqAt.RcAt.lists_lengths p1.isList p2.isList (by simp) hr.units0 X.prog X.w X.xe _ ⟨.bl false, H, I, rfl, q⟩
end
end Ls
end
section
set_option Elab.async false
set_option linter.all false
set_option maxRecDepth 100000
set_option maxHeartbeats 4000000
namespace Ls
open PySem PySem.Spec PyProof.Rows L2

/-! ### parts of a heap -/
/-- what is new in H' beside H -/
def nw (H H' : Hp) : Hp := fun b => match H b with | none => H' b | some _ => none
theorem nw_at {H H' : Hp} {b : Addr} (h : H b = none) : nw H H' b = H' b := by unfold nw; rw [h]
theorem nw_some {H H' : Hp} {b : Addr} {o : HO} (h : nw H H' b = some o) : H b = none ∧ H' b = some o := by
  unfold nw at h
  cases e : H b with
  | none => rw [e] at h; exact ⟨rfl, h⟩
  | some u => rw [e] at h; cases h
theorem nw_ext {H H' : Hp} : Ext (nw H H') H' := fun a o e => (nw_some e).2
/-- new beside H1, where H1 has grown from H: new beside H -/
theorem nw_back {H H1 H2 : Hp} (e : Ext H H1) : Ext (nw H1 H2) (nw H H2) := fun a o h => by
  obtain ⟨h1, h2⟩ := nw_some h
  have : H a = none := by
    cases q : H a with
    | none => rfl
    | some u => rw [e a u q] at h1; cases h1
  rw [nw_at this]; exact h2
theorem nw_more {H H1 H2 : Hp} (e : Ext H1 H2) : Ext (nw H H1) (nw H H2) := fun a o h => by
  obtain ⟨h1, h2⟩ := nw_some h
  rw [nw_at h1]; exact e a o h2
/-- H without the objects at S -/
def hid (S : List Addr) (H : Hp) : Hp := fun b => if b ∈ S then none else H b
theorem hid_at {S : List Addr} {H : Hp} {b : Addr} (h : b ∉ S) : hid S H b = H b := by unfold hid; rw [if_neg h]
theorem hid_some {S : List Addr} {H : Hp} {b : Addr} {o : HO} (h : hid S H b = some o) : b ∉ S ∧ H b = some o := by
  unfold hid at h
  by_cases e : b ∈ S
  · rw [if_pos e] at h; cases h
  · rw [if_neg e] at h; exact ⟨e, h⟩
theorem hid_ext {S : List Addr} {H : Hp} : Ext (hid S H) H := fun a o e => (hid_some e).2
theorem hid_nil {H : Hp} : hid [] H = H := by funext b; unfold hid; simp
theorem hid_mono {S : List Addr} {H H' : Hp} (e : Ext H H') : Ext (hid S H) (hid S H') := fun a o h => by
  obtain ⟨h1, h2⟩ := hid_some h
  rw [hid_at h1]; exact e a o h2
/-- a fresh place more is hidden -/
theorem hid_cons {S : List Addr} {H : Hp} {D : Addr} (h : H D = none) : Ext (hid S H) (hid (D :: S) H) := fun a o e => by
  obtain ⟨h1, h2⟩ := hid_some e
  have : a ≠ D := ne_of_none h2 h
  rw [hid_at (by simp [this, h1])]; exact h2
theorem hid_less {S S' : List Addr} {H : Hp} (h : ∀ b ∈ S', b ∈ S) : Ext (hid S H) (hid S' H) := fun a o e => by
  obtain ⟨h1, h2⟩ := hid_some e
  rw [hid_at fun z => h1 (h a z)]; exact h2
theorem hid_upd {S : List Addr} {H : Hp} {D : Addr} {o : HO} (h : D ∈ S) : hid S (upd H D o) = hid S H := by
  funext b
  unfold hid
  by_cases e : b ∈ S
  · rw [if_pos e, if_pos e]
  · rw [if_neg e, if_neg e, upd_ne (show b ≠ D from fun z => e (by rw [z]; exact h))]
theorem hid_upd_new {S : List Addr} {H : Hp} {a : Addr} {o : HO} (h : H a = none) : Ext (hid S H) (hid S (upd H a o)) := hid_mono (Ext.upd h)
/-- what is new beside H lies outside of what stood -/
theorem nw_hid {S : List Addr} {H H' : Hp} (h : ∀ b ∈ S, H b ≠ none) : Ext (nw H H') (hid S H') := fun a o e => by
  obtain ⟨h1, h2⟩ := nw_some e
  rw [hid_at fun z => h a z h1]; exact h2
theorem hid_keep {p c : Addr} {H H' : Hp} (k : Keep p c H H') : Ext (hid [p, c] H) (hid [p, c] H') := fun a o e => by
  obtain ⟨h1, h2⟩ := hid_some e
  rw [hid_at h1]
  exact k a o h2 (fun z => h1 (by simp [z])) fun z => h1 (by simp [z])

theorem hid_keepS {p c : Addr} {S : List Addr} {H H' : Hp} (k : Keep p c H H') (hp : p ∈ S) (hc : c ∈ S) : Ext (hid S H) (hid S H') := fun a o e => by
  obtain ⟨h1, h2⟩ := hid_some e
  rw [hid_at h1]
  exact k a o h2 (fun z => h1 (by rw [z]; exact hp)) fun z => h1 (by rw [z]; exact hc)
theorem Ext.at' {S : List Addr} {H H' : Hp} (e : Ext (hid S H) (hid S H')) {a : Addr} {o : HO} (h : a ∉ S) (q : H a = some o) : H' a = some o := (hid_some (e a o (by rw [hid_at h]; exact q))).2

/-! ### a comprehension that makes one item a turn: R tells what the items are, in the heap without S -/
section
variable {J : It} {n : Nat} {G : Hp → Prop} {Y : Nat → Hp → V → Hp → Prop} {g : TG} {te : TE} {vs : List Nat} {σ : L2.St} {H1 : Hp} {D : Addr} {Qd : Hp → Prop}
theorem lc_map (w : Walk J n G Y) (S : List Addr) (hS : D ∈ S) (Iv : Hp → Prop) (R : Nat → V → Hp → Prop) (hn : n ≤ 100000) (hm : ∀ j y H H', Ext H H' → R j y H → R j y H')
    (hIv : ∀ H o, Iv H → Iv (upd H D o)) (h0 : Iv (upd H1 D (.lst []))) (hG : ∀ H, Ext (hid S H1) (hid S H) → Iv H → G H)
    (hs : ∀ i x H H' acc (C : VK), i < n → Ext (hid S H1) (hid S H) → Iv H → H D = some (.lst acc) → Y i H x H' → (∀ y H4, H4 D = some (.lst acc) → Ext (hid S H) (hid S H4) → Iv H4 → R i y (hid S H4) → C y H4) →
      g x (wipe σ vs) H' fun σ2 H2 => wipe σ2 vs = wipe σ vs ∧ te σ2 H2 C)
    (hd : ∀ H ys, Ext (hid S H1) (hid S H) → Iv H → H D = some (.lst ys) → ys.length = n → (∀ j y, ys[j]? = some y → R j y (hid S H)) → Qd H) :
    ∃ W : Nat → Nat → Hp → Prop, (∃ m, W 0 m (upd H1 D (.lst []))) ∧ ∀ i m H, W i m H →
      (J.stop i H ∧ Qd H) ∨ (J.go i H ∧ ∃ Nx : Hp → Prop, (∀ H', Nx H' → ∃ m', m' < m ∧ W (i + 1) m' H') ∧ ∀ x H', J.yld i H x H' → g x (wipe σ vs) H' fun σ2 H2 => wipe σ2 vs = wipe σ vs ∧ tYes σ2 H2 fun b H3 =>
        if b = true then te σ2 H3 fun y H4 => ∃ acc, H4 D = some (.lst acc) ∧ acc.length < sizeLine ∧ Nx (upd H4 D (.lst (acc ++ [y]))) else Nx H3) := by
  refine lc_it w (fun i H => ∃ ys : List V, H D = some (.lst ys) ∧ ys.length = i ∧ Ext (hid S H1) (hid S H) ∧ Iv H ∧ ∀ j y, ys[j]? = some y → R j y (hid S H))
    ⟨[], upd_same, rfl, by rw [hid_upd hS]; exact Ext.rfl', h0, fun j y e => by simp at e⟩ (fun i H _ ⟨_, _, _, e, iv, _⟩ => hG H e iv) ?_ ?_
  · rintro i x H H' hi ⟨ys, hD, hl, e, iv, r⟩ y
    refine hs i x H H' ys _ hi e iv hD y fun v H4 h4 e4 iv4 r4 => ?_
    refine ⟨ys, h4, Nat.lt_of_le_of_lt (show ys.length ≤ 100000 by omega) (by decide), ys ++ [v], upd_same, by rw [List.length_append, hl]; rfl, by rw [hid_upd hS]; exact e.trans e4, hIv _ _ iv4, fun j z hz => ?_⟩
    rw [hid_upd hS]
    by_cases hj : j < ys.length
    · rw [List.getElem?_append_left hj] at hz
      exact hm j z _ _ e4 (r j z hz)
    · rw [List.getElem?_append_right (by omega)] at hz
      have : j = i := by
        cases q : j - ys.length with
        | zero => omega
        | succ k => rw [q] at hz; simp at hz
      subst this
      rw [hl] at hz
      simp at hz
      subst hz
      exact r4
  · rintro H ⟨ys, hD, hl, e, iv, r⟩
    exact hd H ys e iv hD hl r
end
end Ls
end
section
set_option Elab.async false
set_option linter.all false
set_option maxRecDepth 100000
set_option maxHeartbeats 4000000
namespace Ls
open PySem PySem.Spec PyProof.Rows L2

/-! ### an exception that is kept as a value -/
/-- at a: an exception of the class cls, its dict at d -/
def exk (a : Addr) (cls : Value) (d : Option Addr) : HO := .ext fun h => ∃ (oe : Obj) (vs : Array Value), h.get? a = some oe ∧ Zc cls d oe ∧ oe.data = .fields vs
theorem exk_ok {P : Program} {w : World} {H : Hp} {h : Heap} {a : Addr} {cls : Value} {d : Option Addr} {oe : Obj} {vs : Array Value} (e : h.get? a = some oe) (z : Zc cls d oe) (q : oe.data = .fields vs) : ObjOk P w H h a (exk a cls d) :=
  ⟨⟨oe, vs, e, z, q⟩, ⟨oe, e⟩, fun _ _ ⟨o, v, q, r⟩ k => ⟨o, v, k o q, r⟩⟩
theorem exk_at {P : Program} {w : World} {H : Hp} {h : Heap} {a : Addr} {cls : Value} {d : Option Addr} (hok : HOk P w H h) (e : H a = some (exk a cls d)) : ∃ (oe : Obj) (vs : Array Value), h.get? a = some oe ∧ Zc cls d oe ∧ oe.data = .fields vs := by
  have x : ObjOk P w H h a (.ext fun h => ∃ (oe : Obj) (vs : Array Value), h.get? a = some oe ∧ Zc cls d oe ∧ oe.data = .fields vs) := hok a _ e
  exact x.1
section
variable {X : Cx} {pins : List (Addr × Obj)} {σ : L2.St} {H : Hp} {s : Shared}
/-- an object that stands and is not known from before is tracked from now on -/
theorem inv_track {a : Addr} {o : HO} (I : Inv X pins σ H s) (hn : H a = none) (h0 : X.s_0.heap.get? a = none) (hl : a ≠ X.env.locals) (hc : ∀ x c, X.env.cells.lookup x = some c → c ≠ a) (hp : ∀ p ∈ X.pn ++ pins, p.1 ≠ a)
    (new : ObjOk X.prog X.w (upd H a o) s.heap a o) : Inv X pins σ (upd H a o) s := by
  have n0 : ∀ b u, X.s_0.heap.get? b = some u → b ≠ a := fun b u e z => by
    rw [z, h0] at e
    cases e
  refine ⟨I.ok, I.os, I.bare, ⟨I.base.keep, I.base.slot, fun b u e n hq => ?_, I.base.there, fun b xs e => ?_, fun b u v e => ?_, fun b ps e => ?_⟩, I.loc, I.cell, ?_, fun x c e => ?_, fun p q => ?_, I.hok.laidN (fun _ _ z => z) hn new, I.len⟩
  · rw [upd_ne (n0 b u e)]
    exact I.base.free b u e n hq
  · have q := I.base.tups b xs e
    rw [upd_ne (ne_of_none q hn)]
    exact q
  · have q := I.base.frzs b u v e
    rw [upd_ne (ne_of_none q hn)]
    exact q
  · obtain ⟨m, q⟩ := I.base.tbls b ps e
    exact ⟨m, by rw [upd_ne (ne_of_none q hn)]; exact q⟩
  · rw [upd_ne (Ne.symm hl)]
    exact I.free
  · rw [upd_ne (hc x c e)]
    exact I.freeC x c e
  · obtain ⟨z1, z2, z3⟩ := I.pin p q
    exact ⟨z1, by rw [upd_ne (hp p q)]; exact z2, z3⟩
theorem inv_suite0 (I : Inv X pins σ H s) (a : Addr) : Inv (X.suite a (X.pn ++ pins)) [] σ H s :=
  ⟨I.ok.suite _ _, I.os, I.bare, I.base, I.loc, I.cell, I.free, I.freeC, fun p hp => I.pin p (by rw [List.append_nil] at hp; exact hp), I.hok, I.len⟩
theorem inv_unsuite0 {a : Addr} {pn' : List (Addr × Obj)} (I : Inv (X.suite a (X.pn ++ pins)) pn' σ H s) (ok : X.Ok) : Inv X pins σ H s :=
  ⟨ok, I.os, I.bare, I.base, I.loc, I.cell, I.free, I.freeC, fun p hp => I.pin p (List.mem_append_left _ hp), I.hok, I.len⟩
end
/-- what the clause 'except x as n' wishes, the exception tracked in the suite and behind it -/
def wAsk (K : PySem.W.Frag) (c : Value) (i : Nat) (ts : TS) (Wout : WX) (D : Ends) : WX := fun cls d σ H =>
  ∃ b, PySem.W.exmOne K cls c = some b ∧ (b = true → ∀ a, H a = none → ts { nx := fun σ' H' => D.nx (σ'.set i none) H', rt := D.rt, bk := fun σ' H' => D.bk (σ'.set i none) H', ct := fun σ' H' => D.ct (σ'.set i none) H' } (σ.set i (some (.ref a))) (upd H a (exk a cls d))) ∧
    (b = false → Wout cls d σ H)
section
variable {X : Cx} {x n : Str} {c : Value} {i : Nat} {body suite : List Stmt} {b₀ : Stmt} {np pos pos' : Pos} {tb : WX → TS} {ts : TS} {Wout : WX}
theorem ps_try_ask (hs : X.stack = X.env :: X.outer) (hf : X.env.frame = some X.env.locals) (hN : X.N.Nodup) (hi : X.N[i]? = some n) (hln : X.env.kindOf n = some .local) (hc : Names X x c) (tk : Takes X Wout) (hx : X.ex = [])
    (hb : ∀ (W : WX) (pn : List (Addr × Obj)) (xe : Value → Shared → Prop), Takes (X.tr pn xe) W → PassesOwn (model X.prog X.w) X.A X.env xe → PSs (X.tr pn xe) body (tb W))
    (hsu : ∀ (a : Addr) (pn : List (Addr × Obj)), PSs (X.suite a pn) (b₀ :: suite) ts) :
    PS X (.Try body [.ExceptHandler (some (.Name x np)) (some n) (b₀ :: suite) pos'] [] [] pos) (fun D σ H => tb (wAsk X.K c i ts Wout D) D σ H) := by
  refine ⟨fun pins s σ H D I h => ?_⟩
  have ok := I.ok
  have hfr : X.A.frames = some (X.env :: X.outer) := by rw [ok.frames, hs]
  refine wpAny_Try_except ?_
  refine wpAny_mono ((hb (wAsk X.K c i ts Wout D) (X.pn ++ pins) (fun e s₁ => wpAny (model X.prog X.w) X.A (noteFrame e X.env) (fun _ s₂ => wpAny (model X.prog X.w) X.A (setFlight e none) (fun _ s₃ =>
    wpAny (model X.prog X.w) X.A (handleBy e X.env [.ExceptHandler (some (.Name x np)) (some n) (b₀ :: suite) pos']) (SP X pins D) X.xe s₃) X.xe s₂) X.xe s₁) (fun u s' xx => ?_) PassesOwn.looking).run [] s σ H D (I.toTry _) h) (fun f s1 hsp => ?_) (fun e s1 he => he)
  · obtain ⟨a, B, sI, pins', σ', H', cls, d, rfl, J', nb, up, sky, na, os, ag, b, hb1, hyes, hno⟩ := xx
    have J : Inv X pins σ' H' sI := J'.ofTry ok
    have sky' : Sky B (X.env :: X.outer) a (Zc cls d) X.env.locals s'.heap := by rw [← hs]; exact sky
    show wpAny (model X.prog X.w) X.A (noteFrame (.ref a) X.env) _ _ _
    refine Sky.land Zc.steady hfr hf sky' fun h3 fl3 up3 => ?_
    have J3 : Inv X pins σ' H' { s' with heap := h3 } := J.landed nb fl3.1 (up.trans up3) os ag
    obtain ⟨oe3, vs3, he3, hz3, hd3⟩ := fl3.there
    have nfr : a ∉ frs (X.env :: X.outer) := fun hm => by
      obtain ⟨_, o', e', hnf⟩ := fl3.2.2.1.mem hm
      rw [he3] at e'
      cases e'
      exact hnf _ hd3
    have nL : a ≠ X.env.locals := fun z => nfr (List.mem_filterMap.mpr ⟨X.env, List.mem_cons_self, by rw [hf, z]⟩)
    have nI : sI.heap.get? a = none := by
      cases q : sI.heap.get? a with
      | none => rfl
      | some o =>
        have z := nb a o q (by rw [hs]; exact nfr)
        rw [fl3.2.1] at z
        cases z
    have hexe : ∀ b o, X.s_0.heap.get? b = some o → b ∈ X.ex → False := fun b o e hb => by
      rw [hx] at hb
      cases hb
    have n0 : X.s_0.heap.get? a = none := by
      cases q : X.s_0.heap.get? a with
      | none => rfl
      | some o =>
        obtain ⟨o', z⟩ := J.base.there a o q (fun z => hexe a o q z)
        rw [nI] at z
        cases z
    have LT : PySem.W.Looks (model X.prog X.w) h3 (typeOf (.ref a)) cls := fun A Q E s k q => wpAny_typeOf_ref (k _ _ he3) (by rw [hz3.1]; exact q)
    have LM := PySem.W.exm_one (M := model X.prog X.w) (J3.kIn) LT hb1
    have S3 := inv_suite0 J3 a
    refine wpAny_handleBy_cons (codeAny_handlers_test ?_) (by intro q; cases q)
    have test : ∀ {Q : Value → Shared → Prop} {E : Value → Shared → Prop}, Q c { s' with heap := h3 } → wpAny (model X.prog X.w) (X.A.mark (some (.ref a))) (eval (.Name x np) X.env) Q E { s' with heap := h3 } := fun {Q E} q => by
      obtain ⟨hg, hdbg, hm | ⟨hm, hv, hnn⟩⟩ := hc
      · exact ld_glob (X := X.suite a (X.pn ++ pins)) S3 hg hm q hdbg
      · exact ld_blt (X := X.suite a (X.pn ++ pins)) S3 hg hm hv q hnn hdbg
    refine test (LM.here ?_)
    cases b with
    | true =>
      refine codeAny_handlers_suite_as ?_
      refine HandSPX.lands_againZ fl3 fun h4 fl4 up4 => ?_
      have J4 : Inv X pins σ' H' { s' with heap := h4 } := J.landed nb fl4.1 ((up.trans up3).trans up4) os ag
      obtain ⟨oe4, vs4, he4, hz4, hd4⟩ := fl4.there
      have T4 : Inv X pins σ' (upd H' a (exk a cls d)) { s' with heap := h4 } := inv_track J4 na n0 nL (fun y c e z => by
          obtain ⟨v, o, ho, _⟩ := J.cell y c e
          rw [z, nI] at ho
          cases ho) (fun p hp z => by
          have q := (J.pin p hp).1
          rw [z, nI] at q
          cases q) (exk_ok he4 hz4 hd4)
      have S4 := inv_suite0 T4 a
      refine store_ok (X := X.suite a (X.pn ++ pins)) (v := .ref a) S4 hN hi (.inl hln) rfl (fun s5 S5 => ?_) (.inr hln)
      refine wpAny_mono ((hsu a (X.pn ++ pins)).run [] s5 _ _ _ S5 (hyes rfl a na)) (fun f s6 hsp => ?_) (fun _ _ z => False.elim z)
      have fin : ∀ {σ6 : L2.St} {H6 : Hp} {Q : Shared → Prop}, Inv (X.suite a (X.pn ++ pins)) [] σ6 H6 s6 → (∀ s7, Inv X pins (σ6.set i none) H6 s7 → Q s7) →
          wpAny (model X.prog X.w) X.A (do bindName X.env n .none; unbindBehindTheSuite X.env n pos') (fun _ s7 => Q s7) X.xe s6 := fun {σ6 H6 Q} S6 hq => gone_ok (inv_unsuite0 S6 ok) hN hi hln hq
      cases f with
      | next =>
        obtain ⟨σ6, H6, S6, q6⟩ := hsp
        exact fin S6 fun s7 J7 => ⟨_, _, J7, q6⟩
      | brk =>
        obtain ⟨σ6, H6, S6, q6⟩ := hsp
        exact fin S6 fun s7 J7 => ⟨_, _, J7, q6⟩
      | cont =>
        obtain ⟨σ6, H6, S6, q6⟩ := hsp
        exact fin S6 fun s7 J7 => ⟨_, _, J7, q6⟩
      | ret u =>
        obtain ⟨v6, σ6, H6, S6, r6, q6⟩ := hsp
        exact fin S6 fun s7 J7 => ⟨_, _, _, J7, r6, q6⟩
    | false =>
      show wpAny _ X.A (handleBy (.ref a) X.env []) _ _ _
      refine wpAny_handleBy_nil ?_
      obtain ⟨k1, k2, k3, oe, vs, T, oT, ts', he, hz, hd, h1, hr⟩ := id fl3
      unfold PySem.passOn
      refine wpAny_bind (wpAny_field he hd h1 ?_)
      rw [if_neg (show ¬ ((Value.ref T == Value.none) = true) from by simp)]
      have last : wpAny (model X.prog X.w) X.A (setFlight (.ref a) X.env.frame) (fun _ s4 => wpAny (model X.prog X.w) X.A (throw (.ref a) : Sem Flow) (SP X pins D) X.xe s4) X.xe { s' with heap := h3 } := by
        rw [hf]
        refine HandSPX.setFlight_upZ fl3 fun h4 hh4 up4 => wpAny_throw (tk _ _ ?_)
        exact ⟨a, B, sI, pins, σ', H', cls, d, rfl, J, nb, (up.trans up3).trans up4, .inr (.inr (by rw [hs]; exact hh4)), na, os, ag, hno rfl⟩
      first
        | exact wpAny_bind (wpAny_pure (wpAny_bind last))
        | exact wpAny_bind last
  · cases f with
    | next =>
      obtain ⟨σ', H', J', q⟩ := hsp
      exact wpAny_execs_nil ⟨σ', H', J'.ofTry ok, q⟩
    | brk =>
      obtain ⟨σ', H', J', q⟩ := hsp
      exact ⟨σ', H', J'.ofTry ok, q⟩
    | cont =>
      obtain ⟨σ', H', J', q⟩ := hsp
      exact ⟨σ', H', J'.ofTry ok, q⟩
    | ret u =>
      obtain ⟨v, σ', H', J', r, q⟩ := hsp
      exact ⟨v, σ', H', J'.ofTry ok, r, q⟩
end

/-! ### C(..) as a value; isinstance and fields of a kept exception -/
section
variable {X : Cx} {e : Expr}
theorem pe_mkx {t : L2.St → Hp → XK → Prop} (h : PMk X e t) : PE X e (fun σ H Q => t σ H fun cls d H' => ∀ a, H' a = none → Q (.ref a) (upd H' a (exk a cls d))) := by
  refine ⟨fun pins s σ H Q I hh => ?_⟩
  refine wpAny_mono (h pins s σ H _ I hh) (fun u s1 hu => ?_) fun _ _ x => x
  obtain ⟨a, oe, vs, sI, H', cls, d, rfl, J, k, hne, ha, hz, hd, h1, na, os, ag, r, q⟩ := hu
  have J2 : Inv X pins σ H' { sI with heap := sI.heap, gens := s1.gens, drawn := s1.drawn, toks := s1.toks } := J.call (ch := []) (Un.kept fun _ _ z => z) J.hok ag (fun _ z => nomatch z)
  have J3 := J2.laidN (h' := s1.heap) (a := a) (o := exk a cls d) (t' := s1.toks) k hne na (exk_ok ha hz hd)
  obtain ⟨a1, a2, a3, a4, a5⟩ := s1
  have e5 : a5 = sI.os := os
  subst e5
  exact ⟨.ref a, _, J3, rfl, q a na⟩
/-- isinstance(e, c), e a kept exception -/
def rIsX (K : PySem.W.Frag) : List V → Hp → VK → Prop := fun xs H Q => ∃ (a D : Addr) (d : Option Addr) (c : V) (cv : Value) (b : Bool), xs = [.ref a, c] ∧ H a = some (exk a (.ref D) d) ∧ ExcC K D ∧ (∀ dd, d = some dd → ∃ fs, H dd = some (.xd fs)) ∧ (∀ u, RelV c u → u = cv) ∧ PySem.W.kitOne K (.ref D) cv = some b ∧ Q (.bl b) H
theorem inst_of {pins : List (Addr × Obj)} {σ : L2.St} {H : Hp} {s : Shared} {a D : Addr} {d : Option Addr} (I : Inv X pins σ H s) (ea : H a = some (exk a (.ref D) d)) (hd : ∀ dd, d = some dd → ∃ fs, H dd = some (.xd fs)) : ∃ oe od, PySem.W.InstAt s.heap a oe D od := by
  obtain ⟨oe, vs, ho, hz, hv⟩ := exk_at I.hok ea
  cases d with
  | none =>
    refine ⟨oe, none, ?_⟩
    obtain ⟨oc, od, oda, osl⟩ := oe
    obtain ⟨h1, h2⟩ := hz
    dsimp only at h1 h2 hv
    subst h1 h2 hv
    exact ⟨ho, rfl, rfl, trivial⟩
  | some dd =>
    obtain ⟨fs, ed⟩ := hd dd rfl
    obtain ⟨mA, hns, hr⟩ := (show ObjOk X.prog X.w H s.heap dd (.xd fs) from I.hok dd _ ed)
    obtain ⟨od, hod, hl⟩ := lookIn_ns hns
    exact ⟨oe, some od, ho, hz.1, by unfold PySem.W.notCls; rw [hv] <;> rfl, by rw [hz.2]; exact hod⟩
theorem call_isX : CallR X (.builtin "isinstance") (rIsX X.K) := by
  intro pins s σ H xs us Q I r h
  obtain ⟨a, D, d, c, cv, b, rfl, ea, C, hd, hcv, e, q⟩ := h
  obtain ⟨u1, u2, rfl, r1, r2⟩ := vals2 r
  cases (show u1 = Value.ref a from r1)
  have ec := hcv _ r2
  subst ec
  obtain ⟨oe, od, J⟩ := inst_of I ea hd
  have hcl : (PySem.W.clsIn X.K D).isSome = true := by
    obtain ⟨cd, hc, _⟩ := PySem.W.any_some C.hd
    rw [hc]
    rfl
  exact PySem.W.kia_one (PySem.W.kitx_exc hcl C.hg C.hk C.hs C.ha C.hn C.ht C.hm) I.kIn J e (fun z => nomatch z) fun tk => ⟨.bl b, H, I.kept (t' := tk) fun _ _ z => z, rfl, q⟩
/-- e.f, e a kept exception -/
def tXk (K : PySem.W.Frag) (f : Str) (te : TE) : TE := fun σ H Q => te σ H fun x H1 => ∃ (a C dd : Addr) (fs : List (Str × V)) (v : V), x = .ref a ∧ H1 a = some (exk a (.ref C) (some dd)) ∧ XfC K C ∧ PySem.W.findIn K (.ref C) f = some none ∧ H1 dd = some (.xd fs) ∧ fs.lookup f = some v ∧ Q v H1
theorem pe_xk {te : TE} {pos : Pos} {n : Str} (he : PE X e te) (hb : attributeBase e n X.env (eval e X.env) = eval e X.env := by rfl) : PE X (.Attribute e n pos) (tXk X.K n te) := by
  refine ⟨fun pins s σ H Q I h => ?_⟩
  refine attr_of hb (thn (he.run pins s σ H _ I h) fun u s1 hh => ?_)
  obtain ⟨x, H1, I1, rx, a, C, dd, fs, v, ex, ea, T, hno, ed, l, q⟩ := hh
  subst ex
  obtain rfl : u = Value.ref a := rx
  obtain ⟨oe, vs, ho, hz, hv⟩ := exk_at I1.hok ea
  obtain ⟨mA, hns, hr⟩ := (show ObjOk X.prog X.w H1 s1.heap dd (.xd fs) from I1.hok dd _ ed)
  obtain ⟨od, hod, hl⟩ := lookIn_ns hns
  obtain ⟨u, hu, ru⟩ := RelO.some_of (v := v) (o := mA n) (by rw [← l]; exact hr n)
  have J : PySem.W.InstAt s1.heap a oe C (some od) := ⟨ho, hz.1, by unfold PySem.W.notCls; rw [hv] <;> rfl, by rw [hz.2]; exact hod⟩
  exact HandSPX.exc_get I1.kIn J T.ga T.gg T.exC (PySem.W.findObj_own T.hdC hno rfl (by rw [hl, hu])) (handed_of ru) ⟨v, H1, I1.tok _, ru, q⟩
end

/-! ### super().__init__(..) of an own error class over ValueError -/
namespace SE
open PySem.W
abbrev wv (x : Addr) : Obj := { cls := .type "method-wrapper", dict := none, data := .fields #[.builtin "ValueError.__init__", .ref x], slots := #[] }
theorem ty_vi : typeOf (.builtin "ValueError.__init__") = pure (.type "wrapper_descriptor") := by
  show builtinType _ = _
  rw [builtinType_eq_fast]
  kernel_rfl
theorem nc_vi : (kfb_private% "nameAndClass") (Value.builtin "ValueError.__init__") = (pure (("__init__" : Str), Value.type "ValueError") : Sem (Str × Value)) := by kernel_rfl
section
variable {prog : Program} {w : World} {M : Model} {A : Around} {E : Value → Shared → Prop} {h : Heap} {g : Array GenState} {dr : Drawn} {t : Nat} {os : OsState}
theorem bind_vi {x C : Addr} {P : Fin → Shared → Prop} (hin : Looks M h (isInstance (.ref x) (.type "ValueError")) true) (hq : P (.done (.ret (.ref h.objs.size))) ⟨h.push (wv x), g, dr, t, os⟩) :
    wpAny M A (Builtin.«wrapper_descriptor.__get__» ⟨[.builtin "ValueError.__init__", .ref x, .ref C], []⟩) P E ⟨h, g, dr, t, os⟩ := by
  unfold Builtin.«wrapper_descriptor.__get__»
  refine wpAny_bind (wpAny_of_eq (a := (.builtin "ValueError.__init__", some (.ref x), some (.ref C))) (by first | rfl | kernel_rfl) ?_)
  show wpAny M A ((kfb_private% "checkInstance") (.builtin "ValueError.__init__") (.ref x) >>= fun _ => newFields "method-wrapper" [.builtin "ValueError.__init__", .ref x] >>= fun r => ret r) P E _
  refine wpAny_bind ?_
  show wpAny M A ((kfb_private% "nameAndClass") (.builtin "ValueError.__init__") >>= _) _ E _
  refine wpAny_bind (wpAny_of_eq nc_vi ?_)
  show wpAny M A (isInstance (.ref x) (.type "ValueError") >>= _) _ E _
  refine wpAny_bind (hin.at (KFB.if_not rfl (wpAny_pure ?_)))
  exact wpAny_bind (wpAny_newObj_type (wpAny_pure hq))
theorem super_gav {so D x C : Addr} {l₀ l : List Value} {K : Frag} {name : Str} {tk : Tok} {Q : Fin → Shared → Prop}
    (hso : h.get? so = some { cls := .type "super", dict := none, data := .fields #[.ref D, .ref x, .ref C], slots := #[] }) (hno : Looks (model prog w) h (opaqueClassAbove (.ref C)) none)
    (hC : Looks (model prog w) h (mroOf (.ref C)) l₀) (hl : (l₀.dropWhile (· != .ref D)).drop 1 = l) (X : K.In h)
    (hf : alongIn K name l = some (some (.builtin "ValueError.__init__"))) (hxC : x ≠ C) (hn : (name == ("__class__" : Str)) = false) (hin : Looks (model prog w) h (isInstance (.ref x) (.type "ValueError")) true)
    (hq : Q (.done (.ret (.ref h.objs.size))) ⟨h.push (wv x), g, dr, t, os⟩) :
    wpAny (model prog w) A (Builtin.«super.__getattribute__» ⟨[.ref so, .str name tk], []⟩) Q E ⟨h, g, dr, t, os⟩ := by
  have hlk := ESX.slot_wd.lookup
  have ner : (Value.ref x == Value.ref C) = false := by simp [hxC]
  have hTf := ty_vi
  have hTi : Shared.TypeIs ⟨h, g, dr, t, os⟩ (.builtin "ValueError.__init__") "wrapper_descriptor" := ty_vi
  have dso : ({ cls := .type "super", dict := none, data := .fields #[.ref D, .ref x, .ref C], slots := #[] } : Obj).data = .fields #[.ref D, .ref x, .ref C] := rfl
  have q0 : (#[.ref D, .ref x, .ref C] : Array Value)[0]? = some (.ref D) := rfl
  have q1 : (#[.ref D, .ref x, .ref C] : Array Value)[1]? = some (.ref x) := rfl
  have q2 : (#[.ref D, .ref x, .ref C] : Array Value)[2]? = some (.ref C) := rfl
  unfold Builtin.«super.__getattribute__»
  repeat (first
    | (with_reducible refine wpAny_field hso dso q0 ?_) | (with_reducible refine wpAny_field hso dso q1 ?_) | (with_reducible refine wpAny_field hso dso q2 ?_)
    | (with_reducible refine ks_wpAny_notOpaque hno ?_)
    | (with_reducible refine Looks.at hC ?_; rw [hl])
    | (refine ks_forIn_along X (fun _ _ => rfl) rfl ?_ hf)
    | (with_reducible refine wpAny_call_entry ESX.slot_wd hTi ESX.entry_wd ?_ (ESX.args_wd _ _ _))
    | (with_reducible refine bind_vi hin ?_)
    | (with_reducible refine ⟨_, rfl, ?_⟩)
    | (simp only [hn, ner, Bool.or_false, Bool.false_eq_true, if_false])
    | wp_step
    | dsimp only)
  all_goals exact hq
theorem getMethod_superv {so D x C : Addr} {l₀ l : List Value} {K : Frag} {name : Str} {pl : Sem Bool} {Q : Value × List Value → Shared → Prop}
    (hso : h.get? so = some { cls := .type "super", dict := none, data := .fields #[.ref D, .ref x, .ref C], slots := #[] }) (hno : Looks (model prog w) h (opaqueClassAbove (.ref C)) none)
    (hC : Looks (model prog w) h (mroOf (.ref C)) l₀) (hl : (l₀.dropWhile (· != .ref D)).drop 1 = l) (X : K.In h)
    (hf : alongIn K name l = some (some (.builtin "ValueError.__init__"))) (hxC : x ≠ C) (hn : (name == ("__class__" : Str)) = false) (hin : Looks (model prog w) h (isInstance (.ref x) (.type "ValueError")) true)
    (hq : Q (.ref h.objs.size, []) ⟨h.push (wv x), g, dr, t + 1, os⟩) :
    wpAny (model prog w) A (getMethod (.ref so) name pl) Q E ⟨h, g, dr, t, os⟩ := by
  have hlk := F.ks_slot_super_ga.lookup
  have hT : ∀ t', (⟨h, g, dr, t', os⟩ : Shared).TypeIs (.ref so) "super" := fun _ => ⟨_, hso, rfl⟩
  unfold getMethod
  refine wpAny_bind (wpAny_specialOf (hT _) hlk ?_)
  show wpAny _ _ (if (Manifest.canonical "super.__getattribute__" != "object.__getattribute__") = true then _ else _) _ _ _
  rw [if_pos F.ks_canon_super_ga]
  unfold getAttr getAttrBy
  refine wpAny_bind (wpAny_bind (wpAny_mkText (wpAny_holding (wpAny_bind (wpAny_typeOf (hT _) (wpAny_bind (wpAny_of_eq hlk ?_)))))))
  show wpAny _ _ (getAttrByItsOwn (.ref so) (.str name t) (.type "super") (.builtin "super.__getattribute__") true false) _ _ _
  unfold getAttrByItsOwn hookBefore callGetattribute boundAndCalled
  refine wpAny_bind (wpAny_of_eq (show (if onTheHeap (.type "super") then typeLookup (.type "super") "__getattr__" else pure none) = pure none from rfl) (wpAny_bind (wpAny_attempt (wpAny_holding ?_))))
  show wpAny _ _ (bindSpecial (.builtin "super.__getattribute__") (.ref so) >>= _) _ _ _
  refine wpAny_bind (wpAny_of_eq (F.ks_slot_super_ga.bind _) ?_)
  refine wpAny_mono (Q := fun v s' => v = .ref h.objs.size ∧ s' = ⟨h.push (wv x), g, dr, t + 1, os⟩) (E := fun _ _ => False)
    (wpAny_call_entry F.ks_slot_super_ga (hT _) F.ks_entry_super_ga (super_gav hso hno hC hl X hf hxC hn hin ⟨_, rfl, rfl, rfl⟩) (F.ks_gaArgs_super _ _)) (fun v s' hv => ?_) fun _ _ z => z.elim
  obtain ⟨rfl, rfl⟩ := hv
  exact wpAny_pure (wpAny_pure hq)
end
section
open PySem.Calls
variable {prog : Program} {w : World} {M : Model} {A : Around} {E : Value → Shared → Prop} {s : Shared}
theorem callWith_wv {pos : Pos} {u x : Addr} {env : Env} {e : Expr} {rest : List Expr} {Q : Value → Shared → Prop}
    (h : wpAny M A (spliced (backTo pos (starEach (e :: rest) env))) (fun vs s₁ => s₁.heap.get? u = some (wv x) ∧ wpAny M A (call (.ref u) vs) Q E s₁) E s)
    (he : starEach (e :: rest) env = (false, eval e env) :: starEach rest env) (hplain : (backTo pos (starEach rest env)).any (·.1) = false) :
    wpAny M A (callWith pos (.ref u) [] (backTo pos (starEach (e :: rest) env)) []) Q E s := by
  rw [he] at h ⊢
  have hp : (backTo pos ((false, eval e env) :: starEach rest env)).any (·.1) = false := by
    show (false || (backTo pos (starEach rest env)).any (·.1)) = false
    rw [hplain]
    rfl
  have h2 : wpAny M A (evalArgs (.ref u) true (backTo pos ((false, eval e env) :: starEach rest env)) []) (fun a s₁ => s₁.heap.get? u = some (wv x) ∧ wpAny M A (call (.ref u) ([] ++ a.pos) a.kw) Q E s₁) E s := evalArgs_plain h
  unfold callWith
  refine wpAny_bind (wpAny_holding (wpAny_mono h2 (fun a s₁ h₁ => wpAny_bind (wpAny_standAt ?_)) fun _ _ x => x))
  obtain ⟨ho, hcall⟩ := h₁
  simp only [hp, List.any_nil, Bool.or_false]
  refine wpAny_bind (m := keeperOf (.ref u)) ?_
  unfold keeperOf
  refine wpAny_bind (wpAny_load ho ?_)
  simp only [wv, show (Value.type "method-wrapper" != Value.type "method") = true by decide, show (Value.type "method-wrapper" == Value.type "builtin_function_or_method" || Value.type "method-wrapper" == Value.type "method-wrapper") = true by decide, if_true]
  refine wpAny_pure ?_
  exact wpAny_bind (wpAny_mono hcall (fun r s₂ hr => wpAny_bind (wpAny_holding (wpAny_point (wpAny_pure hr)))) fun _ _ x => x)
end
section
variable {prog : Program} {w : World} {A : Around} {E : Value → Shared → Prop} {h : Heap} {g : Array GenState} {dr : Drawn} {t : Nat} {os : OsState}
variable {nm q : Str} {C N : Addr} {bs bm : List Value} {hdct : Bool} {sn : List Str} {sub : List Value} {ab : Bool} {col : Option Bool} {dd : Option Addr} {k0 k1 k2 k3 k5 : Option Value}
theorem call_wv {u e t0 : Addr} {rest : List Value} {Q : Value → Shared → Prop}
    (hC : h.get? C = some (excClassObj nm q C N bs bm hdct sn sub ab col dd k0 k1 k2 k3 k5 "ValueError.__new__")) (he : h.get? e = some (HandSPX.excO C t0)) (hu : h.get? u = some (wv e)) (hrest : rest.length ≤ sizeLine)
    (hq : ∀ h' t1, (∀ b o, b ≠ e → h.get? b = some o → h'.get? b = some o) → h'.get? e = some (HandSPX.excO C t1) → Q .none ⟨h', g, dr, t, os⟩) :
    wpAny (model prog w) A (call (.ref u) rest) Q E ⟨h, g, dr, t, os⟩ := by
  refine wpAny_call (codeAny_of_tree ?_)
  show wpAny _ A.in1 (callAny (.ref u) ⟨rest, []⟩) _ _ _
  simp only [callAny]
  refine wpAny_bind (wpAny_load hu ?_)
  simp only [wv, show (Value.type "method-wrapper" == Value.type "method" || Value.type "method-wrapper" == Value.type "builtin_function_or_method" || Value.type "method-wrapper" == Value.type "method-wrapper") = true by decide, if_true]
  refine W.KFB.if_so (by decide) ?_
  refine wpAny_bind (ESX.check_bound F.excBase_ValueError hC he rfl (wpAny_bind (wpAny_pure (wpAny_pure ?_))))
  refine ⟨Code.quiet_builtin _ (by decide +kernel), codeAny_builtin F.excBase_ValueError.initEntry ?_⟩
  rw [Around.under_plainId F.excBase_ValueError.init.plain _]
  wp_walk
  refine hq _ h.objs.size (fun b o hb ho => ?_) ?_
  · rw [Heap.get?_update_other _ _ (Ne.symm hb)]
    exact Heap.get?_push_of_some _ ho
  · rw [Heap.get?_update_self _ (Heap.get?_push_of_some _ he) rfl]
    rfl
end
end SE

/-- what the written part says for super().__init__ in a def of the error class at D, of an instance of the class at C -/
structure SupE (P : Program) (K : PySem.W.Frag) (mg : Str → Option Value) (C D cc cda : Addr) : Prop where
  cell : ∃ cl cld csl, K.lookup cc = some ⟨cl, cld, .cell (some (.ref D)), csl⟩
  code : ∃ ccl cdd vs ccs file tf, K.lookup cda = some ⟨ccl, cdd, .fields vs, ccs⟩ ∧ vs[2]? = some (.str file tf) ∧ ((P.main.file : Str) == file) = true
  clD : ∃ cdD, PySem.W.clsIn K D = some cdD
  sub : PySem.W.mroIn K C (.ref D) = some true
  suv : PySem.W.mroIn K C (.type "ValueError") = some true
  sup : mg "super" = none
  top : (P.main.scope.names.lookup ("super" : Str)).isSome = false
  any : PySem.W.nsIn K cStatics "thirdparty.any" = some none
  fnd : PySem.W.ks_superIn K C D "__init__" = some (some (.builtin "ValueError.__init__"))
  oex : OexC K C

section
variable {CX : CXT} {P : Program} {w : World} {K : PySem.W.Frag} {mg : Str → Option Value} {base : Heap} {k : Nat} {f cc cda : Addr} {name qual : Str} {params : Arguments} {scope : Scope} {dV kV doc pm ct oc : Value} {an od : Option Addr}
    {osl : Array (Option Value)} {N ps : List Str} {sp : Sp} {e : PySem.Expr} {es : List PySem.Expr} {rest : List Stmt} {p0 p1 apos pos epos : Pos} {pl : Sem Bool}
theorem fn_superE (lk : K.lookup f = some ⟨oc, od, .func (PySem.W.ksFn name qual params (.Expr (.Call (.Attribute (.Call (.Name "super" p0) [] [] p1) "__init__" apos) (e :: es) [] pos) epos :: rest) scope dV kV doc pm an (.ref cda) ct cc), osl⟩)
    (hcd : PySem.W.codeIn K (.ref cda) qual = true) (S : ScS N ps scope)
    {ar : Arg} (hp0 : (params.posonlyargs ++ params.args).head? = some ar) (hps : ps.head? = some ar.arg) (har : scope.names.lookup ar.arg = some .local)
    (hks : scope.names.lookup ("super" : Str) = some .globalImplicit) (hkc : scope.names.lookup ("__class__" : Str) = some .free)
    (len : ∀ vs H Q E, sp vs H Q E → vs.length = ps.length)
    (hbody : ∀ (A : Around) (outer : List Env) (s : Shared) (H : Hp) (vs : List V) (Q : VK) (E : XK), Room k (A.deeper (PySem.W.ksEnv qual scope s.heap.objs.size f (.ref cda) cc)) → sp vs H Q E →
      ∃ (x C D : Addr) (vs' : List V) (ta : TA) (u : TS), vs = .ref x :: vs' ∧ H x = some (exo x C none) ∧ SupE P K mg C D cc cda ∧
        PA (cxS CX P w K mg base N qual scope f (.ref cda) cc A outer s H E) (e :: es) ta ∧
        PSs (cxS CX P w K mg base N qual scope f (.ref cda) cc A outer s H E) rest u ∧
        ta (start N vs) H (fun ws H1 => ws.length ≤ 1000 ∧ H1 x = some (exo x C none) ∧ u { nx := fun _ H' => Q .non H', rt := Q } (start N vs) H1))
    (hi : ∀ L, interactive (PySem.W.ksEnv qual scope L f (.ref cda) cc) = false) (hsw : ∀ L, swapsWith (.Call (.Attribute (.Call (.Name "super" p0) [] [] p1) "__init__" apos) (e :: es) [] pos) none epos.line (PySem.W.ksEnv qual scope L f (.ref cda) cc) = pure false)
    (he : ∀ L, eval (.Call (.Attribute (.Call (.Name "super" p0) [] [] p1) "__init__" apos) (e :: es) [] pos) (PySem.W.ksEnv qual scope L f (.ref cda) cc) = (do
      let ov ← attributeBase (.Call (.Name "super" p0) [] [] p1) "__init__" (PySem.W.ksEnv qual scope L f (.ref cda) cc) (eval (.Call (.Name "super" p0) [] [] p1) (PySem.W.ksEnv qual scope L f (.ref cda) cc))
      standAt apos.atName
      let (fn, first) ← holding [ov] (getMethod ov "__init__" pl)
      callWith pos fn first (backTo pos (starEach (e :: es) (PySem.W.ksEnv qual scope L f (.ref cda) cc))) []))
    (hst : ∀ L, starEach (e :: es) (PySem.W.ksEnv qual scope L f (.ref cda) cc) = (false, eval e (PySem.W.ksEnv qual scope L f (.ref cda) cc)) :: starEach es (PySem.W.ksEnv qual scope L f (.ref cda) cc))
    (hpl : ∀ L, (backTo pos (starEach es (PySem.W.ksEnv qual scope L f (.ref cda) cc))).any (·.1) = false) :
    FnOk P w K mg base CX (k + 1) f (PySem.W.ksFn name qual params (.Expr (.Call (.Attribute (.Call (.Name "super" p0) [] [] p1) "__init__" apos) (e :: es) [] pos) epos :: rest) scope dV kV doc pm an (.ref cda) ct cc) ps sp := by
  refine ⟨len, fun A outer s H args us vs Q E hr e0 hb r hsp => ?_⟩
  have hl := len _ _ _ _ hsp
  have KX : K.In s.heap := e0.mod.kin.keeps fun b o e => (e0.bs b o e).1
  have lim : s.heap.NoLimit := e0.mod.nolimit.keeps fun b o e => (e0.bs b o e).1
  obtain ⟨x, C, D, vs', ta, u, rfl, hx, T, hta, hrest, hq⟩ := hbody A outer s H vs Q E (hr.deeper _) hsp
  obtain ⟨cl, cld, csl, hcell⟩ := T.cell
  obtain ⟨ccl, cdd, cvs, ccs, file, tf, hcode, hvs, hfile⟩ := T.code
  obtain ⟨cdD, hD⟩ := T.clD
  refine PySem.ks_codeAny_call_defAt (binds := ps.zip us) hr.depth (KX _ _ lk) rfl lim (PySem.W.codeRec_of KX hcd) rfl hb S.nocell (fun y hy => S.par y.1 (List.of_mem_zip hy).1) (fun h1 hns hk => ?_) S.co S.gen S.kind
  have I : Inv (cxS CX P w K mg base N qual scope f (.ref cda) cc A outer s H E) [] (start N (.ref x :: vs')) H { s with heap := h1, toks := s.toks + (ps.zip us).length } :=
    inv_startS (vs := .ref x :: vs') S hr.hd e0 hl r hcell rfl hns hk
  have hX : K.In h1 := I.kIn
  obtain ⟨t1, ho⟩ := exo_at I.hok hx
  have J : PySem.W.InstAt h1 x { cls := .ref C, dict := none, data := .fields #[.ref t1, .none, .none, .none, .bool false, .none] } C none := ⟨ho, rfl, rfl, trivial⟩
  obtain ⟨oD, hD1, hD2⟩ : ∃ oD, h1.get? D = some oD ∧ oD.data = .cls cdD := by
    unfold PySem.W.clsIn at hD
    split at hD
    · rename_i c d cd' sl ho
      cases hD
      exact ⟨_, hX _ _ ho, rfl⟩
    · cases hD
  refine PySem.ks_wpAt_execs_cons (PySem.ks_wpAt_Expr_any (PySem.ks_wpAt_MethodCall (pl := pl) ?_ (he _)) (hi _) (hsw _))
  refine PySem.ks_wpAt_super_base (env := PySem.W.ksEnv qual scope s.heap.objs.size f (.ref cda) cc) hks hkc (by decide) rfl (hX _ _ lk) rfl hp0 rfl (hX _ _ hcode) rfl hvs hfile T.top ?_
  obtain ⟨mb, hb1, hb2⟩ := I.mod.blt
  refine PySem.W.ks_loadName_global S.kind hks (Calls.loadGlobal_builtin (env := PySem.W.ksEnv qual scope s.heap.objs.size f (.ref cda) cc) (I.mod.glob.keeps I.bk) T.sup (hb1.keeps I.bk) ((hb2 _ (by decide +kernel)).trans (show bootBuiltins "super" = some (.type "super") by first | rfl | kernel_rfl)) ⟨rfl, ?_⟩)
  refine wpAny_loadName_free S.kind hkc (by show List.lookup _ [_] = _; simp [List.lookup]) ⟨_, hX _ _ hcell, rfl⟩ ?_
  have hself : (ps.zip us).reverse.lookup ar.arg = some (.ref x) := by
    match ps, us, hps, r with
    | p :: ps', u' :: us', hp', .cons ru _ =>
      have hp'' : p = ar.arg := by simpa using hp'
      subst hp''
      cases (show u' = Value.ref x from ru)
      have ndP : (ar.arg :: ps').Nodup := by
        have := S.pre
        rw [← this]
        exact S.nd.sublist (List.take_sublist _ _)
      exact rev_lookup (i := 0) ndP rfl rfl
  refine wpAny_loadName_local S.kind har hns hself ?_
  refine PySem.ks_wpAny_isType_cls hD1 hD2 ⟨rfl, ?_⟩
  refine PySem.ks_wpAny_call_super hD1 hD2 J.at_ J.cls (fun c e => nomatch e) (PySem.W.looks_mroIn hX T.sub) (fun h' hso k' => ?_)
  have I1 : Inv (cxS CX P w K mg base N qual scope f (.ref cda) cc A outer s H E) [(h1.objs.size, PySem.W.ks_superObj D x C)] (start N (.ref x :: vs')) H { s with heap := h', toks := s.toks + (ps.zip us).length } :=
    ClX.pin_new (s := { s with heap := h1, toks := s.toks + (ps.zip us).length }) (t' := s.toks + (ps.zip us).length) I k' (Nat.le_refl _) hso (fun v z => nomatch z)
  have hX' : K.In h' := I1.kIn
  have J' : PySem.W.InstAt h' x { cls := .ref C, dict := none, data := .fields #[.ref t1, .none, .none, .none, .bool false, .none] } C none := ⟨k' _ _ ho, rfl, rfl, trivial⟩
  have fnd := T.fnd
  cases hc : PySem.W.clsIn K C with
  | none => unfold PySem.W.ks_superIn at fnd; rw [hc] at fnd; cases fnd
  | some cdC =>
    unfold PySem.W.ks_superIn at fnd
    rw [hc] at fnd
    refine SE.getMethod_superv (h := h') hso (PySem.W.looks_opaque hX' T.any) (l₀ := cdC.mro) ?_ rfl hX' fnd (PySem.W.ks_ne hX J hc) (by decide) (J'.type.andThen (PySem.W.looks_mroIn hX' T.suv)) ?_
    · exact fun A Q E s k q => wpAny_bind ((PySem.W.looks_clsIn hX' hc) A _ E s k (wpAny_pure q))
    · have I2 := ClX.pin_new (s := { s with heap := h', toks := s.toks + (ps.zip us).length }) (o := SE.wv x) (t' := s.toks + (ps.zip us).length + 1) I1 (fun _ _ z => Heap.get?_push_of_some _ z) (Nat.le_refl _) (Heap.get?_push_size h' rfl) (fun v z => nomatch z)
      refine SE.callWith_wv (x := x) (thn (hta.run pos _ _ _ H _ I2 hq) fun us2 s3 ⟨ws, H2, I3, rv, hl2, hx2, q2⟩ => ⟨ClX.pin_at I3, ?_⟩) (hst _) (hpl _)
      obtain ⟨nm, q, N', bs, bm, sn, sub, ab, col, dd, k0, k1, k2, k3, k5, hCo, hbm⟩ := T.oex.cls
      obtain ⟨t2, ho2⟩ := exo_at I3.hok hx2
      have hu2 : s3.heap.get? h'.objs.size = some (SE.wv x) := ClX.pin_at I3
      have kC := I3.kIn
      obtain ⟨hp3, g3, d3, tk3, os3⟩ := s3
      refine SE.call_wv (kC _ _ hCo) ho2 hu2 (by rw [← Paired.length rv, sizeLine_eq]; omega) fun h4 t4 k4 hx4 => ?_
      have I4 := (ClX.unpin (ClX.unpin I3)).write (t' := tk3) (x := x) (e := x) (o := exo x C none) (by rw [hx2]; exact True.intro) (.inl rfl) k4 ⟨_, hx4⟩ (exo_ok hx4)
      have eu : upd H2 x (exo x C none) = H2 := by
        funext b
        by_cases hb : b = x
        · rw [hb, upd_same, hx2]
        · rw [upd_ne hb]
      rw [eu] at I4
      refine wpAt_of_wpAny (wpAny_mono (hrest.run [] _ _ H2 _ I4 q2) (fun fl s' hs => ?_) fun e s' hs => hs)
      have fin : ∀ {σ' : L2.St} {H' : Hp} {v : V} {u : Value}, Inv (cxS CX P w K mg base N qual scope f (.ref cda) cc A outer s H E) [] σ' H' s' → RelV v u → Q v H' → CE outer P w H s Q u s' :=
        fun {σ' H' v u} J rv q => ⟨v, H', J.os, J.bare, J.base, J.hok, rv, q⟩
      cases fl with
      | ret u =>
        obtain ⟨v, σ', H', J, rv, q⟩ := hs
        exact fin J rv q
      | next =>
        obtain ⟨σ', H', J, q⟩ := hs
        exact fin (v := V.non) (u := Value.none) J rfl q
      | brk =>
        obtain ⟨_, _, _, q⟩ := hs
        exact False.elim q
      | cont =>
        obtain ⟨_, _, _, q⟩ := hs
        exact False.elim q
end
end Ls
end
section
set_option Elab.async false
set_option linter.all false
set_option maxRecDepth 100000
set_option maxHeartbeats 4000000
namespace Ls
open PySem PySem.Spec PyProof.Rows L2

/-! ### defs that must know that no repr is under way -/
structure FnG (P : Program) (w : World) (K : PySem.W.Frag) (mg : Str → Option Value) (base : Heap) (CX : CXT) (k : Nat) (f : Addr) (fd : FuncData) (ps : List Str) (sp : Sp) : Prop where
  len : ∀ vs H Q E, sp vs H Q E → vs.length = ps.length
  run : ∀ (A : Around) (outer : List Env) (s : Shared) (H : Hp) (args : Args) (us : List Value) (vs : List V) (Q : VK) (E : XK), A.guards = some [] → Room k A → Env0 P w K mg base A outer s H → BindsTo s fd args (ps.zip us) → Vals vs us → sp vs H Q E →
    codeAny (model P w) A (.call (.ref f) args) (CR CX outer P w H s Q E) s
section
variable {P : Program} {w : World} {K : PySem.W.Frag} {mg : Str → Option Value} {base : Heap}
theorem FnG.of {CX : CXT} {k : Nat} {f : Addr} {fd : FuncData} {ps : List Str} {sp : Sp} (F : FnOk P w K mg base CX k f fd ps sp) : FnG P w K mg base CX k f fd ps sp := ⟨F.len, fun A outer s H args us vs Q E _ => F.run A outer s H args us vs Q E⟩
theorem okG {x qual : Str} {st : Stmt} {f : Addr} {fd : FuncData} {N ps : List Str} {k : Nat} {sp : Sp} (F : Fun K x qual st f fd) (S : FnScope N ps (defScope st)) (len : ∀ vs H Q E, sp vs H Q E → vs.length = ps.length)
    (hbody : ∀ (cdv : Value) (A : Around) (outer : List Env) (s : Shared) (H : Hp) (vs : List V) (Q : VK) (E : XK), fd.code = cdv → A.guards = some [] → Room k (A.deeper (envOfC qual (defScope st) s.heap.objs.size f cdv)) → sp vs H Q E →
      ∃ t, PSs (cxOf CX0 P w K mg base N qual (defScope st) f cdv A outer s H E).nox (defBody st) t ∧ t { nx := fun _ H' => Q .non H', rt := Q } (start N vs) H) : FnG P w K mg base CX0 (k + 1) f fd ps sp := by
  obtain ⟨oc, od, kV, doc, pm, an, cdv, ct, osl, rfl, lk, hcd⟩ := F.ex
  refine ⟨len, fun A outer s H args us vs Q E hg hr e0 hb r hs => ?_⟩
  refine LamX.run_ofS lk hcd S hr e0 hb r (len _ _ _ _ hs) fun hr' => ?_
  obtain ⟨t, h, q⟩ := hbody cdv A outer s H vs Q E rfl hg hr' hs
  exact ⟨t, h.nox, q⟩
end
section
variable (P : Program) (w : World) (K : PySem.W.Frag) (mg : Str → Option Value) (base : Heap) (CX : CXT) (k : Nat)
/-- the def under the module's name x keeps sp, where no repr is under way -/
structure CalG (x : Str) (sp : Sp) : Prop where
  ex : ∃ f fd ps, mg x = some (.ref f) ∧ PySem.W.keepIn K (.ref f) = true ∧ Binds K fd ps [] ∧ FnG P w K mg base CX k f fd ps sp
end
section
variable {X : Cx} {CX : CXT} {k : Nat} {sp : Sp} {E : XK} {x : Str} {p pos : Pos} {e : PySem.Expr} {es : List PySem.Expr} {t : TA}
theorem pe_calG (hgd : X.A.guards = some []) (c : CalG X.prog X.w X.K X.mg X.base CX k x sp) (hr : Room k X.A) (hg : Gl X x) (hx : Passes CX X E) (ha : PA X (e :: es) t) (hd : (x == ("__debug__" : Str)) = false := by decide)
    (he : starEach (e :: es) X.env = (false, eval e X.env) :: starEach es X.env := by rfl) (hpl : (backTo pos (starEach es X.env)).any (·.1) = false := by rfl) :
    PE X (.Call (.Name x p) (e :: es) [] pos) (tCl sp E t) := by
  obtain ⟨f, fd, ps, hm, hk, hb, F⟩ := c.ex
  refine ⟨fun pins s σ H Q I h => ?_⟩
  refine wpAny_Call_Name_kw (ld_glob I hg hm ?_ hd)
  refine PySem.W.callWith_K (h₀ := X.base) I.ok.mod.kin hk (thn (ha.run pos pins s σ H _ I h) fun us s1 ⟨vs, H1, I1, r, q⟩ => ⟨I1.kIn, ?_⟩) he hpl
  have hl : us.length = ps.length := by
    rw [← r.length]
    exact F.len _ _ _ _ q
  have bd := hb s1 us I1.kIn (by rw [List.append_nil]; exact hl)
  rw [List.append_nil] at bd
  refine wpAny_call (codeAny_mono (F.run X.A X.stack s1 H1 ⟨us, []⟩ us vs Q E hgd hr I1.env0 bd r q) fun res s' hq => ?_)
  match res, hq with
  | .error e, hq => exact hx pins σ H1 s1 e s' I1 hq
  | .ok (.ret u), hq => exact I1.after hq
end

/-! ### the top: tables of code objects, no repr under way -/
def tabH (T : List Addr) : Hp := fun b => if b ∈ T then some (.tbl #[]) else none
theorem tab_in {T : List Addr} {b : Addr} (h : b ∈ T) : tabH T b = some (.tbl #[]) := if_pos h
theorem tab_out {T : List Addr} {b : Addr} (h : b ∉ T) : tabH T b = none := if_neg h
/-- what is tracked at the start: the script (if it is no object of the module), the tables -/
theorem top_heap {P : Program} {w : World} {K : PySem.W.Frag} {a : Addr} {T : List Addr} {s : Shared} {vs : List Value} {ns : List Int} (KX : K.In s.heap) (hT : ∀ b ∈ T, s.heap.get? b = some { cls := .none, data := .fields #[] })
    (ha : s.heap.get? a = some { cls := .type "list", data := .seq vs.toArray }) (hi : IntsAre vs ns) (hl : ns.length ≤ sizeLine) :
    ∃ H : Hp, (∀ b ∈ T, H b = some (.tbl #[])) ∧ SqL K H a (ns.map V.int) ∧ HOk P w H s.heap ∧
      ∀ b u, H b = some u → (b ∈ T ∧ u = .tbl #[]) ∨ (b = a ∧ K.lookup a = none ∧ ∃ o xs, u = .frz o (.lst xs)) := by
  have rv := vals_ints hi
  have aT : a ∉ T := fun z => by
    have q := hT a z
    rw [ha] at q
    cases congrArg Obj.data (Option.some.inj q)
  cases hk : K.lookup a with
  | some o =>
    have e := KX a o hk
    rw [ha] at e
    cases e
    refine ⟨tabH T, fun b hb => tab_in hb, .inr ⟨_, vs.toArray, _, hk, rfl, rfl, rfl, by rw [List.size_toArray, hi.length]; exact hl, by simpa using rv⟩, fun b u z => ?_, fun b u z => ?_⟩
    · by_cases hb : b ∈ T
      · rw [tab_in hb] at z
        cases z
        exact hT b hb
      · rw [tab_out hb] at z
        cases z
    · by_cases hb : b ∈ T
      · rw [tab_in hb] at z
        exact .inl ⟨hb, (Option.some.inj z).symm⟩
      · rw [tab_out hb] at z
        cases z
  | none =>
    refine ⟨upd (tabH T) a (.frz { cls := .type "list", data := .seq vs.toArray } (.lst (ns.map V.int))), fun b hb => ?_, .inl (.inr ⟨_, upd_same⟩), fun b u z => ?_, fun b u z => ?_⟩
    · have nb : b ≠ a := fun e => aT (by rw [← e]; exact hb)
      rw [upd_ne nb]
      exact tab_in hb
    · by_cases hb : b = a
      · subst hb
        rw [upd_same] at z
        cases z
        exact ⟨ha, by rw [List.length_map]; exact hl, vs, _, rv, ha⟩
      · rw [upd_ne hb] at z
        by_cases hb : b ∈ T
        · rw [tab_in hb] at z
          cases z
          exact hT b hb
        · rw [tab_out hb] at z
          cases z
    · by_cases hb : b = a
      · subst hb
        rw [upd_same] at z
        exact .inr ⟨rfl, rfl, _, _, (Option.some.inj z).symm⟩
      · rw [upd_ne hb] at z
        by_cases hb : b ∈ T
        · rw [tab_in hb] at z
          exact .inl ⟨hb, (Option.some.inj z).symm⟩
        · rw [tab_out hb] at z
          cases z
theorem top_call {P : Program} {w : World} {K : PySem.W.Frag} {mg mb : Str → Option Value} {CX : CXT} {k : Nat} {fa a : Addr} {cs : List (Addr × Addr)} {fd : FuncData} {x : Str} {sp : Sp} {s : Shared} {vs : List Value} {ns : List Int}
    (KX : K.In s.heap) (gl : s.heap.Ns mainGlobals mg) (bl : s.heap.Ns builtinsNs mb) (bb : ∀ x : Str, x ≠ "__name__" → mb x = bootBuiltins x) (nl : s.heap.NoLimit) (gn : s.gens = #[])
    (hT : ∀ p ∈ cs, s.heap.get? p.2 = some { cls := .none, data := .fields #[] }) (nT : ∀ p ∈ cs, K.lookup p.2 = none) (C : ∀ p ∈ cs, PySem.W.CodeHd s.heap p.1 p.2)
    (hbm : ∃ (bm : Addr) (ob : Obj), mg "__builtins__" = some (.ref bm) ∧ bm ≠ builtinsNs ∧ s.heap.get? bm = some ob ∧ ob.cls = .type "module" ∧ ob.dict = some builtinsNs ∧ ob.data = .plain)
    (ha : s.heap.get? a = some { cls := .type "list", data := .seq vs.toArray }) (hi : IntsAre vs ns) (hl : ns.length ≤ sizeLine) (hr : Room k callerA)
    (F : ∀ base : Heap, K.In base → base.Ns mainGlobals mg → (∀ p ∈ cs, LamX.TabB base mg p.1 p.2) → (base.get? sysModules).isSome = true → FnG P w K mg base CX k fa fd [x] sp) (hsy : ∃ mm, s.heap.Ns sysModules mm) (hbind : ∀ (s : Shared) (u : Value), BindsTo s fd ⟨[u], []⟩ [(x, u)])
    (hsp : ∀ H : Hp, (∀ p ∈ cs, H p.2 = some (.tbl #[])) → SqL K H a (ns.map V.int) → sp [.ref a] H (fun v _ => v = .bl true) fun _ _ _ => False)
    (hCX : ∀ H e s', CX [] H s (fun _ _ _ => False) e s' → False) :
    codeAny (model P w) callerA (.call (.ref fa) ⟨[.ref a], []⟩) (fun r s' => r = .ok (.ret (.bool true)) ∧ OldK s.heap s'.heap ∧ s'.os = s.os ∧ AllBare s'.gens) s := by
  have hT' : ∀ b ∈ cs.map (·.2), s.heap.get? b = some { cls := .none, data := .fields #[] } := fun b hb => by
    obtain ⟨p, hp, rfl⟩ := List.mem_map.mp hb
    exact hT p hp
  obtain ⟨H, H1, H2, H3, H4⟩ := top_heap (P := P) (w := w) KX hT' ha hi hl
  -- what is no list and no empty record is not tracked
  have un : ∀ {b : Addr} {o : Obj}, s.heap.get? b = some o → (∀ l n, o.data ≠ .seq l n) → o.data ≠ .fields #[] → H b = none := fun {b o} e n1 n2 => by
    cases q : H b with
    | none => rfl
    | some u =>
      rcases H4 b u q with ⟨hb, _⟩ | ⟨hb, _⟩
      · rw [hT' b hb] at e
        cases e
        exact absurd rfl n2
      · rw [hb, ha] at e
        cases e
        exact absurd rfl (n1 _ _)
  have ns' : ∀ {b : Addr} {m : Str → Option Value}, s.heap.Ns b m → (hidT s.heap H).Ns b m := fun {b m} ⟨o, es, ep, e, d, r⟩ =>
    ⟨o, es, ep, hidT_get e (un e (fun l n z => by rw [d] at z; cases z) fun z => by rw [d] at z; cases z), d, r⟩
  have kb : K.In (hidT s.heap H) := fun b o e => hidT_get (KX b o e) (by
    cases q : H b with
    | none => rfl
    | some u =>
      rcases H4 b u q with ⟨hb, _⟩ | ⟨hb, hn, _⟩
      · obtain ⟨p, hp, rfl⟩ := List.mem_map.mp hb
        rw [nT p hp] at e
        cases e
      · rw [hb, hn] at e
        cases e)
  have TB : ∀ p ∈ cs, LamX.TabB (hidT s.heap H) mg p.1 p.2 := fun p hp => by
    refine ⟨?_, ?_, fun z => ?_⟩
    · obtain ⟨o, us, file, tf, flags, tg, inF, text, tt, e1, r1, r2, r3, rest⟩ := C p hp
      refine ⟨o, us, file, tf, flags, tg, inF, text, tt, hidT_get e1 (un e1 (fun l n z => by rw [r2] at z; cases z) fun z => ?_), r1, r2, r3, rest⟩
      rw [r2] at z
      cases z
      simp at r3
    · obtain ⟨bm, ob, b1, b2, b3, b4, b5, b6⟩ := hbm
      refine ⟨bm, ob, b1, b2, fun q => ?_, fun q => ?_, hidT_get b3 (un b3 (fun l n z => by rw [b6] at z; cases z) fun z => by rw [b6] at z; cases z), b4, b5, b6⟩
      · obtain ⟨o, es, ep, e, d, _⟩ := gl
        rw [q, e] at b3
        cases b3
        rw [d] at b6
        cases b6
      · rw [q, hT p hp] at b3
        cases b3
        cases b6
    · obtain ⟨o, es, ep, e, d, _⟩ := gl
      rw [z, hT p hp] at e
      cases e
      cases d
  have sy : ((hidT s.heap H).get? sysModules).isSome = true := by
    obtain ⟨mm, z⟩ := hsy
    obtain ⟨o, _, _, e, _⟩ := ns' z
    rw [e]
    rfl
  have md : L2.Mod K mg (hidT s.heap H) := ⟨kb, ns' gl, ⟨mb, ns' bl, bb⟩, by
    obtain ⟨mc, z1, z2⟩ := nl
    exact ⟨mc, ns' z1, z2⟩⟩
  have e0 : Env0 P w K mg (hidT s.heap H) callerA [] s H := ⟨rfl, md, fun b o e => of_hidT e, Nat.le_of_eq (hidT_size _ _), trivial, fun b hb => absurd (show b ∈ ([] : List Addr) from hb) (by simp), H3, .of_eq gn⟩
  refine codeAny_mono ((F _ kb (ns' gl) TB sy).run callerA [] s H ⟨[.ref a], []⟩ [.ref a] [.ref a] _ _ rfl hr e0 (hbind s (.ref a)) (.cons rfl .nil) (hsp H (fun p hp => H1 _ (List.mem_map.mpr ⟨p, hp, rfl⟩)) H2)) fun r s' h => ?_
  match r, h with
  | .error e, h => exact (hCX H e s' h).elim
  | .ok (.ret u), h =>
    obtain ⟨v, H', os, bare, U, hok', rv, q⟩ := h
    cases (show v = .bl true from q)
    cases (show u = Value.bool true from rv)
    have stays : ∀ b o, s.heap.get? b = some o → s'.heap.get? b = some o ∨ (b ∈ cs.map (·.2) ∧ ∃ more : Array Value, s'.heap.get? b = some { cls := .none, data := .fields more }) := fun b o e => by
      cases q : H b with
      | none => exact .inl (U.keep b o e q (fun z => absurd (show b ∈ ([] : List Addr) from z) (by simp)) (by simp))
      | some u =>
        rcases H4 b u q with ⟨hb, hu⟩ | ⟨hb, _, ob, xs, hu⟩
        · obtain ⟨more, z⟩ := U.tbls b #[] (by rw [q, hu])
          exact .inr ⟨hb, _, hok' b _ z⟩
        · rw [hu] at q
          obtain ⟨z1, _⟩ := H3 b _ q
          obtain ⟨z2, _⟩ := hok' b _ (U.frzs b ob _ q)
          rw [e] at z1
          cases z1
          exact .inl z2
    refine ⟨rfl, ⟨fun b o e => ?_, fun b o e => ?_⟩, os, bare⟩
    · rcases stays b o e with z | ⟨hb, more, z⟩
      · exact .inl z
      · rw [hT' b hb] at e
        cases e
        obtain ⟨p, hp, rfl⟩ := List.mem_map.mp hb
        exact .inr (.inl ⟨((C p hp).tab (hT p hp)).isCodeTable, rfl, #[], more, rfl, by rw [Array.empty_append]; exact z⟩)
    · rcases stays b o e with z | ⟨hb, more, z⟩
      · exact ⟨o, z⟩
      · exact ⟨_, z⟩

/-- the law's promise at the head's heap h -/
def LawG (l : PySem.W.OpenLaw) (w : World) (K : PySem.W.Frag) (CX : CXT) (k n : Nat) (x : Str) (mg : Str → Option Value) (fa : Addr) (h : Heap) : Prop :=
  ∃ (fd : FuncData) (cs : List (Addr × Addr)) (sp : Sp), (∀ p ∈ cs, h.get? p.2 = some { cls := .none, data := .fields #[] }) ∧ (∀ p ∈ cs, K.lookup p.2 = none) ∧ (∀ p ∈ cs, PySem.W.CodeHd h p.1 p.2) ∧ (∀ (s : Shared) (u : Value), BindsTo s fd ⟨[u], []⟩ [(x, u)]) ∧
    (∀ (H : Hp) (a : Addr) (ns : List Int), ns.length ≤ n → (∀ z ∈ ns, Builtin.Int.intBits z ≤ 1048576) → (∀ p ∈ cs, H p.2 = some (.tbl #[])) → SqL K H a (ns.map V.int) → sp [.ref a] H (fun v _ => v = .bl true) fun _ _ _ => False) ∧
    ∀ base : Heap, K.In base → base.Ns mainGlobals mg → (∀ p ∈ cs, LamX.TabB base mg p.1 p.2) → (base.get? sysModules).isSome = true → FnG l.prog w K mg base CX k fa fd [x] sp
/-- the def under the module's name x: its code object's table is empty -/
theorem tab_of {q : Program} {loose : List Str} {mean : ExcName → Option Value} {mg mb : Str → Option Value} {h : Heap} {K : PySem.W.Frag} {x : Str} {fx : Addr} (T : Top q loose mean mg mb h) (KX : K.In h) (hx : ((recsOf q).any fun e => e.name == x) = true) (hm : mg x = some (.ref fx)) : LamX.OwnTab K fx h := by
  intro c P o fd e dd vs sl k1 k2 k3 k4 k5
  obtain ⟨r, hr, hn⟩ := List.any_eq_true.mp hx
  obtain ⟨a', o', fd', c', P', h1, h2, h3, h4, h5, ⟨oc, vc, e1, _, e3, e4⟩, hP⟩ := T.tab r hr
  rw [beq_iff_eq.mp hn, hm] at h1
  cases h1
  rw [KX _ _ k1] at h2
  cases h2
  rw [k2] at h3
  cases h3
  rw [k3] at h4
  cases h4
  rw [KX _ _ k4] at e1
  cases e1
  cases e3
  rw [k5] at e4
  cases e4
  exact hP
theorem walk_G {l : PySem.W.OpenLaw} {n k : Nat} {q : Program} {loose : List Str} {XP : (Str → Option Value) → Heap → Prop} {YP : World → Heap → Prop} {d : DefRec} {K : Params → PySem.W.Frag} {CX : World → CXT} {x : Str}
    (hn : l.most = some n) (hn2 : n ≤ sizeLine) (hdf : d.params.defaults = []) (hr : Room k callerA) (him : importsNone q = true) (hY : ∀ (w : World) (h : Heap), YP w h → (K w.params).In h)
    (F : ∀ (w : World) (mg : Str → Option Value) (fa : Addr) (h : Heap), YP w h → (K w.params).In h → h.Ns mainGlobals mg → mg d.name = some (.ref fa) →
      (∀ (x : Str) (fx : Addr), ((recsOf q).any fun e => e.name == x) = true → mg x = some (.ref fx) → LamX.OwnTab (K w.params) fx h) → LawG l w (K w.params) (CX w) k n x mg fa h)
    (hCX : ∀ (w : World) (H : Hp) (s : Shared) (e : Value) (s' : Shared), CX w [] H s (fun _ _ _ => False) e s' → False) :
    PySem.W.WalkO q loose XP YP l.row.toRowW d [] (fun f vs => PySem.call f vs) := by
  refine Att.attach_callB hn hdf fun w s₀ s₁ mg mb fa o pm cd doc a vs ns G Y ho hd hcd hmg hobj hints hlen hbits hg => ?_
  have KX := hY w _ Y
  obtain ⟨fd, cs, sp, hT, nT, C, hb, hsp, hF⟩ := F w mg fa _ Y KX G.T.g hmg fun x fx z1 z2 => tab_of G.T KX z1 z2
  obtain ⟨mm, z, _⟩ := (G.T.seer him).mods
  exact top_call KX G.T.g G.T.b G.T.builtins G.T.nolimit hg hT nT C G.T.bmain hobj hints (Nat.le_trans hlen hn2) hr hF ⟨mm, z⟩ hb (fun H hH hS => hsp H a ns hlen hbits hH hS) fun H e s' => hCX w H s₁ e s'
end Ls
end
section
set_option Elab.async false
set_option linter.all false
set_option maxRecDepth 100000
set_option maxHeartbeats 4000000
namespace Ls
open PySem PySem.Spec PyProof.Rows L2

/-! ### a value as plain data; repr -/
mutual
inductive TV (H : Hp) : V → PyData → Prop
  | non : TV H .non .none
  | bl (b : Bool) : TV H (.bl b) (.bool b)
  | int (i : Int) : TV H (.int i) (.int i)
  | str (x : Str) : TV H (.str x) (.str x)
  | lst {a : Addr} {xs : List V} {ds : List PyData} (e : H a = some (.lst xs)) (h : TVs H xs ds) : TV H (.ref a) (.list ds)
  | tup {a : Addr} {xs : List V} {ds : List PyData} (e : H a = some (.tup xs)) (h : TVs H xs ds) : TV H (.ref a) (.tuple ds)
  | dct {a : Addr} {kvs : List (Key × V)} {ds : List (PyData × PyData)} (e : H a = some (.dK kvs)) (hk : TVs H (kvs.map fun p => kV p.1) (ds.map (·.1))) (hv : TVs H (kvs.map (·.2)) (ds.map (·.2))) : TV H (.ref a) (.dict ds)
inductive TVs (H : Hp) : List V → List PyData → Prop
  | nil : TVs H [] []
  | cons {v : V} {vs : List V} {d : PyData} {ds : List PyData} (h : TV H v d) (hs : TVs H vs ds) : TVs H (v :: vs) (d :: ds)
end
mutual
theorem TV.ext {H H' : Hp} (e : Ext H H') : ∀ {v : V} {d : PyData}, TV H v d → TV H' v d
  | _, _, .non => .non
  | _, _, .bl b => .bl b
  | _, _, .int i => .int i
  | _, _, .str x => .str x
  | _, _, .lst q h => .lst (e _ _ q) (h.ext e)
  | _, _, .tup q h => .tup (e _ _ q) (h.ext e)
  | _, _, .dct q h1 h2 => .dct (e _ _ q) (h1.ext e) (h2.ext e)
theorem TVs.ext {H H' : Hp} (e : Ext H H') : ∀ {vs : List V} {ds : List PyData}, TVs H vs ds → TVs H' vs ds
  | _, _, .nil => .nil
  | _, _, .cons h hs => .cons (h.ext e) (hs.ext e)
end
section
variable {X : Cx} {pins : List (Addr × Obj)} {σ : L2.St} {H : Hp} {s : Shared}
theorem pairs_keys {P : Program} {w : World} : ∀ {es : List DictEntry} {vs : List (Key × Value)} {kvs : List (Key × V)}, Pairs (mixKind P w) es vs → KV kvs vs → Vals (kvs.map fun p => kV p.1) (es.map (·.key)) ∧ Vals (kvs.map (·.2)) (es.map (·.val))
  | _, _, _, .nil, .nil => ⟨.nil, .nil⟩
  | _, _, _, .cons (kv := kv) h1 h2 h, .cons (a := q) ⟨e1, e2⟩ r => by
    obtain ⟨z1, z2⟩ := pairs_keys h r
    refine ⟨.cons ?_ z1, .cons (by dsimp only; rw [h2]; exact e2) z2⟩
    dsimp only
    rw [e1]
    rcases keyIs_shape h1 with ⟨i, t, ek, ev⟩ | ⟨x, t, ek, ev⟩
    · rw [ek, ev]
      exact ⟨t, rfl⟩
    · rw [ek, ev]
      exact ⟨t, rfl⟩
mutual
/-- what is told of a value as data is so in the heap; none of its lists and dicts is the table of modules -/
theorem reads_of (I : Inv X pins σ H s) (hs : H sysModules = none) : ∀ {v : V} {d : PyData} {u : Value}, TV H v d → RelV v u → ∃ as, Reads s.heap u d as ∧ sysModules ∉ as
  | _, _, _, .non, r => by
    cases r
    exact ⟨[], .none, by simp⟩
  | _, _, _, .bl b, r => by
    cases r
    exact ⟨[], .bool b, by simp⟩
  | _, _, _, .int i, r => by
    obtain ⟨t, rfl⟩ := r
    exact ⟨[], .int i t, by simp⟩
  | _, _, _, .str x, r => by
    obtain ⟨t, rfl⟩ := r
    exact ⟨[], .str x t, by simp⟩
  | .ref a, _, _, .lst e h, r => by
    cases r
    obtain ⟨_, its, n, rv, ho⟩ := (show ObjOk X.prog X.w H s.heap a (.lst _) from I.hok a _ e)
    obtain ⟨as, h1, h2⟩ := readsAll_of I hs h rv
    refine ⟨a :: as, .list ho rfl rfl (by simpa using h1), fun z => ?_⟩
    rcases List.mem_cons.mp z with z | z
    · rw [z, e] at hs
      cases hs
    · exact h2 z
  | .ref a, _, _, .tup e h, r => by
    cases r
    obtain ⟨_, its, rv, o, ho, hc, n, hd⟩ := (show ObjOk X.prog X.w H s.heap a (.tup _) from I.hok a _ e)
    obtain ⟨as, h1, h2⟩ := readsAll_of I hs h rv
    exact ⟨as, .tuple ho hc hd (by simpa using h1), h2⟩
  | .ref a, _, _, .dct e h1 h2, r => by
    cases r
    obtain ⟨_, _, vs, rk, o, es, ep, ho, hx, hd, _, hp, _⟩ := dk_of I.hok e
    obtain ⟨k1, k2⟩ := pairs_keys hp rk
    obtain ⟨as, a1, a2⟩ := readsAll_of I hs h1 k1
    obtain ⟨bs, b1, b2⟩ := readsAll_of I hs h2 k2
    refine ⟨a :: as ++ bs, .dict ho hx.1 hd a1 b1, fun z => ?_⟩
    rcases List.mem_append.mp z with z | z
    · rcases List.mem_cons.mp z with z | z
      · rw [z, e] at hs
        cases hs
      · exact a2 z
    · exact b2 z
theorem readsAll_of (I : Inv X pins σ H s) (hs : H sysModules = none) : ∀ {vs : List V} {ds : List PyData} {us : List Value}, TVs H vs ds → Vals vs us → ∃ as, ReadsAll s.heap us ds as ∧ sysModules ∉ as
  | _, _, _, .nil, .nil => ⟨[], .nil, by simp⟩
  | _, _, _, .cons h t, .cons r rs => by
    obtain ⟨as, a1, a2⟩ := reads_of I hs h r
    obtain ⟨bs, b1, b2⟩ := readsAll_of I hs t rs
    exact ⟨as ++ bs, .cons a1 b1, fun z => (List.mem_append.mp z).elim a2 b2⟩
end
end
/-- repr(x), x plain data -/
def rRepr : List V → Hp → VK → Prop := fun xs H Q => ∃ (v : V) (d : PyData), xs = [v] ∧ TV H v d ∧ d.showable = true ∧ d.depth ≤ 60 ∧ d.shown.length ≤ sizeLine ∧ Q (.str d.shown) H
theorem call_repr {X : Cx} {k : Nat} (hg : X.A.guards = some []) (hr : Room k X.A) (hb : (X.base.get? sysModules).isSome = true) : CallR X (.builtin "repr") rRepr := by
  intro pins s σ H xs us Q I r h
  obtain ⟨v, d, rfl, h, hs, hd, hz, q⟩ := h
  obtain ⟨u, rfl, rv⟩ := vals1 r
  have h0 : H sysModules = none := by
    obtain ⟨o, e⟩ := Option.isSome_iff_exists.mp hb
    exact (I.bs _ _ e).2
  cases h with
  | non =>
    cases rv
    exact PySem.P.repr_of_none ⟨.str _, H, I.tok _, ⟨_, rfl⟩, q⟩
  | bl b =>
    cases rv
    exact PySem.P.repr_of_bool ⟨.str _, H, I.tok _, ⟨_, rfl⟩, q⟩
  | int i =>
    obtain ⟨t, rfl⟩ := rv
    exact PySem.P.repr_of_int (of_decide_eq_true hs) ⟨.str _, H, I.tok _, ⟨_, rfl⟩, q⟩
  | str x =>
    obtain ⟨t, rfl⟩ := rv
    exact PySem.P.repr_of_str ⟨.str _, H, I.tok _, ⟨_, rfl⟩, q⟩ hz
  | lst e h =>
    obtain ⟨as, R, n⟩ := reads_of I h0 (.lst e h) rv
    cases rv
    exact repr_of_reads' R hs (fun _ => n) hg (by have := hr.units; omega) (fun _ _ z => z) (fun h' u tk k => ⟨.str _, H, I.kept (t' := tk) k, ⟨_, rfl⟩, q⟩) hz
  | tup e h =>
    obtain ⟨as, R, n⟩ := reads_of I h0 (.tup e h) rv
    cases rv
    exact repr_of_reads' R hs (fun _ => n) hg (by have := hr.units; omega) (fun _ _ z => z) (fun h' u tk k => ⟨.str _, H, I.kept (t' := tk) k, ⟨_, rfl⟩, q⟩) hz
  | dct e h1 h2 =>
    obtain ⟨as, R, n⟩ := reads_of I h0 (.dct e h1 h2) rv
    cases rv
    exact repr_of_reads' R hs (fun _ => n) hg (by have := hr.units; omega) (fun _ _ z => z) (fun h' u tk k => ⟨.str _, H, I.kept (t' := tk) k, ⟨_, rfl⟩, q⟩) hz
end Ls
end
section
set_option Elab.async false
set_option linter.all false
set_option maxRecDepth 100000
set_option maxHeartbeats 4000000
namespace Ls
open PySem PySem.Spec PyProof.Rows L2 LamX

/-! ### heard(lambda: ..): what is wished of an exception may hang on the hearer's slots -/
section
variable {X : Cx} {pins : List (Addr × Obj)} {σ : L2.St} {H : Hp} {s : Shared}
theorem pe_actS {CXg : CXT} {Eg : XK} {Ng : List Str} {qg : Str} {sg : Scope} {g f c' : Addr} {cdg pm ctv : Value} {params : Arguments} {body : PySem.Expr} {scope : Scope} {k i : Nat} {a : Str} {pn : List (Addr × Obj)} {xe : Value → Shared → Prop} {W : WX} {tb : XK → TE} {p1 p2 : Pos}
    (I : Inv X pins σ H s) (L : LamS X.env.scope scope) (hf : s.heap.get? f = some (PySem.W.kla_obj "<lambda>" (X.env.qual ++ "<lambda>") params body scope (cloFrom X.env.cells scope.names []) pm c' ctv)) (hfn : H f = none) (hfr : f ∉ frs X.stack)
    (hbind : bindArgs (PySem.W.kla_fn "<lambda>" (X.env.qual ++ "<lambda>") params body scope (cloFrom X.env.cells scope.names []) pm (.ref c') ctv) ⟨[], []⟩ = pure [])
    (tk : Takes ((cxOf CXg X.prog X.w X.K X.mg X.base Ng qg sg g cdg X.A X.stack s H Eg).tr pn xe) W) (hr : Room (k + 1) (X.A.deeper (envOfC qg sg s.heap.objs.size g cdg)))
    (hbody : ∀ (A : Around) (outer : List Env) (s : Shared) (H : Hp) (E : XK), Room k (A.deeper (lamEnv X scope s.heap.objs.size f c')) → PE (lamCx X A outer s H E scope f c') body (tb E))
    (hN : Ng[i]? = some a) (hv : Vis sg a) (hd : (a == ("__debug__" : Str)) = false := by decide) (hcd : (a == ("__classdict__" : Str)) = false := by decide) :
    PE ((cxOf CXg X.prog X.w X.K X.mg X.base Ng qg sg g cdg X.A X.stack s H Eg).tr pn xe) (.Call (.Name a p1) [] [] p2)
      (fun σZ HZ Q => σZ[i]? = some (some (.ref f)) ∧ HZ c' = some (CodeO c' (X.env.qual ++ "<lambda>")) ∧ tb (fun cls d H' => W cls d σZ H') σ HZ Q) := by
  refine ⟨fun pinsZ sZ σZ HZ Q IZ h => ?_⟩
  obtain ⟨hs, hc, ht⟩ := h
  -- the same with the wish at these very slots: the library's rule over a wish of its own
  refine wpAny_Call_Name_kw (thn ((pe_var (pos := p1) (i := i) hN hv hd hcd).run pinsZ sZ σZ HZ (fun v H1 => v = .ref f ∧ H1 = HZ) IZ ⟨.ref f, hs, rfl, rfl⟩) fun u s1 ⟨v, H1, I1, r1, q1⟩ => ?_)
  obtain ⟨ev, eH⟩ := q1
  subst ev
  rw [eH] at I1
  obtain rfl : u = Value.ref f := r1
  have of1 := I1.base.keep f _ hf hfn hfr (fun z => nomatch (show f ∈ ([] : List Addr) from z))
  refine PySem.W.callWith_F0 ⟨_, _, _, _, of1⟩ ?_
  have un : Un (frs X.stack) [] H HZ s.heap s1.heap := I1.base
  obtain ⟨⟨oc, vs, t, hoc, hdc, hvc⟩, _, _⟩ := I1.hok c' _ hc
  have rc : codeAny (model X.prog X.w) (X.A.deeper (envOfC qg sg s.heap.objs.size g cdg)) (.call (.ref f) ⟨[], []⟩) (CR (L2.CX X.prog X.w) (envOfC qg sg s.heap.objs.size g cdg :: X.stack) X.prog X.w HZ s1 Q (fun cls d H' => W cls d σZ H')) s1 := by
    refine PySem.W.kla_callFunE hr.depth of1 rfl L.co L.gen rfl ⟨c', oc, vs, t, rfl, hoc, hdc, hvc⟩ ?_
    rw [hbind]
    refine wpAny_pure (wpAny_newFunctionEnv (fun y hy => (L.own y hy).2) (fun y hy => absurd hy (by simp)) (fun h₁ hns hsb => ⟨I1.nolimit.fresh _ hsb, ?_⟩) L.kind)
    show codeAny _ _ (.expr body (lamEnv X scope s1.heap.objs.size f c')) _ _
    have J := lam_start2 (E := fun cls d H' => W cls d σZ H') (f := f) (c' := c') (tk := s1.toks + ([] : List (Str × Value)).length) I L I1.env0 hr.hd un hns fun b o e => hsb.extBut b o (Nat.ne_of_lt (Heap.lt_size e)) (Heap.get?_push_of_some _ e)
    refine PySem.W.kla_codeExpr (wpAny_mono ((hbody _ _ s1 HZ _ (hr.deeper _)).run [] _ _ HZ Q J ht) (fun v s' hq => ?_) fun e s' hq => hq)
    obtain ⟨w', H', J', rv, q⟩ := hq
    exact ⟨w', H', J'.os, J'.bare, J'.base, J'.hok, rv, q⟩
  refine wpAny_call (codeAny_mono rc fun r s' hq => ?_)
  match r, hq with
  | .error e, hq => exact tk e s' (XE.of_call I1 (fun cls d H' h => h) hq)
  | .ok (.ret u), hq => exact I1.after hq
end
/-- the def that calls what it got; TT: what it makes of the lambda's reading -/
def GivesP (P : Program) (w : World) (K : PySem.W.Frag) (mg : Str → Option Value) (base : Heap) (A : Around) (stack : List Env) (Ng : List Str) (x : Str) (sg : Scope) (g : Addr) (cdg : Value) (bg : List Stmt) (a : Str) (q : Str) (TT : (XK → Hp → VK → Prop) → Hp → VK → Prop) : Prop :=
  ∀ (f c' : Addr) (s : Shared) (H : Hp) (Q : VK) (tl : XK → Hp → VK → Prop),
    (∀ (W : WX) (pn : List (Addr × Obj)) (xe : Value → Shared → Prop) (p1 p2 : Pos), Takes ((cxOf C8.CX0 P w K mg base Ng x sg g cdg A stack s H C8.E0).tr pn xe) W →
      PE ((cxOf C8.CX0 P w K mg base Ng x sg g cdg A stack s H C8.E0).tr pn xe) (.Call (.Name a p1) [] [] p2) (fun σZ HZ Q => σZ[0]? = some (some (.ref f)) ∧ HZ c' = some (CodeO c' q) ∧ tl (fun cls d H' => W cls d σZ H') HZ Q)) →
    H c' = some (CodeO c' q) → TT tl H Q →
    ∃ t, PSs (cxOf C8.CX0 P w K mg base Ng x sg g cdg A stack s H C8.E0).nox bg t ∧ t { nx := fun _ H' => Q .non H', rt := Q } (L2.start Ng [.ref f]) H
def GivesS (X : Cx) (Ng : List Str) (x : Str) (sg : Scope) (g : Addr) (cdg : Value) (bg : List Stmt) (a : Str) (q : Str) (TT : (XK → Hp → VK → Prop) → Hp → VK → Prop) : Prop :=
  GivesP X.prog X.w X.K X.mg X.base X.A X.stack Ng x sg g cdg bg a q TT
section
variable {X : Cx}
/-- x(lambda: body) -/
theorem pe_lamS {T : List (Addr × Str)} {TT : (XK → Hp → VK → Prop) → Hp → VK → Prop} {x a : Str} {g c P : Addr} {k : Nat} {st : Stmt} {fd : FuncData} {Ng : List Str}
    {params : Arguments} {body : PySem.Expr} {scope : Scope} {t : XK → TE} {p lpos pos : Pos} (F : Fun X.K x x st g fd) (hg : Gl X x) (hm : X.mg x = some (.ref g))
    (hb : L2.Binds X.K fd [a] []) (Sg : FnScope Ng [a] (defScope st)) (hNg : Ng[0]? = some a) (hva : Vis (defScope st) a)
    (hG : ∀ cdv, GivesS X Ng x (defScope st) g cdv (defBody st) a (X.env.qual ++ "<lambda>") TT)
    (TB : TabB X.base X.mg c P) (hcode : X.env.code = .ref c) (hmT : (P, X.env.qual ++ "<lambda>") ∈ T) (hu : ∀ p ∈ T, p.1 = P → p.2 = X.env.qual ++ "<lambda>") (hr : Room (k + 2) X.A) (L : LamS X.env.scope scope) (hdef : defaultsOf params X.env = ([], []))
    (hbind : ∀ (q : Str) (cl : List (Str × Addr)) (pm cv ctv : Value), bindArgs (PySem.W.kla_fn "<lambda>" q params body scope cl pm cv ctv) ⟨[], []⟩ = pure [])
    (hbody : ∀ (A : Around) (outer : List Env) (s : Shared) (H : Hp) (E : XK) (f c' : Addr), Room k (A.deeper (lamEnv X scope s.heap.objs.size f c')) → PE (lamCx X A outer s H E scope f c') body (t E))
    (hdb : (x == ("__debug__" : Str)) = false := by decide) (hd : (a == ("__debug__" : Str)) = false := by decide) (hcd : (a == ("__classdict__" : Str)) = false := by decide) :
    PE X (.Call (.Name x p) [.Lambda params body scope lpos] [] pos) (tLam T TT t) := by
  obtain ⟨oc, od, kV, doc, pm, an, cdv, ct, osl, rfl, lk, hcg⟩ := F.ex
  refine ⟨fun pins s σ H Q I h => ?_⟩
  obtain ⟨hT, h⟩ := h
  refine wpAny_Call_Name_kw (ld_glob I hg hm ?_ hdb)
  refine PySem.W.callWith_K (h₀ := X.base) I.ok.mod.kin F.kp ?_ (by rfl) (by rfl)
  show wpAny _ _ (spliced ((false, eval (.Lambda params body scope lpos) X.env) :: backTo pos (starEach [] X.env))) _ _ s
  refine Calls.spliced_cons (lam_make2 I TB hcode hmT hu hT hdef (L.has I.ok) fun f c' pm' ctv H1 s' I1 eN T1 hf hfn hfr hco => Calls.spliced_nil ⟨I1.kIn, ?_⟩)
  have rc : codeAny (model X.prog X.w) X.A (.call (.ref g) ⟨[.ref f], []⟩) (CR C8.CX0 X.stack X.prog X.w H1 s' Q C8.E0) s' := by
    refine run_ofS (N := Ng) (ps := [a]) (us := [.ref f]) (vs := [.ref f]) lk hcg Sg hr I1.env0 (hb s' [.ref f] I1.kIn rfl) (.cons rfl .nil) rfl fun hr' => ?_
    obtain ⟨t', ht', hq'⟩ := hG cdv f c' s' H1 Q (fun E H' Q' => t E σ H' Q') (fun W pn xe p1 p2 tk => pe_actS (i := 0) I1 L hf hfn hfr (hbind _ _ _ _ _) tk hr' (fun A outer s H E hr2 => hbody A outer s H E f c' hr2) hNg hva hd hcd) hco (h H1 eN T1)
    exact ⟨t', ht'.nox, hq'⟩
  refine wpAny_call (codeAny_mono rc fun r s2 hq => ?_)
  match r, hq with
  | .error e, hq => exact (show False from hq).elim
  | .ok (.ret u), hq => exact I1.after hq
end
end Ls
end
section
set_option Elab.async false
set_option linter.all false
set_option maxRecDepth 100000
set_option maxHeartbeats 4000000
namespace Ls
open PySem PySem.Spec PyProof.Rows L2

theorem atI_at {α : Type} {xs : List α} {i : Int} {j : Nat} {v : α} (e : i = (j : Int)) (h : xs[j]? = some v) : atI xs i = some v := by
  rw [e]
  exact atI_nat h
theorem Paired.at_ {α β : Type} {F : α → β → Prop} : ∀ {l₁ : List α} {l₂ : List β} {i : Nat} {a : α}, Paired F l₁ l₂ → l₁[i]? = some a → ∃ b, l₂[i]? = some b ∧ F a b
  | _, _, _, _, .nil, h => by simp at h
  | _, _, 0, _, .cons r _, h => by simp at h; subst h; exact ⟨_, rfl, r⟩
  | _, _, i + 1, a, .cons _ t, h => by
    obtain ⟨b, h1, h2⟩ := Paired.at_ (i := i) (a := a) t (by simpa using h)
    exact ⟨b, by simpa using h1, h2⟩
theorem ext_free {H H' : Hp} (e : Ext H H') {a : Addr} (h : H' a = none) : H a = none := by
  cases q : H a with
  | none => rfl
  | some o => rw [e a o q] at h; cases h

/-! ### what is seen of a heap: without the places S, without the tables of code objects -/
def vis (S : List Addr) (H : Hp) : Hp := fun b => if b ∈ S then none else match H b with | some (.tbl _) => none | o => o
theorem vis_some {S : List Addr} {H : Hp} {b : Addr} {o : HO} (h : vis S H b = some o) : b ∉ S ∧ H b = some o ∧ ∀ ps, o ≠ .tbl ps := by
  unfold vis at h
  by_cases e : b ∈ S
  · rw [if_pos e] at h
    cases h
  · rw [if_neg e] at h
    cases q : H b with
    | none => rw [q] at h; cases h
    | some u =>
      rw [q] at h
      cases u <;> first | (cases h; done) | (cases h; exact ⟨e, rfl, fun ps z => nomatch z⟩)
theorem vis_at {S : List Addr} {H : Hp} {b : Addr} {o : HO} (h : b ∉ S) (q : H b = some o) (n : ∀ ps, o ≠ .tbl ps) : vis S H b = some o := by
  unfold vis
  rw [if_neg h, q]
  cases o <;> first | rfl | exact absurd rfl (n _)
theorem vis_ext {S : List Addr} {H : Hp} : Ext (vis S H) H := fun a o e => (vis_some e).2.1
theorem vis_mono {S : List Addr} {H H' : Hp} (e : Ext H H') : Ext (vis S H) (vis S H') := fun a o h => by
  obtain ⟨h1, h2, h3⟩ := vis_some h
  exact vis_at h1 (e a o h2) h3
theorem vis_keep {p c : Addr} {S : List Addr} {H H' : Hp} (k : Keep p c H H') (hp : p ∈ S) (hc : c ∈ S) : Ext (vis S H) (vis S H') := fun a o e => by
  obtain ⟨h1, h2, h3⟩ := vis_some e
  exact vis_at h1 (k a o h2 (fun z => h1 (by rw [z]; exact hp)) fun z => h1 (by rw [z]; exact hc)) h3
theorem vis_extN {S : List Addr} {H H' : Hp} (k : LamX.ExtN H H') : Ext (vis S H) (vis S H') := fun a o e => by
  obtain ⟨h1, h2, h3⟩ := vis_some e
  exact vis_at h1 (k a o h2 h3) h3
theorem vis_new {S : List Addr} {H H' : Hp} (h : ∀ b ∈ S, H b ≠ none) : ∀ {a : Addr} {o : HO}, nw H H' a = some o → (∀ ps, o ≠ .tbl ps) → vis S H' a = some o := fun {a o} e n => by
  obtain ⟨h1, h2⟩ := nw_some e
  exact vis_at (fun z => h a z h1) h2 n
theorem tabs_keep {T : List (Addr × Str)} {p c : Addr} {H H' : Hp} (t : LamX.Tabs T H) (k : Keep p c H H') {xs ys : List V} (hp : H p = some (.lst xs)) (hc : H c = some (.lst ys)) : LamX.Tabs T H' := fun q hq => by
  obtain ⟨ps, h1, h2, h3⟩ := t q hq
  have n : ∀ {b : Addr} {o : HO}, H b = some o → (∀ zs, o ≠ .lst zs) → H' b = some o := fun {b o} e n => k b o e (fun z => by
      rw [z, hp] at e
      exact n xs (Option.some.inj e).symm) fun z => by
      rw [z, hc] at e
      exact n ys (Option.some.inj e).symm
  refine ⟨ps, n h1 (fun zs z => by cases z), h2, fun pos cv hcv => ?_⟩
  obtain ⟨c', e1, e2⟩ := h3 pos cv hcv
  exact ⟨c', e1, n e2 (fun zs z => by unfold LamX.CodeO at z; cases z)⟩

theorem tabs_upd {T : List (Addr × Str)} {p : Addr} {H : Hp} {o : HO} (t : LamX.Tabs T H) {xs : List V} (hp : H p = some (.lst xs)) : LamX.Tabs T (upd H p o) := tabs_keep (c := p) t Keep.upd1 hp hp
theorem tabs_upd2 {T : List (Addr × Str)} {p : Addr} {H : Hp} {o : HO} (t : LamX.Tabs T H) {kvs : List (Key × V)} (hp : H p = some (.dK kvs)) : LamX.Tabs T (upd H p o) := fun q hq => by
  obtain ⟨ps, h1, h2, h3⟩ := t q hq
  refine ⟨ps, ?_, h2, fun pos cv hcv => ?_⟩
  · rw [upd_ne fun z => by rw [z, hp] at h1; cases h1]
    exact h1
  · obtain ⟨c', e1, e2⟩ := h3 pos cv hcv
    refine ⟨c', e1, ?_⟩
    rw [upd_ne fun z => by rw [z, hp] at e2; unfold LamX.CodeO at e2; cases e2]
    exact e2
/-! ### own errors with fields, by one word -/
/-- the __init__ of an error class at C that keeps its arguments under the names fs -/
def spX (C : Addr) (fs : List Str) : Sp := fun vs H Q _ => ∃ (a : Addr) (ys : List V), vs = .ref a :: ys ∧ ys.length = fs.length ∧ H a = some (exo a C none) ∧
  ∀ (dx : Addr) (H' : Hp), H dx = none → dx ≠ a → H' a = some (exo a C (some dx)) → H' dx = some (exd dx (fs.zip ys).reverse) → (∀ b, b ≠ a → b ≠ dx → H' b = H b) → Q .non H'
section
variable (P : Program) (w : World) (K : PySem.W.Frag) (mg : Str → Option Value) (base : Heap)
structure Xer (C : Addr) (x : Str) (fs : List Str) : Prop where
  m : mg x = some (.ref C)
  oex : OexC K C
  ex : ∃ fI fd ps, PySem.W.findIn K (.ref C) "__init__" = some (some (.ref fI)) ∧ PySem.W.typeIn K (.ref fI) = some (.type "function") ∧ FnOk P w K mg base CX0 1 fI fd ps (spX C fs) ∧ Binds K fd ps []
end
theorem pa_weak {X : Cx} {es : List PySem.Expr} {ta : TA} (h : PA X es ta) : PA X es (fun σ H Q => ∃ Q0 : List V → Hp → Prop, ta σ H Q0 ∧ ∀ ys H1, Q0 ys H1 → Q ys H1) :=
  ⟨fun pos pins s σ H Q I ⟨Q0, h0, k⟩ => thn (h.run pos pins s σ H Q0 I h0) fun us s1 ⟨vs, H1, I1, r, q⟩ => ⟨vs, H1, I1, r, k _ _ q⟩⟩
section
variable {X : Cx} {C : Addr} {x : Str} {fs : List Str} {p pos : Pos} {e : PySem.Expr} {es : List PySem.Expr} {ta : TA}
theorem pmk_err (c : Xer X.prog X.w X.K X.mg X.base C x fs) (hr : Room 2 X.A) (hg : Gl X x) (ha : PA X (e :: es) ta)
    (hdb : (x == ("__debug__" : Str)) = false := by decide) (he : starEach (e :: es) X.env = (false, eval e X.env) :: starEach es X.env := by rfl) (hpl : (backTo pos (starEach es X.env)).any (·.1) = false := by rfl) :
    PMk X (.Call (.Name x p) (e :: es) [] pos) (fun σ H Q => ta σ H fun ys H1 => ys.length = fs.length ∧ ys.length ≤ 1000 ∧ ∀ d, H1 d = none → Q (.ref C) (some d) (upd H1 d (.xd (fs.zip ys).reverse))) := by
  obtain ⟨fI, fd, ps, iC, tI, F, hb⟩ := c.ex
  have h := pmk_oex (dvs := []) (ds := []) (p := p) (pos := pos) c.oex iC tI F hr hb .nil pass0 hg c.m (pa_weak ha) hdb he hpl
  intro pins s σ H Q I hq
  refine h pins s σ H Q I ?_
  refine ⟨_, hq, fun ys H1 ⟨hl, hz, k⟩ => ?_⟩
  refine ⟨hz, fun a na => ⟨a, ys ++ [], by simp, by simpa using hl, upd_same, fun dx H2 n1 n2 h1 h2 h3 => ⟨rfl, dx, _, h1, h2, ?_, ?_⟩⟩⟩
  · rw [upd_ne n2] at n1
    exact n1
  · rw [upd_ne n2] at n1
    have eH : upd (del H2 a) dx (.xd (fs.zip (ys ++ [])).reverse) = upd H1 dx (.xd (fs.zip ys).reverse) := by
      rw [List.append_nil]
      funext b
      by_cases hb : b = dx
      · rw [hb, upd_same, upd_same]
      · rw [upd_ne hb, upd_ne hb]
        by_cases ha : b = a
        · rw [ha, del_same, na]
        · rw [del_ne ha, h3 b ha hb, upd_ne ha]
    rw [eH]
    exact k dx n1
end

/-! ### what passes on in a def's body, in a lambda's, in an __init__ that says super() -/
section
variable {P : Program} {w : World} {K : PySem.W.Frag} {mg : Str → Option Value} {base : Heap} {N : List Str} {qual : Str} {scope : Scope} {f cc : Addr} {cd : Value} {A : Around} {outer : List Env} {s : Shared} {H : Hp} {E : XK}
theorem tkC : Takes (cxOf (L2.CX P w) P w K mg base N qual scope f cd A outer s H E) (fun cls d _ H => E cls d H) := takes_of rfl rfl rfl rfl
theorem passC : Passes (L2.CX P w) (cxOf (L2.CX P w) P w K mg base N qual scope f cd A outer s H E) E := passes_call tkC fun _ _ _ _ h => h
theorem tkS : Takes (cxS (L2.CX P w) P w K mg base N qual scope f cd cc A outer s H E) (fun cls d _ H => E cls d H) := takes_of rfl rfl rfl rfl
theorem passS : Passes (L2.CX P w) (cxS (L2.CX P w) P w K mg base N qual scope f cd cc A outer s H E) E := passes_call tkS fun _ _ _ _ h => h
theorem passN {X : Cx} : Passes (L2.CX P w) X (fun _ _ _ => False) := fun _ _ _ _ _ _ _ h => by
  obtain ⟨_, _, _, _, _, _, _, _, _, _, _, _, z⟩ := h
  exact z.elim
theorem tkL {X : Cx} {c' : Addr} : Takes (LamX.lamCx X A outer s H E scope f c') (fun cls d _ H => E cls d H) := takes_of rfl rfl rfl rfl
theorem passLm {X : Cx} {c' : Addr} : Passes (L2.CX X.prog X.w) (LamX.lamCx X A outer s H E scope f c') E := passes_call tkL fun _ _ _ _ h => h
end
/-! ### plain data: its type, its truth as a name -/
def tyN : PyData → String
  | .none => "NoneType"
  | .bool _ => "bool"
  | .int _ => "int"
  | .str _ => "str"
  | .list _ => "list"
  | .tuple _ => "tuple"
  | .dict _ => "dict"
theorem tyX_of {K : PySem.W.Frag} {H : Hp} {v : V} {d : PyData} (h : TV H v d) : TyX K H v (.type (tyN d)) := by
  cases h with
  | non => exact .base .non
  | bl b => exact .base (.bl b)
  | int i => exact .base (.int i)
  | str x => exact .base (.str x)
  | lst e _ => exact .base (.lst e)
  | tup e _ => exact .base (.tup e)
  | dct e _ _ => exact .base (.dK e)
def isStrD : PyData → Bool
  | .str _ => true
  | _ => false
theorem kit_str {K : PySem.W.Frag} (d : PyData) : PySem.W.kitOne K (.type (tyN d)) (.type "str") = some (isStrD d) := by
  have k1 : kitB "NoneType" "str" = some false := by decide +kernel
  have k2 : kitB "bool" "str" = some false := by decide +kernel
  have k3 : kitB "int" "str" = some false := by decide +kernel
  have k4 : kitB "str" "str" = some true := by decide +kernel
  have k5 : kitB "list" "str" = some false := by decide +kernel
  have k6 : kitB "tuple" "str" = some false := by decide +kernel
  have k7 : kitB "dict" "str" = some false := by decide +kernel
  cases d <;> first | exact kit_ty k1 | exact kit_ty k2 | exact kit_ty k3 | exact kit_ty k4 | exact kit_ty k5 | exact kit_ty k6 | exact kit_ty k7
theorem strD {d : PyData} (h : isStrD d = true) : ∃ z, d = .str z := by
  cases d <;> first | exact ⟨_, rfl⟩ | cases h
theorem tv_str {H : Hp} {v : V} {z : Str} (h : TV H v (.str z)) : v = .str z := by
  cases h
  rfl
/-- texts within are short -/
def SmD (d : PyData) : Prop := ∀ z, d = .str z → z.length ≤ 1000
/-- a def that closes over __class__ -/
structure FunS (K : PySem.W.Frag) (x qual : Str) (st : Stmt) (f : Addr) (fd : FuncData) (cda cc : Addr) : Prop where
  ex : ∃ (oc : Value) (od : Option Addr) (kV doc pm : Value) (an : Option Addr) (ct : Value) (osl : Array (Option Value)),
    fd = PySem.W.ksFn x qual (defArgs st) (defBody st) (defScope st) .none kV doc pm an (.ref cda) ct cc ∧ K.lookup f = some ⟨oc, od, .func fd, osl⟩ ∧ PySem.W.codeIn K (.ref cda) qual = true
  kp : PySem.W.keepIn K (.ref f) = true

/-! ### a comprehension that makes one item a turn; what is kept may hang on the turn -/
section
variable {J : It} {n : Nat} {G : Hp → Prop} {Y : Nat → Hp → V → Hp → Prop} {g : TG} {te : TE} {vs : List Nat} {σ : L2.St} {H1 : Hp} {D : Addr} {Qd : Hp → Prop}
theorem lc_mapI (w : Walk J n G Y) (S : List Addr) (hS : D ∈ S) (Iv : Nat → Hp → Prop) (R : Nat → V → Hp → Prop) (hn : n ≤ 100000) (hm : ∀ j y H H', Ext H H' → R j y H → R j y H')
    (hIv : ∀ i H o, Iv i H → Iv i (upd H D o)) (h0 : Iv 0 (upd H1 D (.lst []))) (hG : ∀ i H, Ext (hid S H1) (hid S H) → Iv i H → G H)
    (hs : ∀ i x H H' acc (C : VK), i < n → Ext (hid S H1) (hid S H) → Iv i H → H D = some (.lst acc) → Y i H x H' → (∀ y H4, H4 D = some (.lst acc) → Ext (hid S H) (hid S H4) → Iv (i + 1) H4 → R i y (hid S H4) → C y H4) →
      g x (wipe σ vs) H' fun σ2 H2 => wipe σ2 vs = wipe σ vs ∧ te σ2 H2 C)
    (hd : ∀ H ys, Ext (hid S H1) (hid S H) → Iv n H → H D = some (.lst ys) → ys.length = n → (∀ j y, ys[j]? = some y → R j y (hid S H)) → Qd H) :
    ∃ W : Nat → Nat → Hp → Prop, (∃ m, W 0 m (upd H1 D (.lst []))) ∧ ∀ i m H, W i m H →
      (J.stop i H ∧ Qd H) ∨ (J.go i H ∧ ∃ Nx : Hp → Prop, (∀ H', Nx H' → ∃ m', m' < m ∧ W (i + 1) m' H') ∧ ∀ x H', J.yld i H x H' → g x (wipe σ vs) H' fun σ2 H2 => wipe σ2 vs = wipe σ vs ∧ tYes σ2 H2 fun b H3 =>
        if b = true then te σ2 H3 fun y H4 => ∃ acc, H4 D = some (.lst acc) ∧ acc.length < sizeLine ∧ Nx (upd H4 D (.lst (acc ++ [y]))) else Nx H3) := by
  refine lc_it w (fun i H => ∃ ys : List V, H D = some (.lst ys) ∧ ys.length = i ∧ Ext (hid S H1) (hid S H) ∧ Iv i H ∧ ∀ j y, ys[j]? = some y → R j y (hid S H))
    ⟨[], upd_same, rfl, by rw [hid_upd hS]; exact Ext.rfl', h0, fun j y e => by simp at e⟩ (fun i H _ ⟨_, _, _, e, iv, _⟩ => hG i H e iv) ?_ ?_
  · rintro i x H H' hi ⟨ys, hD, hl, e, iv, r⟩ y
    refine hs i x H H' ys _ hi e iv hD y fun v H4 h4 e4 iv4 r4 => ?_
    refine ⟨ys, h4, Nat.lt_of_le_of_lt (show ys.length ≤ 100000 by omega) (by decide), ys ++ [v], upd_same, by rw [List.length_append, hl]; rfl, by rw [hid_upd hS]; exact e.trans e4, hIv _ _ _ iv4, fun j z hz => ?_⟩
    rw [hid_upd hS]
    by_cases hj : j < ys.length
    · rw [List.getElem?_append_left hj] at hz
      exact hm j z _ _ e4 (r j z hz)
    · rw [List.getElem?_append_right (by omega)] at hz
      have : j = i := by
        cases q : j - ys.length with
        | zero => omega
        | succ k => rw [q] at hz; simp at hz
      subst this
      rw [hl] at hz
      simp at hz
      subst hz
      exact r4
  · rintro H ⟨ys, hD, hl, e, iv, r⟩
    exact hd H ys e iv hD hl r
end

/-! ### C.m(a = v), m a classmethod -/
section
variable (P : Program) (w : World) (K : PySem.W.Frag) (mg : Str → Option Value) (base : Heap) (CX : CXT) (k : Nat)
structure ClmK (C : Addr) (m a : Str) (sp : Sp) : Prop where
  ex : ∃ mc p g fd c, ClX.CRead K C mc ∧ ClX.CMet K C mc m p g ∧ FnOk P w K mg base CX k g fd [c, a] sp ∧ ∀ (s : Shared) (u : Value), BindsTo s fd ⟨[.ref C], [(a, u)]⟩ [(c, .ref C), (a, u)]
end
section
variable {X : Cx} {CX : CXT} {k : Nat} {C : Addr} {sp : Sp} {E : XK} {m a : Str} {pos apos : Pos} {o : PySem.Expr} {kws : List Keyword} {ta : TE} {tk : TA} {pl : Sem Bool}
theorem pe_clmk (c : ClmK X.prog X.w X.K X.mg X.base CX k C m a sp) (hr : Room k X.A) (ho : PE X o ta) (hx : Passes CX X E) (hkw : PK X kws tk)
    (hall : (backToKw pos (keywordEach kws X.env)).all (·.1.isSome) = true := by rfl) (hks : (backToKw pos (keywordEach kws X.env)).filterMap (·.1) = [a] := by rfl)
    (hpl : ((backTo pos (starEach [] X.env)).any (·.1) || (backToKw pos (keywordEach kws X.env)).any (·.1.isNone)) = false := by rfl)
    (ht : eval (.Call (.Attribute o m apos) [] kws pos) X.env = (do
      let ov ← eval o X.env
      standAt apos.atName
      let (f, first) ← holding [ov] (getMethod ov m pl)
      callWith pos f first (backTo pos (starEach [] X.env)) (backToKw pos (keywordEach kws X.env))) := by rfl) :
    PE X (.Call (.Attribute o m apos) [] kws pos) (fun σ H Q => ta σ H fun x H1 => x = .ref C ∧ tk σ H1 fun zs H2 => ∃ z, zs = [z] ∧ sp [.ref C, z] H2 Q E) := by
  obtain ⟨mc, p, g, fd, cn, r, c, F, hb⟩ := c.ex
  refine ⟨fun pins s σ H Q I h => ?_⟩
  refine PySem.W.methodCall_KW (pl := pl) (thn (ho.run pins s σ H _ I h) fun u s1 ⟨x, H1, I1, rx, ex, q⟩ => ?_) ht
  subst ex
  obtain rfl : u = Value.ref C := rx
  refine ClX.getmethcm_ok I1 r c fun s2 I2 => ?_
  refine PySem.W.callWith_of (P := PySem.W.MethP X.K s1.heap.objs.size g (.ref C)) hpl (PySem.W.keeps_M c.fi) (evalArgs_kw2_nil hall ?_)
  refine thn (hkw.run pos _ s2 σ H1 _ I2 q) fun ws s3 ⟨zs, H2, I3, rz, z, ez, q3⟩ => ?_
  subst ez
  refine ⟨⟨ClX.pin_at I3, I3.kIn⟩, ?_⟩
  rw [hks]
  obtain ⟨u, rfl, ru⟩ := vals1 rz
  have r2 : Vals [V.ref C, z] [Value.ref C, u] := .cons rfl (.cons ru .nil)
  have run := F.run X.A X.stack s3 H2 ⟨[.ref C], [(a, u)]⟩ [.ref C, u] [.ref C, z] Q E hr I3.env0 (hb s3 u) r2 q3
  have z2 : wpAny (model X.prog X.w) X.A (call (.ref s1.heap.objs.size) [] [(a, u)]) (EP X ((s1.heap.objs.size, PySem.W.methodObj (.ref g) (.ref C)) :: pins) σ Q) X.xe s3 := by
    refine wpAny_call (PySem.W.method_call (ClX.pin_at I3) (codeAny_mono run fun res s' hq => ?_))
    match res, hq with
    | .error e, hq => exact hx _ σ H2 s3 e s' I3 hq
    | .ok (.ret u), hq => exact I3.after hq
  exact thn z2 fun _ _ y => ClX.unpinE y
end

mutual
theorem tv_vis {H : Hp} : ∀ {v : V} {d : PyData}, TV H v d → TV (vis [] H) v d
  | _, _, .non => .non
  | _, _, .bl b => .bl b
  | _, _, .int i => .int i
  | _, _, .str x => .str x
  | _, _, .lst q h => .lst (vis_at (by simp) q fun _ z => by cases z) (tvs_vis h)
  | _, _, .tup q h => .tup (vis_at (by simp) q fun _ z => by cases z) (tvs_vis h)
  | _, _, .dct q h1 h2 => .dct (vis_at (by simp) q fun _ z => by cases z) (tvs_vis h1) (tvs_vis h2)
theorem tvs_vis {H : Hp} : ∀ {vs : List V} {ds : List PyData}, TVs H vs ds → TVs (vis [] H) vs ds
  | _, _, .nil => .nil
  | _, _, .cons h hs => .cons (tv_vis h) (tvs_vis hs)
end
end Ls
end
section
set_option Elab.async false
set_option linter.all false
set_option maxRecDepth 100000
set_option maxHeartbeats 4000000
namespace Ls
open PySem PySem.Spec PyProof.Rows L2

/-! ### x == y and x != y by an own __eq__, both answers, y of any kind -/
namespace OW
open PySem.W
section
variable {prog : Program} {w : World} {A : Around} {E : Value → Shared → Prop} {s : Shared} {K : Frag} {x C f : Addr} {ox : Obj} {od : Option Obj} {b tb : Value}
theorem ifBound_B {M : Model} {id : String} {name : Str} {args : List Value} {Q : Option Value → Shared → Prop} (X : K.In s.heap) (I : InstAt s.heap x ox C od) (hs : findIn K (.ref C) name = some (some (.builtin id))) (hb : bindSpecial (.builtin id) (.ref x) = pure (.builtin id, [.ref x]))
    (h : wpAny M A (call (.builtin id) (.ref x :: args)) (fun v => Q (some v)) E s) : wpAny M A (callSpecialIfBound? (.ref x) name args) Q E s := by
  simp only [callSpecialIfBound?, bindSpecialIfBound?]
  refine wpAny_holding (wpAny_bind (wpAny_bind (wpAny_bind (I.type.here ((looks_findIn X hs).here ?_)))))
  refine wpAny_bind (wpAny_askSetting (wpAny_ite ?_))
  have last : wpAny M A (call (.builtin id) ([.ref x] ++ args) >>= fun v => pure (some v)) Q E s := wpAny_bind (wpAny_mono h (fun v s' h' => wpAny_pure h') fun _ _ h' => h')
  split
  · exact wpAny_bind (wpAny_of_eq hb (wpAny_pure (by exact last)))
  · exact wpAny_tryCatch (wpAny_bind (wpAny_of_eq hb (wpAny_pure (by exact last))))
theorem ne_body {Q : Fin → Shared → Prop} (hu : A.units < cLine) (X : K.In s.heap) (I : InstAt s.heap x ox C od) (hs : findIn K (.ref C) "__eq__" = some (some (.ref f))) (hf : isFn K (.ref f) = true)
    (h : wpAny (model prog w) A (call (.ref f) [.ref x, b]) (fun v s' => ∃ r, v = .bool r ∧ Q (.done (.ret (.bool (!r)))) s') E s) : wpAny (model prog w) A (Builtin.«object.__ne__» ⟨[.ref x, b], []⟩) Q E s := by
  unfold Builtin.«object.__ne__»
  refine wpAny_bind (wpAny_of_eq (a := ((Value.ref x : Value), [b])) (by first | rfl | (simp only [slotArgs]; rfl)) ?_)
  refine wpAny_bind (wpAny_cRoomFor hu ?_)
  refine wpAny_bind (ifBound_K X I hs hf (wpAny_mono h (fun v s' hv => ?_) fun _ _ e => e))
  obtain ⟨r, rfl, q⟩ := hv
  exact wpAny_bind (wpAny_truthy_bool (wpAny_pure q))
theorem rich_ne {L : Addr} {h₀ : Heap} {m : Str → Option Value} {Q : Value → Shared → Prop} (hu : A.units + 1 < cLine) (F : Fr h₀ L s.heap m) (X₀ : K.In h₀) (I : InstAt s.heap x ox C od) (ht : Looks (model prog w) s.heap (typeOf b) tb) (hn : notFirst K C tb = true)
    (hs : findIn K (.ref C) "__eq__" = some (some (.ref f))) (hf : isFn K (.ref f) = true) (hne : findIn K (.ref C) "__ne__" = some (some (.builtin "object.__ne__"))) (hm : mroIn K C (.type "object") = some true)
    (h : wpAny (model prog w) A.in1 (call (.ref f) [.ref x, b]) (fun v s' => ∃ r, v = .bool r ∧ Q (.bool (!r)) s') E s) : wpAny (model prog w) A (richCompare .NotEq (.ref x) b) Q E s := by
  have X := X₀.keeps F.keep
  have sub : Looks (model prog w) s.heap (isInstance (.ref x) (.type "object")) true := I.type.andThen (looks_mroIn X hm)
  have bd : bindSpecial (.builtin "object.__ne__") (.ref x) = pure (.builtin "object.__ne__", [.ref x]) := PySem.F.cmp_object.ne.bind _
  have one : wpAny (model prog w) A (tryCompare (.ref x) "__ne__" b) (fun r s' => ∃ v, r = some (.bool v) ∧ Q (.bool v) s') E s := by
    unfold tryCompare
    refine wpAny_bind (ifBound_B X I hne bd ?_)
    obtain ⟨hp, g, d, t, os⟩ := s
    refine wpAny_call (codeAny_call_builtin PySem.F.cmp_object.ne.plain PySem.F.cmpEntry_ne (@check_slot (model prog w) _ _ ⟨hp, g, d, t, os⟩ "object.__ne__" "object" "__ne__" (.ref x) [b] [] _ PySem.F.cmpKind_ne PySem.F.cmpSplit_ne sub (PySem.F.cmpArgs_ne _ _) ?_))
    refine ne_body (A := A.in1) hu X I hs hf (wpAny_mono h (fun v s' hv => ?_) fun _ _ e => e)
    obtain ⟨r, rfl, q⟩ := hv
    exact ⟨r, rfl, wpAny_pure ⟨_, rfl, q⟩⟩
  unfold richCompare
  simp only [oneThing_ref]
  refine wpAny_holding (wpAny_bind (wpAny_cRoomFor (by omega) (wpAny_bind (I.type.here (wpAny_bind (ht.here ?_))))))
  split
  · rename_i q
    have e : subIn K tb (.ref C) = some false := by
      rcases Bool.or_eq_true_iff.mp hn with e | e
      · rw [beq_iff_eq.mp e] at q
        simp at q
      · exact beq_iff_eq.mp e
    refine wpAny_bind ((looks_subIn X e).here ?_)
    simp only [Bool.false_eq_true, if_false]
    refine wpAny_bind (wpAny_mono one (fun r s' z => ?_) fun _ _ e => e)
    obtain ⟨v, rfl, hq⟩ := z
    exact wpAny_pure hq
  · refine wpAny_bind (wpAny_pure ?_)
    simp only [Bool.false_eq_true, if_false]
    refine wpAny_bind (wpAny_mono one (fun r s' z => ?_) fun _ _ e => e)
    obtain ⟨v, rfl, hq⟩ := z
    exact wpAny_pure hq
end
end OW
/-- x == y: x an instance, its class's own __eq__ at f keeps sp -/
def rEqO (K : PySem.W.Frag) (f : Addr) (sp : Sp) (E : XK) : R2 := fun x y H Q => ∃ (a C dx : Addr) (fs : List (Str × V)) (tb : Value), x = .ref a ∧ H a = some (.ins C dx fs) ∧ PySem.W.findIn K (.ref C) "__eq__" = some (some (.ref f)) ∧ TyX K H y tb ∧ PySem.W.notFirst K C tb = true ∧
  sp [x, y] H (fun v H' => ∃ r, v = .bl r ∧ Q (.bl r) H') E
def rNeO (K : PySem.W.Frag) (f : Addr) (sp : Sp) (E : XK) : R2 := fun x y H Q => ∃ (a C dx : Addr) (fs : List (Str × V)) (tb : Value), x = .ref a ∧ H a = some (.ins C dx fs) ∧ PySem.W.findIn K (.ref C) "__eq__" = some (some (.ref f)) ∧ PySem.W.findIn K (.ref C) "__ne__" = some (some (.builtin "object.__ne__")) ∧ PySem.W.mroIn K C (.type "object") = some true ∧
  TyX K H y tb ∧ PySem.W.notFirst K C tb = true ∧ sp [x, y] H (fun v H' => ∃ r, v = .bl r ∧ Q (.bl (!r)) H') E
section
variable {X : Cx} {CX : CXT} {n : Nat} {f : Addr} {sp : Sp} {E : XK}
theorem op_eqO (F : FnR X.prog X.w X.K X.mg X.base CX n f sp) (hf : PySem.W.isFn X.K (.ref f) = true) (hr : Room n X.A) (hx : Passes CX X E) : OpR X (compareOp .Eq) (rEqO X.K f sp E) := by
  intro pins s σ H x y v u Q I rx ry h
  obtain ⟨a, C, dx, fs, tb, rfl, ha, hs, ty, hn, q⟩ := h
  cases (show v = Value.ref a from rx)
  obtain ⟨mA, J, _⟩ := ins_get I.hok ha
  obtain ⟨od, J, _⟩ := J.look
  obtain ⟨m, hF⟩ := I.fr
  obtain ⟨P, Z, p, _⟩ := kit_of I ry ty
  show wpAny (model X.prog X.w) X.A (richCompare .Eq (.ref a) u) (EP X pins σ Q) X.xe s
  refine PySem.W.cmp_K (op := .Eq) hr.units0 hF I.ok.mod.kin J (Z.ty _ _ I.kIn p) hn hs hf ?_
  have r2 : Vals [V.ref a, y] [Value.ref a, u] := .cons rfl (.cons ry .nil)
  refine thn (wpAny_call (run_fnR F hr hx I r2 q)) fun w' s' ⟨z, H', I', rz, r, ez, q'⟩ => ?_
  subst ez
  cases rz
  exact ⟨.bl r, H', I', rfl, q'⟩
theorem op_neO (F : FnR X.prog X.w X.K X.mg X.base CX n f sp) (hf : PySem.W.isFn X.K (.ref f) = true) (hr : Room (n + 1) X.A) (hx : ∀ (pins : List (Addr × Obj)) (σ : L2.St) (H : Hp) (s : Shared) (e : Value) (s' : Shared), Inv X pins σ H s → CX X.stack H s E e s' → X.xe e s') : OpR X (compareOp .NotEq) (rNeO X.K f sp E) := by
  intro pins s σ H x y v u Q I rx ry h
  obtain ⟨a, C, dx, fs, tb, rfl, ha, hs, hne, hm, ty, hn, q⟩ := h
  cases (show v = Value.ref a from rx)
  obtain ⟨mA, J, _⟩ := ins_get I.hok ha
  obtain ⟨od, J, _⟩ := J.look
  obtain ⟨m, hF⟩ := I.fr
  obtain ⟨P, Z, p, _⟩ := kit_of I ry ty
  show wpAny (model X.prog X.w) X.A (richCompare .NotEq (.ref a) u) (EP X pins σ Q) X.xe s
  refine OW.rich_ne (by have := hr.units; omega) hF I.ok.mod.kin J (Z.ty _ _ I.kIn p) hn hs hf hne hm ?_
  refine wpAny_call (codeAny_mono (F X.A.in1 X.stack s H [.ref a, u] [.ref a, y] _ E hr.in1 I.env0.in1 (.cons rfl (.cons ry .nil)) q) fun r s' hq => ?_)
  match r, hq with
  | .error e, hq => exact hx pins σ H s e s' I hq
  | .ok (.ret w'), hq =>
    obtain ⟨z, H', I', rz, r, ez, q'⟩ := I.after hq
    subst ez
    cases rz
    exact ⟨r, rfl, .bl (!r), H', I', rfl, q'⟩
end

/-! ### the same, the written part by its own name (for a block) -/
section
variable {X : Cx} {P : Program} {w : World} {K : PySem.W.Frag} {mg : Str → Option Value} {base : Heap} {CX : CXT} {n : Nat} {f : Addr} {sp : Sp} {E : XK} {A : Around}
theorem op_eqOK (F : FnR P w K mg base CX n f sp) (hf : PySem.W.isFn K (.ref f) = true) (hr : Room n A) (hP : X.prog = P) (hw : X.w = w) (hK : X.K = K) (hmg : X.mg = mg) (hb : X.base = base) (hA : X.A = A) (hx : Passes CX X E) : OpR X (compareOp .Eq) (rEqO K f sp E) := by
  subst hP hw hK hmg hb hA
  exact op_eqO F hf hr hx
theorem ix_listK (hK : X.K = K) : IxR X (rIxL K) := by
  subst hK
  exact ix_list
end
end Ls
end
section
set_option Elab.async false
set_option linter.all false
set_option maxRecDepth 100000
set_option maxHeartbeats 4000000
namespace Ls
open PySem PySem.Spec PyProof.Rows L2
open TL
/-! ### a text cut at one sign -/
theorem pre1 (s c : Nat) (r : List Nat) : pre [s] (c :: r) = decide (c = s) := by
  show ((c :: r).take 1 == [s]) = _
  by_cases h : c = s
  · subst h
    simp
  · have : ¬ [c] = [s] := fun e => h (List.cons.inj e).1
    simp [h]
theorem spl1_ne (s : Nat) : ∀ (l acc : List Nat), spl [s] 0 acc l ≠ []
  | [], acc => by rw [spl_nil]; simp
  | c :: r, acc => by
    by_cases h : c = s
    · rw [spl_hit (by rw [pre1, decide_eq_true h])]
      simp
    · rw [spl_miss (by rw [pre1, decide_eq_false h])]
      exact spl1_ne s r _
theorem joinL_cons (S a : List Nat) : ∀ {l : List (List Nat)}, l ≠ [] → joinL S (a :: l) = a ++ (S ++ joinL S l)
  | [], h => absurd rfl h
  | b :: r, _ => rfl
theorem spl1_join (s : Nat) : ∀ (l acc : List Nat), joinL [s] (spl [s] 0 acc l) = acc ++ l
  | [], acc => by
    rw [spl_nil, List.append_nil]
    rfl
  | c :: r, acc => by
    by_cases h : c = s
    · rw [spl_hit (by rw [pre1, decide_eq_true h])]
      show joinL [s] (acc :: spl [s] 0 [] r) = _
      rw [joinL_cons _ _ (spl1_ne s r []), spl1_join s r []]
      subst h
      simp
    · rw [spl_miss (by rw [pre1, decide_eq_false h]), spl1_join s r (acc ++ [c])]
      simp
theorem spl1_free (s : Nat) : ∀ (l acc : List Nat), s ∉ acc → ∀ p ∈ spl [s] 0 acc l, s ∉ p
  | [], acc, ha, p, hp => by
    rw [spl_nil] at hp
    rw [List.mem_singleton.mp hp]
    exact ha
  | c :: r, acc, ha, p, hp => by
    by_cases h : c = s
    · rw [spl_hit (by rw [pre1, decide_eq_true h])] at hp
      rcases List.mem_cons.mp hp with e | e
      · rw [e]
        exact ha
      · exact spl1_free s r [] (by simp) p e
    · rw [spl_miss (by rw [pre1, decide_eq_false h])] at hp
      exact spl1_free s r _ (by simp [ha, Ne.symm h]) p hp
theorem spl1_sub (s : Nat) : ∀ (l acc : List Nat), ∀ p ∈ spl [s] 0 acc l, p.length ≤ acc.length + l.length ∧ ∀ c ∈ p, c ∈ acc ∨ c ∈ l
  | [], acc, p, hp => by
    rw [spl_nil] at hp
    rw [List.mem_singleton.mp hp]
    exact ⟨Nat.le_refl _, fun c h => .inl h⟩
  | c :: r, acc, p, hp => by
    by_cases h : c = s
    · rw [spl_hit (by rw [pre1, decide_eq_true h])] at hp
      rcases List.mem_cons.mp hp with e | e
      · rw [e]
        exact ⟨by omega, fun c h => .inl h⟩
      · obtain ⟨h1, h2⟩ := spl1_sub s r [] p e
        refine ⟨by simp at h1 ⊢; omega, fun c h => (h2 c h).elim (fun z => absurd z (by simp)) fun z => .inr (by simp [z])⟩
    · rw [spl_miss (by rw [pre1, decide_eq_false h])] at hp
      obtain ⟨h1, h2⟩ := spl1_sub s r _ p hp
      refine ⟨by simp at h1 ⊢; omega, fun c' h => (h2 c' h).elim (fun z => ?_) fun z => .inr (by simp [z])⟩
      rcases List.mem_append.mp z with z | z
      · exact .inl z
      · exact .inr (by simp at z; simp [z])
section
variable {x y : Str} {s : Nat}
theorem split_tl (ey : tl y = [s]) (hk : y.cps.all (· < 256) = true) : (Txt.split x y).map tl = spl [s] 0 [] (tl x) := by
  rw [split_spl x y (by rw [ey]; simp) (kind_ok hk), ey]
theorem split_back (ey : tl y = [s]) (hk : y.cps.all (· < 256) = true) : Txt.join y (Txt.split x y) = x := by
  refine ext_tl ?_
  rw [join_eq, tl_join, ey, split_tl ey hk, spl1_join]
  rfl
theorem split_free (ey : tl y = [s]) (hk : y.cps.all (· < 256) = true) {p : Str} (hp : p ∈ Txt.split x y) : s ∉ tl p := by
  have h : tl p ∈ (Txt.split x y).map tl := List.mem_map.mpr ⟨p, hp, rfl⟩
  rw [split_tl ey hk] at h
  exact spl1_free s _ _ (by simp) _ h
theorem split_sub (ey : tl y = [s]) (hk : y.cps.all (· < 256) = true) {p : Str} (hp : p ∈ Txt.split x y) : p.length ≤ x.length ∧ ∀ c ∈ tl p, c ∈ tl x := by
  have h : tl p ∈ (Txt.split x y).map tl := List.mem_map.mpr ⟨p, hp, rfl⟩
  rw [split_tl ey hk] at h
  obtain ⟨h1, h2⟩ := spl1_sub s _ _ _ h
  refine ⟨?_, fun c hc => (h2 c hc).elim (fun z => absurd z (by simp)) fun z => z⟩
  rw [len_tl p, len_tl x]
  simpa using h1
theorem split_ne (ey : tl y = [s]) (hk : y.cps.all (· < 256) = true) : Txt.split x y ≠ [] := fun e => by
  have h := split_tl (x := x) ey hk
  rw [e] at h
  exact spl1_ne s _ _ h.symm
end
theorem sp_tl : tl (" " : Str) = [32] := by decide +kernel
theorem sp_kd : (" " : Str).cps.all (· < 256) = true := by decide +kernel
theorem split2 {z a b : Str} (h : Txt.split z " " = [a, b]) : z = a ++ " " ++ b := by
  have e := split_back (x := z) sp_tl sp_kd
  rw [h, join_eq] at e
  exact e.symm
theorem split_two {a b : Str} (ha : (32 : Nat) ∉ tl a) (hb : (32 : Nat) ∉ tl b) : Txt.split (a ++ " " ++ b) " " = [a, b] := by
  have e : a ++ " " ++ b = Txt.join " " [a, b] := by rw [join_eq]; rfl
  rw [e]
  exact split_join sp_tl sp_kd (by simp) (by
    intro p hp
    rcases List.mem_cons.mp hp with rfl | hp
    · exact ha
    · rw [List.mem_singleton.mp hp]; exact hb)
/-! ### short texts of plain signs -/
def OkS (n : Nat) (z : Str) : Prop := z.length ≤ n ∧ ∀ c ∈ tl z, c < 256
theorem OkS.mono {n m : Nat} {z : Str} (h : OkS n z) (l : n ≤ m) : OkS m z := ⟨Nat.le_trans h.1 l, h.2⟩
theorem OkS.append {n m : Nat} {a b : Str} (h : OkS n a) (k : OkS m b) : OkS (n + m) (a ++ b) := ⟨by
  rw [Str.length_append]
  exact Nat.add_le_add h.1 k.1, fun c hc => by
  rw [tl_append] at hc
  rcases List.mem_append.mp hc with hc | hc
  · exact h.2 c hc
  · exact k.2 c hc⟩
theorem OkS.part {n : Nat} {x y p : Str} {s : Nat} (h : OkS n x) (ey : tl y = [s]) (hk : y.cps.all (· < 256) = true) (hp : p ∈ Txt.split x y) : OkS n p :=
  let ⟨h1, h2⟩ := split_sub ey hk hp
  ⟨Nat.le_trans h1 h.1, fun c hc => h.2 c (h2 c hc)⟩
/-- plain data that repr can show -/
structure Shw (n : Nat) (d : PyData) : Prop where
  sh : d.showable = true
  dp : d.depth ≤ 20
  ln : d.shown.length ≤ n
theorem Shw.str {n : Nat} {z : Str} (h : OkS n z) : Shw (10 * n + 2) (.str z) := ⟨rfl, Nat.zero_le _, by
  have := StrLaws.reprText_len z fun c hc => Nat.lt_trans (h.2 c hc) (by decide)
  show (reprText z).length ≤ _
  have := h.1
  omega⟩
theorem Shw.mono {n m : Nat} {d : PyData} (h : Shw n d) (l : n ≤ m) : Shw m d := ⟨h.sh, h.dp, Nat.le_trans h.ln l⟩
theorem Shw.list1 {n : Nat} {a : PyData} (ha : Shw n a) (hd : a.depth < 20) : Shw (n + 5) (.list [a]) := ⟨by
  show (a.showable && true) = true
  rw [ha.sh]
  rfl, by
  show max a.depth 0 + 1 ≤ 20
  omega, by
  have := listText_len_le [a.shown]
  have := ha.ln
  show (listText [a.shown]).length ≤ _
  simp at *
  omega⟩
theorem Shw.tup1 {n : Nat} {a : PyData} (ha : Shw n a) (hd : a.depth < 20) : Shw (n + 5) (.tuple [a]) := ⟨by
  show (a.showable && true) = true
  rw [ha.sh]
  rfl, by
  show max a.depth 0 + 1 ≤ 20
  omega, by
  have := tupleText_len_le [a.shown]
  have := ha.ln
  show (tupleText [a.shown]).length ≤ _
  simp at *
  omega⟩
theorem Shw.list2 {n m : Nat} {a b : PyData} (ha : Shw n a) (hb : Shw m b) (hd : a.depth < 20) (hd2 : b.depth < 20) : Shw (n + m + 7) (.list [a, b]) := ⟨by
  show (a.showable && (b.showable && true)) = true
  rw [ha.sh, hb.sh]
  rfl, by
  show max a.depth (max b.depth 0) + 1 ≤ 20
  omega, by
  have := listText_len_le [a.shown, b.shown]
  have := ha.ln
  have := hb.ln
  show (listText [a.shown, b.shown]).length ≤ _
  simp at *
  omega⟩
theorem Shw.tup2 {n m : Nat} {a b : PyData} (ha : Shw n a) (hb : Shw m b) (hd : a.depth < 20) (hd2 : b.depth < 20) : Shw (n + m + 7) (.tuple [a, b]) := ⟨by
  show (a.showable && (b.showable && true)) = true
  rw [ha.sh, hb.sh]
  rfl, by
  show max a.depth (max b.depth 0) + 1 ≤ 20
  omega, by
  have := tupleText_len_le [a.shown, b.shown]
  have := ha.ln
  have := hb.ln
  show (tupleText [a.shown, b.shown]).length ≤ _
  simp at *
  omega⟩

theorem joinL_nil : ∀ l : List (List Nat), joinL [] l = l.flatten
  | [] => rfl
  | [a] => by simp [joinL]
  | a :: b :: r => by
    rw [joinL_cons _ _ (by simp), joinL_nil (b :: r)]
    simp
/-- single signs put together -/
theorem join_signs {cs : List Nat} : tl (Txt.join "" (cs.map fun c => (⟨#[c]⟩ : Str))) = cs := by
  have e0 : tl ("" : Str) = [] := by decide +kernel
  rw [join_eq, tl_join, e0, joinL_nil, List.map_map]
  have : ∀ l : List Nat, (l.map (tl ∘ fun c => (⟨#[c]⟩ : Str))).flatten = l := fun l => by
    induction l with
    | nil => rfl
    | cons c r ih =>
      rw [List.map_cons, List.flatten_cons, ih]
      rfl
  exact this cs
/-! ### rows of data -/
theorem TVs.len {H : Hp} : ∀ {xs : List V} {ds : List PyData}, TVs H xs ds → xs.length = ds.length
  | _, _, .nil => rfl
  | _, _, .cons _ t => by simp [TVs.len t]
theorem TVs.at_ {H : Hp} : ∀ {xs : List V} {ds : List PyData} {i : Nat} {v : V}, TVs H xs ds → xs[i]? = some v → ∃ d, ds[i]? = some d ∧ TV H v d
  | _, _, _, _, .nil, h => by simp at h
  | _, _, 0, _, .cons r _, h => by simp at h; subst h; exact ⟨_, rfl, r⟩
  | _, _, i + 1, v, .cons _ t, h => by
    obtain ⟨d, h1, h2⟩ := TVs.at_ (i := i) (v := v) t (by simpa using h)
    exact ⟨d, by simpa using h1, h2⟩
theorem spl1_len (s : Nat) : ∀ (l acc : List Nat), (spl [s] 0 acc l).length ≤ l.length + 1
  | [], acc => by rw [spl_nil]; simp
  | c :: r, acc => by
    by_cases h : c = s
    · rw [spl_hit (by rw [pre1, decide_eq_true h])]
      have := spl1_len s r []
      simp only [List.length_cons]
      show (spl [s] 0 [] r).length + 1 ≤ _
      omega
    · rw [spl_miss (by rw [pre1, decide_eq_false h])]
      have := spl1_len s r (acc ++ [c])
      simp only [List.length_cons]
      omega
theorem split_len {x y : Str} {s : Nat} (ey : tl y = [s]) (hk : y.cps.all (· < 256) = true) : (Txt.split x y).length ≤ x.length + 1 := by
  have h := congrArg List.length (split_tl (x := x) ey hk)
  rw [List.length_map] at h
  rw [h, len_tl x]
  exact spl1_len s _ _
end Ls
end
section
set_option Elab.async false
set_option linter.all false
set_option maxRecDepth 100000
set_option maxHeartbeats 4000000
namespace Ls
open PySem PySem.Spec PyProof.Rows L2
open TL
/-! ### z[::-1], z a text -/
def revS (z : Str) : Str := ⟨z.cps.toList.reverse.toArray⟩
theorem tl_revS (z : Str) : tl (revS z) = (tl z).reverse := by simp [revS, tl]
theorem len_revS (z : Str) : (revS z).length = z.length := by
  show (z.cps.toList.reverse.toArray).size = z.cps.size
  simp
def tRevS (te : TE) : TE := fun σ H Q => te σ H fun x H1 => ∃ z, x = .str z ∧ z.length ≤ sizeLine ∧ Q (.str (revS z)) H1
theorem pe_revS {X : Cx} {e : PySem.Expr} {te : TE} {k : Nat} {p1 p2 p3 pos : Pos} (he : PE X e te) : PE X (.Subscript e (.Slice none none (some (.UnaryOp .USub (.Constant (.int 1) k p1) p2)) p3) pos) (tRevS te) := by
  refine ⟨fun pins s σ H Q I h => ?_⟩
  refine Subscript_ (thn (he.run pins s σ H _ I h) fun v s1 ⟨x, H1, I1, r1, q1⟩ => ?_)
  obtain ⟨z, ex, hz, q⟩ := q1
  subst ex
  obtain ⟨t, rfl⟩ := r1
  have hst : PO X (some (.UnaryOp .USub (.Constant (.int 1) k p1) p2)) (tPart (tUn (rU fun i => .int (-i)) (tC (.int 1)))) := po_some (pe_un un_neg pe_int)
  refine wpAny_Slice (thn (po_none.run pins s1 σ H1 (fun o H2 => o = none ∧ H2 = H1) I1 ⟨rfl, rfl⟩) fun vl s2 ⟨l, H2, I2, pl, el, e2⟩ => ?_)
  subst el e2
  refine thn (po_none.run pins s2 σ H2 (fun o H3 => o = none ∧ H3 = H2) I2 ⟨rfl, rfl⟩) fun vu s3 ⟨u, H3, I3, pu, eu, e3⟩ => ?_
  subst eu e3
  refine thn (hst.run pins s3 σ H3 (fun o H4 => o = some (-1) ∧ H4 = H3) I3 ⟨1, rfl, -1, rfl, rfl, rfl⟩) fun vs s4 ⟨o, H4, I4, ps, eo, e4⟩ => ?_
  subst eo e4
  have I5 : Inv X pins σ H4 { s4 with heap := s4.heap.push { cls := .type "slice", data := .fields #[vl, vu, vs] } } := I4.kept (t' := s4.toks) fun b ob q => Heap.get?_push_of_some _ q
  show wpAny (model X.prog X.w) X.A (subscriptTail e (.Slice none none (some (.UnaryOp .USub (.Constant (.int 1) k p1) p2)) p3) (.str z t) (.ref s4.heap.objs.size)) (EP X pins σ Q) X.xe { s4 with heap := s4.heap.push { cls := .type "slice", data := .fields #[vl, vu, vs] } }
  obtain ⟨l, rfl, hl⟩ := IsPart.raw pl
  obtain ⟨u, rfl, hu⟩ := IsPart.raw pu
  obtain ⟨st, rfl, hs⟩ := IsPart.raw ps
  refine tail_any (ops := [.ref s4.heap.objs.size, .str z t]) (typeIs_str _ _ _) F.slot_str_getitem.lookup ?_ (by with_unfolding_all rfl)
  refine wpAny_getItem_str_slice (l := l) (u := u) (st := st) ⟨_, Heap.get?_push_size _ rfl, rfl, rfl⟩ (by rw [hs]; rfl) ?_
  unfold sliceMade slicePicked
  rw [hs, hl, hu]
  have e1 : Builtin.Str.strSliceIndices none none ((some (-1 : Int)).getD 1) z.length = (List.range z.cps.size).reverse := by
    show sliceRange ((z.cps.size : Int) - 1) (-1) (-1) = _
    rw [PySem.W.krv_sliceRange, PySem.W.krv_range]
  rw [e1, if_neg (by simp), List.filterMap_reverse, PySem.W.krv_all]
  refine ⟨?_, .str _, H4, I5.tok _, ⟨_, rfl⟩, q⟩
  show (revS z).length ≤ sizeLine
  rw [len_revS]
  exact hz
end Ls
end
section
set_option Elab.async false
set_option linter.all false
set_option maxRecDepth 100000
set_option maxHeartbeats 4000000
namespace Ls
open PySem PySem.Spec PyProof.Rows L2
/-! ### C.f(a, ..), f a def written in the class at C (or above): no binding -/
/-- C.m is the def at g -/
structure Clf (P : Program) (w : World) (K : PySem.W.Frag) (mg : Str → Option Value) (base : Heap) (CX : CXT) (k : Nat) (C : Addr) (m : Str) (sp : Sp) : Prop where
  ex : ∃ (mc : Value) (g : Addr), ClX.CRead K C mc ∧ PySem.W.findCls K (.ref C) mc m = some (.val (.ref g)) ∧ PySem.W.keepIn K (.ref g) = true ∧ FnR P w K mg base CX k g sp
section
variable {X : Cx} {CX : CXT} {k : Nat} {C : Addr} {m x : Str} {sp : Sp} {E : XK} {o e : PySem.Expr} {es : List PySem.Expr} {ta te : TE} {t : TA} {p apos pos sp_ : Pos} {pl : Sem Bool}
theorem pe_clf (c : Clf X.prog X.w X.K X.mg X.base CX k C m sp) (hr : Room k X.A) (ho : PE X o ta) (hx : Passes CX X E) (ha : PA X (e :: es) t)
    (hst : starEach (e :: es) X.env = (false, eval e X.env) :: starEach es X.env := by rfl) (hpl : (backTo pos (starEach es X.env)).any (·.1) = false := by rfl)
    (ht : eval (.Call (.Attribute o m apos) (e :: es) [] pos) X.env = (do
      let ov ← eval o X.env
      standAt apos.atName
      let (f, first) ← holding [ov] (getMethod ov m pl)
      callWith pos f first (backTo pos (starEach (e :: es) X.env)) (backToKw pos (keywordEach [] X.env))) := by rfl) :
    PE X (.Call (.Attribute o m apos) (e :: es) [] pos) (fun σ H Q => ta σ H fun v H1 => v = .ref C ∧ t σ H1 fun vs H2 => sp vs H2 Q E) := by
  obtain ⟨mc, g, rd, fc, kp, F⟩ := c.ex
  refine ⟨fun pins s σ H Q I h => PySem.W.methodCall_KW (pl := pl) (thn (ho.run pins s σ H _ I h) fun u s1 q1 => ?_) ht⟩
  obtain ⟨v, H1, I1, rv, rfl, q1⟩ := q1
  obtain rfl : u = Value.ref C := rv
  refine PySem.W.method_cls I1.kIn rd.ga (ClX.getcval_ok (v := .ref g) I1 rd ⟨fc, rfl⟩ fun s2 I2 => ?_)
  refine PySem.W.callWith_K (h₀ := X.base) I2.ok.mod.kin kp (thn (ha.run pos pins s2 σ H1 _ I2 q1) fun us s3 q3 => ?_) hst hpl
  obtain ⟨vs, H2, I3, r3, q3⟩ := q3
  exact ⟨I3.kIn, wpAny_call (run_fnR F hr hx I3 r3 q3)⟩
/-! ### C() and C(*y) -/
def tMk0 (C : Addr) (sp : Sp) (E : XK) : TE := fun _ H Q => ∀ a dx, H a = none → H dx = none → dx ≠ a → sp [V.ref a] (upd (upd H dx (.own a)) a (.ins C dx [])) (fun v H2 => v = .non ∧ Q (.ref a) H2) E
theorem pe_mk0 (c : Mkc X.prog X.w X.K X.mg X.base CX k C x sp) (hr : Room (k + 1) X.A) (hg : Gl X x) (hx : Passes CX X E) (hdb : (x == ("__debug__" : Str)) = false := by decide) : PE X (.Call (.Name x p) [] [] pos) (tMk0 C sp E) := by
  obtain ⟨f, hm, M, F⟩ := c.ex
  refine ⟨fun pins s σ H Q I h => wpAny_Call_Name_kw (ld_glob I hg hm ?_ hdb)⟩
  exact PySem.W.callWith_K0 I.kIn M.kp (StX.run_makeR (us := []) (vs := []) M F hr hx I .nil h)
def tMkS (K : PySem.W.Frag) (C : Addr) (sp : Sp) (E : XK) (te : TE) : TE := fun σ H Q => te σ H fun y H1 => ∃ b xs, y = V.ref b ∧ (SqT K H1 b xs ∨ SqL K H1 b xs) ∧
  ∀ a dx, H1 a = none → H1 dx = none → dx ≠ a → sp (V.ref a :: xs) (upd (upd H1 dx (.own a)) a (.ins C dx [])) (fun v H2 => v = .non ∧ Q (.ref a) H2) E
theorem pe_mkS (c : Mkc X.prog X.w X.K X.mg X.base CX k C x sp) (hr : Room (k + 1) X.A) (hg : Gl X x) (hx : Passes CX X E) (he : PE X e te) (hdb : (x == ("__debug__" : Str)) = false := by decide)
    (hst : starEach [.Starred e sp_] X.env = [(true, eval e X.env)] := by rfl) : PE X (.Call (.Name x p) [.Starred e sp_] [] pos) (tMkS X.K C sp E te) := by
  obtain ⟨f, hm, M, F⟩ := c.ex
  refine ⟨fun pins s σ H Q I h => wpAny_Call_Name_kw (ld_glob I hg hm ?_ hdb)⟩
  refine PySem.W.callWith_S (h₀ := X.base) I.ok.mod.kin M.kp (thn (he.run pins s σ H _ I h) fun v s1 q1 => ?_) hst
  obtain ⟨y, H1, I1, ry, b, xs, rfl, hxs, q⟩ := q1
  obtain rfl : v = Value.ref b := ry
  exact StX.star_any I1 hxs fun us s2 I2 rv => ⟨I2.kIn, StX.run_makeR M F hr hx I2 rv q⟩
/-! ### xs.count(y), flat items -/
theorem count_eqU {x : V} : ∀ {xs : List V} {us : List Value}, Vals xs us → xs.all flatV = true → us.countP (eqU x) = xs.countP fun y => eqV y x
  | _, _, .nil, _ => rfl
  | y :: xs, u :: us, .cons r t, f => by
    rw [List.all_cons, Bool.and_eq_true] at f
    rw [List.countP_cons, List.countP_cons, eqU_of r f.1, count_eqU t f.2]
def rCntF (K : PySem.W.Frag) : V → List V → Hp → VK → Prop := fun x ys H Q => ∃ (p : Addr) (xs : List V) (y : V), x = .ref p ∧ ys = [y] ∧ SqL K H p xs ∧ flatV y = true ∧ xs.all flatV = true ∧ Q (.int (xs.countP (fun z => eqV z y) : Nat)) H
theorem mt_countF : MtR X "list.count" (rCntF X.K) := by
  intro pins s σ H x ys v us Q I rx rxs h
  obtain ⟨p, xs, y, rfl, rfl, hs, fy, fs, q⟩ := h
  cases rx
  obtain ⟨u, rfl, ru⟩ := rxs.one
  obtain ⟨its, rv, ⟨⟨cls, dd, data, sl⟩, n, ho, hc, hdn, hd⟩, hlen⟩ := I.list hs
  simp only at hc hd
  subst hc hd
  refine call_meets PySem.F.slot_list_count ⟨_, ho, rfl⟩ PySem.F.entry_list_count (PySem.F.args_list_count_2 _ _)
    (SeqAt.list_countAt p its.toArray n dd sl u (eqU y)) ⟨ho, fun z hz => mem_eqAt ru fy rv fs z (by simpa using hz), ?_⟩
  have ec : its.toArray.toList.countP (eqU y) = xs.countP fun z => eqV z y := count_eqU rv fs
  refine ⟨.int (xs.countP (fun z => eqV z y) : Nat), H, I.tok _, ⟨s.toks, ?_⟩, q⟩
  show Value.int ((its.toArray.toList.countP (eqU y) : Nat) : Int) s.toks = _
  rw [ec]
end
/-! ### a def with one star parameter behind the first, or behind two -/
section
variable {P : Program} {w : World} {K : PySem.W.Frag} {mg : Str → Option Value} {base : Heap}
/-- what is left over lies in a new tuple -/
def spStar (n : Nat) (sp : Sp) : Sp := fun vs H Q E => ∃ ws rest, vs = ws ++ rest ∧ ws.length = n ∧ rest.length ≤ sizeLine ∧ ∀ p, H p = none → sp (ws ++ [V.ref p]) (upd H p (.tup rest)) Q E
end
end Ls
namespace Ls
open PySem PySem.Spec PyProof.Rows L2
/-! ### xs.count(y) within a comprehension's block -/
section
variable {X : Cx} {K : PySem.W.Frag} {o e : PySem.Expr} {to : TE} {t : TA} {apos cpos : Pos}
theorem pe_countK (hK : X.K = K) (ho : PE X o to) (ha : PA X [e] t) (hbase : attributeBase o "count" X.env (eval o X.env) = eval o X.env := by rfl)
    (hfew : ((backTo cpos (starEach [e] X.env)).all (fun x => !x.1) && (backToKw cpos (keywordEach [] X.env)).all (fun x => x.1.isSome) && decide (([e] : List PySem.Expr).length + ([] : List Keyword).length + (if ([] : List Keyword).isEmpty then 0 else 1) < 30)) = true := by rfl)
    (hline : (apos.endLine == cpos.line) = true := by rfl) (hs : starEach [e] X.env = (false, eval e X.env) :: starEach [] X.env := by rfl) (hplain : (backTo cpos (starEach [] X.env)).any (·.1) = false := by rfl) :
    PE X (.Call (.Attribute o "count" apos) [e] [] cpos) (tBM K "list" (rCntF K) to t) := by
  subst hK
  exact pe_bm PySem.F.plainAttrs_list PySem.F.slot_list_count PySem.F.type_list_count mt_countF ho ha hbase hfew hline hs hplain
end
/-! ### texts, each once -/
theorem count_strs (z : Str) : ∀ l : List Str, (l.map V.str).countP (fun y => eqV y (.str z)) = l.count z
  | [] => rfl
  | a :: l => by
    rw [List.map_cons, List.countP_cons, List.count_cons, count_strs z l]
    have : eqV (.str a) (.str z) = (a == z) := rfl
    rw [this]
theorem once_iff {l : List Str} : (l.all fun z => l.count z == 1) = true ↔ l.Nodup := by
  rw [List.nodup_iff_count, List.all_eq_true]
  constructor
  · intro h a
    by_cases ha : a ∈ l
    · have := h a ha
      simp at this
      omega
    · rw [List.count_eq_zero.mpr ha]
      omega
  · intro h z hz
    have h1 := h z
    have h2 := List.count_pos_iff.mpr hz
    simp
    omega
theorem card_iff {M l : List Str} (nd : M.Nodup) (hm : ∀ y, y ∈ M ↔ y ∈ l) : M.length = l.length ↔ l.Nodup := by
  constructor
  · intro e
    rw [List.nodup_iff_count]
    intro a
    refine Nat.le_of_not_lt fun h2 => ?_
    have hin : a ∈ l := List.count_pos_iff.mp (by omega)
    have sub : ∀ y ∈ M, y ∈ l.erase a := fun y hy => by
      have hy' := (hm y).mp hy
      by_cases ey : y = a
      · subst ey
        refine List.count_pos_iff.mp ?_
        rw [List.count_erase_self]
        omega
      · exact (List.mem_erase_of_ne ey).mpr hy'
    have h3 := nd.length_le_of_subset sub
    rw [List.length_erase_of_mem hin] at h3
    have := List.length_pos_of_mem hin
    omega
  · intro h
    have h1 := nd.length_le_of_subset fun y hy => (hm y).mp hy
    have h2 := h.length_le_of_subset fun y hy => (hm y).mpr hy
    omega
end Ls
end
section
set_option Elab.async false
set_option linter.all false
set_option maxRecDepth 100000
set_option maxHeartbeats 4000000
namespace Ls
open PySem PySem.Spec PyProof.Rows L2
/-! ### e.f, a property that several classes share -/
/-- the classes S have the property f; its getter keeps sp -/
structure Prp (P : Program) (w : World) (K : PySem.W.Frag) (mg : Str → Option Value) (base : Heap) (CX : CXT) (k : Nat) (S : Addr → Prop) (f : Str) (sp : Sp) : Prop where
  ex : ∃ (p g : Addr) (fd : FuncData), (∀ C, S C → Cls K C ∧ PropOf K C f p g) ∧ FnOk P w K mg base CX k g fd ["self"] sp ∧ Binds K fd ["self"] []
def tPrp (S : Addr → Prop) (sp : Sp) (E : XK) (ta : TE) : TE := fun σ H Q => ta σ H fun x H1 => ∃ a C dx fs, x = .ref a ∧ H1 a = some (.ins C dx fs) ∧ S C ∧ sp [.ref a] H1 Q E
section
variable {X : Cx} {CX : CXT} {k : Nat} {S : Addr → Prop} {f : Str} {sp : Sp} {E : XK} {e : PySem.Expr} {pos : Pos} {ta : TE}
theorem pe_prp (c : Prp X.prog X.w X.K X.mg X.base CX k S f sp) (hr : Room (k + 1) X.A) (hx : Passes CX X.nox E) (he : PE X e ta) (hab : attributeBase e f X.env (eval e X.env) = eval e X.env := by rfl) : PE X (.Attribute e f pos) (tPrp S sp E ta) := by
  obtain ⟨p, g, fd, hc, F, hb⟩ := c.ex
  refine ⟨fun pins s σ H Q I h => ?_⟩
  refine attr_of hab (thn (he.run pins s σ H _ I h) fun u s1 ⟨x, H1, I1, rx, a, C, dx, fs, ex, ea, hS, q⟩ => ?_)
  subst ex
  obtain rfl : u = Value.ref a := rx
  exact getprop_ok I1 ea (hc C hS).1 (hc C hS).2 F hr hb .nil hx q
end
/-! ### xs.pop(i) within a comprehension's block -/
section
variable {X : Cx} {K : PySem.W.Frag} {o e : PySem.Expr} {to : TE} {t : TA} {apos cpos : Pos}
theorem pe_popK (hK : X.K = K) (ho : PE X o to) (ha : PA X [e] t) (hbase : attributeBase o "pop" X.env (eval o X.env) = eval o X.env := by rfl)
    (hfew : ((backTo cpos (starEach [e] X.env)).all (fun x => !x.1) && (backToKw cpos (keywordEach [] X.env)).all (fun x => x.1.isSome) && decide (([e] : List PySem.Expr).length + ([] : List Keyword).length + (if ([] : List Keyword).isEmpty then 0 else 1) < 30)) = true := by rfl)
    (hline : (apos.endLine == cpos.line) = true := by rfl) (hs : starEach [e] X.env = (false, eval e X.env) :: starEach [] X.env := by rfl) (hplain : (backTo cpos (starEach [] X.env)).any (·.1) = false := by rfl) :
    PE X (.Call (.Attribute o "pop" apos) [e] [] cpos) (tBM K "list" rPopAt to t) := by
  subst hK
  exact pe_bm PySem.F.plainAttrs_list PySem.F.slot_list_pop PySem.F.type_list_pop mt_popAt ho ha hbase hfew hline hs hplain
end
end Ls
end
section
set_option Elab.async false
set_option linter.all false
set_option maxRecDepth 100000
set_option maxHeartbeats 4000000
namespace Ls
open PySem PySem.Spec PyProof.Rows L2 TL
/-! ### what repr can show: lists and tuples of several -/
theorem show_all : ∀ {ds : List PyData}, (∀ d ∈ ds, d.showable = true) → PyData.showableAll ds = true
  | [], _ => rfl
  | d :: r, h => by
    show (d.showable && PyData.showableAll r) = true
    rw [h d (by simp), show_all fun x hx => h x (List.mem_cons_of_mem _ hx)]
    rfl
theorem depth_all {k : Nat} : ∀ {ds : List PyData}, (∀ d ∈ ds, d.depth ≤ k) → PyData.depthAll ds ≤ k
  | [], _ => Nat.zero_le _
  | d :: r, h => by
    show max d.depth (PyData.depthAll r) ≤ k
    have h1 := h d (by simp)
    have h2 := depth_all (ds := r) fun x hx => h x (List.mem_cons_of_mem _ hx)
    omega
theorem shown_all {n : Nat} : ∀ {ds : List PyData}, (∀ d ∈ ds, d.shown.length ≤ n) → ((PyData.shownAll ds).map (·.length)).sum ≤ ds.length * n ∧ (PyData.shownAll ds).length = ds.length
  | [], _ => ⟨Nat.zero_le _, rfl⟩
  | d :: r, h => by
    obtain ⟨h1, h2⟩ := shown_all (ds := r) fun x hx => h x (List.mem_cons_of_mem _ hx)
    have h0 := h d (by simp)
    show ((d.shown :: PyData.shownAll r).map (·.length)).sum ≤ (r.length + 1) * n ∧ (PyData.shownAll r).length + 1 = r.length + 1
    rw [List.map_cons, List.sum_cons, Nat.add_mul, Nat.one_mul, h2]
    exact ⟨by omega, rfl⟩
theorem Shw.listN {n k : Nat} {ds : List PyData} (h : ∀ d ∈ ds, Shw n d) (hd : ∀ d ∈ ds, d.depth ≤ k) (hk : k < 20) : Shw (ds.length * n + 2 * ds.length + 3) (.list ds) := ⟨show_all fun d hx => (h d hx).sh, by
  have := depth_all hd
  show PyData.depthAll ds + 1 ≤ 20
  omega, by
  obtain ⟨h1, h2⟩ := shown_all fun d hx => (h d hx).ln
  have := listText_len_le (PyData.shownAll ds)
  show (listText (PyData.shownAll ds)).length ≤ _
  omega⟩
theorem Shw.tupN {n k : Nat} {ds : List PyData} (h : ∀ d ∈ ds, Shw n d) (hd : ∀ d ∈ ds, d.depth ≤ k) (hk : k < 20) : Shw (ds.length * n + 2 * ds.length + 3) (.tuple ds) := ⟨show_all fun d hx => (h d hx).sh, by
  have := depth_all hd
  show PyData.depthAll ds + 1 ≤ 20
  omega, by
  obtain ⟨h1, h2⟩ := shown_all fun d hx => (h d hx).ln
  have := tupleText_len_le (PyData.shownAll ds)
  show (tupleText (PyData.shownAll ds)).length ≤ _
  omega⟩
theorem depth_tup {k : Nat} {ds : List PyData} (h : ∀ d ∈ ds, d.depth ≤ k) : (PyData.tuple ds).depth ≤ k + 1 := by
  have := depth_all h
  show PyData.depthAll ds + 1 ≤ k + 1
  omega
theorem depth_lst {k : Nat} {ds : List PyData} (h : ∀ d ∈ ds, d.depth ≤ k) : (PyData.list ds).depth ≤ k + 1 := by
  have := depth_all h
  show PyData.depthAll ds + 1 ≤ k + 1
  omega
theorem tvs_strs {H : Hp} : ∀ us : List Str, TVs H (us.map V.str) (us.map .str)
  | [] => .nil
  | u :: r => .cons (.str u) (tvs_strs r)
end Ls
end
section
set_option Elab.async false
set_option linter.all false
set_option maxRecDepth 100000
set_option maxHeartbeats 4000000
namespace Ls
open PySem PySem.Spec PyProof.Rows L2 TL
/-! ### tuples of texts, compared -/
theorem dp_strs {K : PySem.W.Frag} {H : Hp} : ∀ us : List Str, DpAll K H (us.map V.str) (us.map .str)
  | [] => .nil
  | u :: r => .cons (.str u) (dp_strs r)
theorem lay_strs : ∀ us : List Str, (∀ z ∈ us, PyData.strOk z = true) → PyData.canLayAll0 (us.map .str) = true
  | [], _ => rfl
  | u :: r, h => by
    show (PyData.strOk u && PyData.canLayAll0 (r.map .str)) = true
    rw [h u (by simp), lay_strs r fun z hz => h z (by simp [hz])]
    rfl
theorem shaped_strs (us : List Str) (ho : ∀ z ∈ us, PyData.strOk z = true) : SeqAt.shaped (.tuple (us.map .str)) = true := by
  have h : (PyData.tuple (us.map .str)).depth ≤ 1 := depth_tup fun d hd => by
    obtain ⟨z, _, rfl⟩ := List.mem_map.mp hd
    exact Nat.le_refl _
  show (PyData.canLay0 (.tuple (us.map .str)) && decide ((PyData.tuple (us.map .str)).depth ≤ 64)) = true
  rw [decide_eq_true (Nat.le_trans h (by decide)), Bool.and_true]
  exact lay_strs us ho
theorem eqv_strs (us : List Str) (ho : ∀ z ∈ us, PyData.strOk z = true) : PyData.eqv (.tuple (us.map .str)) (.tuple (us.map .str)) = true := SeqAt.eqv_refl _ (lay_strs us ho)
end Ls
end
section
set_option Elab.async false
set_option linter.all false
set_option maxRecDepth 100000
set_option maxHeartbeats 4000000
namespace Ls
open PySem PySem.Spec PyProof.Rows L2 TL
/-! ### numbers and dicts that repr can show -/
theorem Shw.int10 {a : Int} {k : Nat} (hk : 0 < k) (h : a.natAbs < 10 ^ k) (h2 : k ≤ 450) : Shw (k + 1) (.int a) := ⟨by
  show decide (a.natAbs.log2 < 1920) = true
  refine decide_eq_true ?_
  by_cases e : a.natAbs = 0
  · rw [e]
    decide
  · rw [Nat.log2_lt e]
    refine Nat.lt_trans h (Nat.lt_of_le_of_lt (Nat.pow_le_pow_right (by decide) h2) ?_)
    decide +kernel, Nat.zero_le _, by
  show (Str.ofString (toString a)).length ≤ _
  rw [PySem.ofString_length]
  exact int_text_length_le10 hk h⟩
theorem Shw.dict1 {n m : Nat} {a b : PyData} (ha : Shw n a) (hb : Shw m b) (hd : a.depth < 20) (hd2 : b.depth < 20) : Shw (n + m + 7) (.dict [(a, b)]) := ⟨by
  show (a.showable && b.showable && true) = true
  rw [ha.sh, hb.sh]
  rfl, by
  show max (max a.depth b.depth) 0 + 1 ≤ 20
  omega, by
  have := dictText_len_le [a.shown ++ (": " : Str) ++ b.shown]
  have := ha.ln
  have := hb.ln
  show (dictText [a.shown ++ (": " : Str) ++ b.shown]).length ≤ _
  have e2 : (": " : Str).length = 2 := by decide +kernel
  simp [Str.length_append, e2] at *
  omega⟩
end Ls
end
section
set_option Elab.async false
set_option linter.all false
set_option maxRecDepth 100000
set_option maxHeartbeats 4000000
namespace Ls
open PySem PySem.Spec PyProof.Rows L2
/-! ### C(a = v), no positional argument -/
/-- the class under the module's name x, made by one argument given by its name -/
structure MkcK (P : Program) (w : World) (K : PySem.W.Frag) (mg : Str → Option Value) (base : Heap) (CX : CXT) (k : Nat) (C : Addr) (x a : Str) (sp : Sp) : Prop where
  ex : ∃ f fd, mg x = some (.ref C) ∧ Mk K C f ∧ FnOk P w K mg base CX k f fd ["self", a] sp ∧ KBn K fd ["self", a] 1 [a] (fun us ws => us ++ ws) (fun vs zs => vs ++ zs)
section
variable {X : Cx} {CX : CXT} {k : Nat} {C : Addr} {sp : Sp} {E : XK} {x a : Str} {p pos : Pos} {kws : List Keyword} {tk : TA}
theorem pe_makeK0 (c : MkcK X.prog X.w X.K X.mg X.base CX k C x a sp) (hr : Room (k + 1) X.A) (hg : Gl X x) (hx : Passes CX X E) (hkw : PK X kws tk)
    (hall : (backToKw pos (keywordEach kws X.env)).all (·.1.isSome) = true := by rfl) (hks : (backToKw pos (keywordEach kws X.env)).filterMap (·.1) = [a] := by rfl)
    (hdb : (x == ("__debug__" : Str)) = false := by decide)
    (hpl : ((backTo pos (starEach [] X.env)).any (·.1) || (backToKw pos (keywordEach kws X.env)).any (·.1.isNone)) = false := by rfl) :
    PE X (.Call (.Name x p) [] kws pos) (tMakeN C 0 1 sp (fun vs zs => vs ++ zs) E tNil tk) := by
  obtain ⟨f, fd, hm, M, F, hb⟩ := c.ex
  refine ⟨fun pins s σ H Q I h => ?_⟩
  refine wpAny_Call_Name_kw (ld_glob I hg hm ?_ hdb)
  refine PySem.W.callWith_KW0 (h₀ := X.base) I.ok.mod.kin M.kp hall ?_ hpl
  refine thn (hkw.run pos pins s σ H _ I h) fun ws s2 ⟨zs, H2, I2, rz, l1, l2, q2⟩ => ⟨I2.kIn, ?_⟩
  rw [hks]
  exact run_makeN (us := []) (vs := []) M F hr hb hx I2 .nil rz l1 l2 q2
end
theorem kbn_self {K : PySem.W.Frag} {x qual : Str} {st : Stmt} {f : Addr} {fd : FuncData} {a : Str} (F : Fun K x qual st f fd)
    (h : ∀ (kV doc pm : Value) (an : Option Addr) (cdv ct u v : Value), bindArgs (PySem.W.fnOf x qual (defArgs st) (defBody st) (defScope st) .none kV doc pm an cdv ct) ⟨[u], [(a, v)]⟩ = pure [(("self" : Str), u), (a, v)]) :
    KBn K fd ["self", a] 1 [a] (fun us ws => us ++ ws) (fun vs zs => vs ++ zs) := by
  obtain ⟨oc, od, kV, doc, pm, an, cdv, ct, osl, rfl, lk, hcd⟩ := F.ex
  refine ⟨fun s us ws _ l1 l2 => ?_, fun r1 r2 => r1.append r2⟩
  match us, ws, l1, l2 with
  | [v], [u], _, _ => exact .of_eq (h kV doc pm an cdv ct v u)
/-! ### xs[::-1] within a comprehension's block -/
theorem pe_revLK {X : Cx} {K : PySem.W.Frag} {e : Expr} {te : TE} {k : Nat} {p1 p2 p3 pos : Pos} (hK : X.K = K) (he : PE X e te) : PE X (.Subscript e (.Slice none none (some (.UnaryOp .USub (.Constant (.int 1) k p1) p2)) p3) pos) (tRevL K te) := by
  subst hK
  exact pe_revL he
/-! ### lists of texts, compared -/
theorem eqvAll_strs : ∀ us vs : List Str, PyData.eqvAll (us.map .str) (vs.map .str) = decide (us = vs)
  | [], [] => rfl
  | [], _ :: _ => rfl
  | _ :: _, [] => rfl
  | u :: us, v :: vs => by
    show ((u == v) && PyData.eqvAll (us.map .str) (vs.map .str)) = _
    rw [eqvAll_strs us vs]
    by_cases h : u = v
    · subst h
      simp
    · rw [show (u == v) = false from beq_eq_false_iff_ne.mpr h, Bool.false_and]
      exact (decide_eq_false fun e => h (List.cons.inj e).1).symm
end Ls
end
section
set_option Elab.async false
set_option linter.all false
set_option maxRecDepth 100000
set_option maxHeartbeats 4000000
namespace PySem
open Sem (wp)
set_option maxHeartbeats 1000000 in
theorem ls_meets_enumerate_new1 {v : Value} {o : Obj} {H : Heap → Prop} (B : Begins v o H) :
    Meets (Builtin.«enumerate.__new__» ⟨[.type "enumerate", v], []⟩) (fun _ R s => H s.heap ∧
      R (.ok (.ret (.ref (s.heap.push o).objs.size))) { s with heap := (s.heap.push o).push { cls := .type "enumerate", data := .fields #[.none, .bool false, .ref s.heap.objs.size, rawInt 0, .none, .none] } }) :=
  .of_wp fun prog w A R s h => by
    obtain ⟨hp, g, d, tks, os⟩ := s; obtain ⟨h1, h⟩ := h
    have hsub := sub_enumerate
    have one : ∀ {A' : Around} {E : Value → Shared → Prop} {Q : Value → Shared → Prop}, Q (.ref hp.objs.size) ⟨hp.push o, g, d, tks, os⟩ → wpAny (model prog w) A' (pyIter v) Q E ⟨hp, g, d, tks, os⟩ :=
      fun q => B.iter prog w _ _ ⟨hp, g, d, tks, os⟩ _ h1 q
    wp_walk using one
    refine wpAny_stack_any fun pos_ => wpAny_pure ?_
    split
    · rename_i c _ _ _ _ _
      cases (c == Value.type "enumerate")
      · wp_walk using one
        exact ⟨_, rfl, h⟩
      · wp_walk using one
        exact ⟨_, rfl, h⟩
    · wp_walk using one
      exact ⟨_, rfl, h⟩
section
variable {prog : Program} {w : World} {A : Around} {E : Value → Shared → Prop} {s : Shared}
theorem ls_enum_begins {v : Value} {o : Obj} {H : Heap → Prop} {Q : Value → Shared → Prop} (B : Begins v o H) (h1 : H s.heap)
    (h : ∀ h', IsEnum h' (s.heap.objs.size + 1) s.heap.objs.size 0 .none → h'.get? s.heap.objs.size = some o → h'.objs.size = s.heap.objs.size + 2 →
      (∀ b o, s.heap.get? b = some o → h'.get? b = some o) → Q (.ref (s.heap.objs.size + 1)) { s with heap := h' }) :
    wpAny (model prog w) A (call (.type "enumerate") [v]) Q E s := by
  refine callType_new F.called_enumerate (by decide) (F.typeCall_enumerate_1 _) (F.newCall_enumerate_1 _) (fun obj => F.args_object_init_2 obj _) F.entry_enumerate_new
    (ls_meets_enumerate_new1 B) ⟨h1, ?_⟩
  have szs : (s.heap.push o).objs.size = s.heap.objs.size + 1 := Heap.size_push ..
  show _ ∧ _
  rw [szs]
  have hen : IsEnum ((s.heap.push o).push { cls := .type "enumerate", data := .fields #[.none, .bool false, .ref s.heap.objs.size, rawInt 0, .none, .none] }) (s.heap.objs.size + 1) s.heap.objs.size 0 .none := by
    have := Heap.get?_push_size (s.heap.push o) (o := { cls := .type "enumerate", data := .fields #[.none, .bool false, .ref s.heap.objs.size, rawInt 0, .none, .none] }) rfl
    rw [szs] at this; exact this
  refine ⟨⟨_, hen, rfl⟩, h _ hen (Heap.get?_push_of_some _ (Heap.get?_push_size _ B.free)) (by rw [Heap.size_push, szs]) fun b o x => Heap.get?_push_of_some _ (Heap.get?_push_of_some _ x)⟩
end
end PySem
namespace Ls
open PySem PySem.Spec PyProof.Rows L2
/-! ### enumerate(t), t a tuple -/
def IteT (K : PySem.W.Frag) (a : Addr) : It :=
  ⟨fun i H => ∃ (xs : List V) (x : V), SqT K H a xs ∧ xs[i]? = some x, fun i H v H' => ∃ T x, v = .ref T ∧ H T = none ∧ H' = upd H T (.tup [.int (i : Nat), x]) ∧ ∀ xs, SqT K H a xs → xs[i]? = some x, fun i H => ∃ xs : List V, SqT K H a xs ∧ xs.length ≤ i⟩
theorem turn_enumT {P : Program} {w : World} {K : PySem.W.Frag} {elts : List Expr} {kk : Nat} {tpos : Pos} (a e it : Addr) :
    Turn P w K (.Tuple elts kk tpos) (IteT K a) [e, it] e (fun i h => (∃ prev, IsEnum h e it ((i : Nat) : Int) prev) ∧ h.IsTupleIter it a i ∧ e ≠ it) where
  mem := by simp
  obj := fun i h pos_ b hb => by
    obtain ⟨⟨prev, hen⟩, ⟨o, ho, hc, hd⟩, _⟩ := pos_
    have e' : b = e ∨ b = it := by simpa using hb
    rcases e' with z | z
    · rw [z]; exact ⟨_, hen, fun v q => nomatch q⟩
    · rw [z]; exact ⟨o, ho, fun v q => by rw [hd] at q; cases q⟩
  keep := fun i h h' pos_ k => let ⟨⟨prev, hen⟩, hi, hdf⟩ := pos_; ⟨⟨prev, k e (by simp) _ hen⟩, hi.at fun o q => k it (by simp) o q, hdf⟩
  item := by
    intro X hP hw hK hc i pins s σ H E I hfree pos_ hgo
    subst hP hw hK
    obtain ⟨⟨prev, hen⟩, hti, hdf⟩ := pos_
    obtain ⟨xs, x, hsq, hxi⟩ := hgo
    obtain ⟨vals, rvs, p, szs⟩ := I.tuple hsq
    obtain ⟨u, hu, rel⟩ := rvs.get hxi
    have ltE : e < s.heap.objs.size := Heap.lt_size hen
    have ltI : it < s.heap.objs.size := by obtain ⟨_, q, _⟩ := hti; exact Heap.lt_size q
    have pT : s.heap.IsTuple a vals.toArray := p
    have nai : a ≠ it := fun z => by
      obtain ⟨o1, one, q2, _⟩ := pT
      obtain ⟨o2, q3, q4, _⟩ := hti
      rw [z, q3] at one
      cases one
      rw [q4] at q2
      exact absurd (Value.type.inj q2) (by decide)
    have nea : e ≠ a := fun z => by
      obtain ⟨o1, one, q2, _⟩ := pT
      have he' : s.heap.get? e = _ := hen
      rw [z, one] at he'
      cases he'
      exact absurd (Value.type.inj q2) (by decide)
    have hi : i < vals.toArray.size := by
      rw [List.size_toArray]
      exact (List.getElem?_eq_some_iff.mp hu).1
    refine wpAny_pyNext_enum_itemC (fp := [it, a]) (Draws.tuple (A := X.A.in1) (show X.A.in1.handled = none from I.ok.hd hc) it a nai vals.toArray) hen ⟨hti, pT⟩ hi hdf (by simp [hdf, nea]) fun y h' tks hP ho hit' hT hgrow hkeep => ?_
    have hy : y = u := by
      have hu' : vals.toArray[i]? = some u := by simpa using hu
      rw [hu'] at hP
      exact (Option.some.inj hP).symm
    subst hy
    refine ⟨_, rfl, wpAny_letOwnedTupleGo_enum (s := { s with heap := h', toks := tks + 1 }) ho fun h'' he' same => ?_⟩
    have atT : h''.get? s.heap.objs.size = some { cls := .type "tuple", data := .seq #[.int i tks, y] } := (same.2 _ (Nat.ne_of_gt ltE)).trans hT
    have fresh : ObjOk X.prog X.w (upd H s.heap.objs.size (.tup [.int (i : Nat), x])) h'' s.heap.objs.size (.tup [.int (i : Nat), x]) :=
      ⟨by show 2 ≤ sizeLine; decide, [.int i tks, y], .cons ⟨_, rfl⟩ (.cons rel .nil), ⟨_, atT, rfl, _, rfl⟩⟩
    have I1 : Inv X pins σ (upd H s.heap.objs.size (.tup [.int (i : Nat), x])) { s with heap := h'', toks := tks + 1 } :=
      I.turnedNew (ch := [e, it]) (fun b ob hb q => (same.2 b (fun z => hb (by simp [z]))).trans (hkeep b ob (fun z => hb (by simp [z])) (fun z => hb (by simp [z])) q)) hfree (Nat.le_refl _) fresh
    refine ⟨.ref s.heap.objs.size, _, I1, rfl, ⟨_, x, rfl, I.hok.fresh (Nat.le_refl _), rfl, fun ys hy => by rw [I.tuple_inj hy hsq]; exact hxi⟩, ⟨⟨y, ?_⟩, hit'.1.at fun o q => (same.2 it (Ne.symm hdf)).trans q, hdf⟩, fun b hb => ?_⟩
    · have e1 : ((i + 1 : Nat) : Int) = (i : Int) + 1 := by omega
      rw [e1]; exact he'
    · have hb' : b < s.heap.objs.size := by
        have e' : b = e ∨ b = it := by simpa using hb
        rcases e' with z | z
        · rw [z]; exact ltE
        · rw [z]; exact ltI
      rw [upd_ne (Nat.ne_of_lt hb')]
      exact (hfree b hb).1
  done := by
    intro X hP hw hK hc i pins s σ H E I hfree pos_ hgo
    subst hP hw hK
    obtain ⟨⟨prev, hen⟩, hti, hdf⟩ := pos_
    obtain ⟨xs, hsq, hxi⟩ := hgo
    obtain ⟨vals, rvs, p, szs⟩ := I.tuple hsq
    obtain ⟨f0, f1, f2, f3, f4, f5⟩ := hfree it (by simp)
    have hl := rvs.length
    have pT : s.heap.IsTuple a vals.toArray := p
    have done : ∀ (n : Nat), vals.toArray.size ≤ n → s.heap.IsTupleIter it a n → wpAny (model X.prog X.w) X.A (pyNext (.ref e)) (fun r s' => r = none ∧ Inv X pins σ H s') E s := fun n hn hi => by
      have hT : s.TypeIs (.ref e) "enumerate" := ⟨_, hen, rfl⟩
      unfold pyNext
      refine wpAny_bind (wpAny_attempt (wpAny_callSpecial?_slot (name := Str.ofString "__next__") hT F.slot_enumerate_next
        (wpAny_call_entry F.slot_enumerate_next hT F.entry_enumerate_next ?_ (F.args_enumerate_next_1 _))))
      show wpAny _ _ (field (.ref e) 2 >>= _) _ _ _
      refine wpAny_bind (wpAny_field hen rfl (x := .ref it) rfl ?_)
      refine wpAny_bind (wpAny_nextOf_tuple_end (I.ok.hd hc) hi pT (Array.getElem?_eq_none hn) fun h' x he' hx' => ?_)
      obtain ⟨o, ho, hcs⟩ := hx'
      refine wpAny_bind (wpAny_isInstance (T := "StopIteration") (b := true) ⟨o, ho, hcs⟩ isSubtype_stop ?_)
      exact wpAny_pure ⟨rfl, I.turned (t' := s.toks) (fun b o hb q => he' b o hb q) f0 f1 f3 f4 f5⟩
    exact done i (by simp; omega) hti
  self := fun A i s Q E pos_ h => let ⟨⟨_, hen⟩, _⟩ := pos_; wpAny_pyIter_enum hen h
def iEnumT (K : PySem.W.Frag) (ta : TA) : TI := fun σ H R => ta σ H fun vs H1 => ∃ a xs, vs = [.ref a] ∧ SqT K H1 a xs ∧ R (IteT K a) H1
theorem pi_enumT {X : Cx} {e : Expr} {ta : TA} {p pos tpos : Pos} {elts : List Expr} {kk : Nat} (hgo : Gl X "enumerate") (hm : X.mg "enumerate" = none) (ha : PA X [e] ta) (hs : starEach [e] X.env = [(false, eval e X.env)] := by rfl) :
    PI X (.Tuple elts kk tpos) (.Call (.Name "enumerate" p) [e] [] pos) (iEnumT X.K ta) := by
  refine ⟨fun pins s σ H R I h => ?_⟩
  refine Call_ (ld_blt I hgo hm boot_enumerate (PyProof.Rows.callWith_type1 (thn (ha.run pos pins s σ H _ I h) fun us s1 ⟨vs, H1, I1, r1, one⟩ => ?_) hs rfl))
  obtain ⟨a, xs, ex, hsq, q⟩ := one
  subst ex
  cases r1 with
  | cons r rr =>
    cases rr
    cases r
    obtain ⟨vals, rvs, p', szs⟩ := I1.tuple hsq
    refine ls_enum_begins (begins_tuple a vals.toArray) p' fun h' hen hti hgrow hkeep => wpAny_pyIter_enum hen ?_
    have I2 : Inv X pins σ H1 { s1 with heap := h' } := I1.kept (t' := s1.toks) hkeep
    refine ⟨s1.heap.objs.size + 1, [s1.heap.objs.size + 1, s1.heap.objs.size], _, _, H1, rfl, I2, turn_enumT a (s1.heap.objs.size + 1) s1.heap.objs.size, ⟨⟨.none, hen⟩, ⟨_, hti, rfl, rfl⟩, Nat.succ_ne_self _⟩, fun b hb => ?_, q⟩
    have e' : b = s1.heap.objs.size + 1 ∨ b = s1.heap.objs.size := by simpa using hb
    have above : s1.heap.objs.size ≤ b := by
      rcases e' with z | z
      · rw [z]; exact Nat.le_add_right _ _
      · rw [z]; exact Nat.le_refl _
    exact I1.fpOk above (I1.hok.fresh above)
theorem walk_enumT {K : PySem.W.Frag} {a : Addr} {xs : List V} : Walk (IteT K a) xs.length (fun H => SqT K H a xs) (YPair (fun i => some (.int (i : Nat))) (fun i => xs[i]?)) := by
  refine ⟨fun i _ hi q => ⟨xs, xs[i], q, by simp [hi]⟩, fun _ q => ⟨xs, q, Nat.le_refl _⟩, fun i H v H' _ q y => ?_⟩
  obtain ⟨T, x, h1, h2, h3, h4⟩ := y
  exact ⟨T, .int (i : Nat), x, h1, h2, h3, rfl, h4 xs q⟩
end Ls
end
section
set_option Elab.async false
set_option linter.all false
set_option maxRecDepth 100000
set_option maxHeartbeats 4000000
namespace Ls
open PySem PySem.Spec PyProof.Rows L2 LamX
/-! ### a lambda as a value that is kept -/
abbrev lamObj (X : Cx) (ar : Arguments) (b : PySem.Expr) (sc : Scope) (pm : Value) (c' : Addr) (ctv : Value) : Obj :=
  PySem.W.kla_obj "<lambda>" (X.env.qual ++ "<lambda>") ar b sc (cloFrom X.env.cells sc.names []) pm c' ctv
/-- at f stands the lambda, its code object at c' -/
def LamO (X : Cx) (f c' : Addr) (ar : Arguments) (b : PySem.Expr) (sc : Scope) : HO := .ext fun h => ∃ pm ctv, h.get? f = some (lamObj X ar b sc pm c' ctv)
theorem lamO_ne {X : Cx} {f c' : Addr} {ar : Arguments} {b : PySem.Expr} {sc : Scope} (ps : Array Value) : LamO X f c' ar b sc ≠ .tbl ps := fun z => by
  unfold LamO at z
  cases z
section
variable {X : Cx} {pins : List (Addr × Obj)} {σ : L2.St} {H : Hp} {s : Shared}
/-- the newest object of the heap, a lambda, is tracked -/
theorem lam_tracked {h0 : Heap} {tk : Nat} {c' : Addr} {ar : Arguments} {b : PySem.Expr} {sc : Scope} {pm ctv : Value} {H1 : Hp} (I : Inv X pins σ H s) (le : s.heap.objs.size ≤ h0.objs.size)
    (J : Inv X pins σ H1 { s with heap := h0.push (lamObj X ar b sc pm c' ctv), toks := tk }) (hn : H1 h0.objs.size = none) :
    Inv X pins σ (upd H1 h0.objs.size (LamO X h0.objs.size c' ar b sc)) { s with heap := h0.push (lamObj X ar b sc pm c' ctv), toks := tk } := by
  have old : ∀ {g : Heap} {o : Obj}, g.get? h0.objs.size = some o → g.objs.size ≤ h0.objs.size → False := fun e z => Nat.lt_irrefl _ (Nat.lt_of_lt_of_le (Heap.lt_size e) z)
  have here : (h0.push (lamObj X ar b sc pm c' ctv)).get? h0.objs.size = some (lamObj X ar b sc pm c' ctv) := Heap.get?_push_size _ rfl
  refine inv_track J hn ?_ (Nat.ne_of_gt (Nat.lt_of_lt_of_le I.lt le)) (fun x c e z => ?_) (fun p hp z => ?_) ⟨⟨pm, ctv, here⟩, ⟨_, here⟩, fun h1 h2 ⟨a, b, e⟩ st => ⟨a, b, st _ e⟩⟩
  · cases q : X.s_0.heap.get? h0.objs.size with
    | none => rfl
    | some o => exact (old q (Nat.le_trans I.sz le)).elim
  · obtain ⟨v, o, ho, _⟩ := I.cell x c e
    rw [z] at ho
    exact old ho le
  · obtain ⟨q, _⟩ := I.pin p hp
    rw [z] at q
    exact old q le
theorem pe_lamV {T : List (Addr × Str)} {c P : Addr} {ar : Arguments} {b : PySem.Expr} {sc : Scope} {pos : Pos} (TB : TabB X.base X.mg c P) (hcode : X.env.code = .ref c) (hm : (P, X.env.qual ++ "<lambda>") ∈ T)
    (hu : ∀ p ∈ T, p.1 = P → p.2 = X.env.qual ++ "<lambda>") (hdef : defaultsOf ar X.env = ([], [])) (L : LamS X.env.scope sc) :
    PE X (.Lambda ar b sc pos) (fun σ H Q => Tabs T H ∧ ∀ (f c' : Addr) (H' : Hp), ExtN H H' → Tabs T H' → H f = none → H' f = some (LamO X f c' ar b sc) → H' c' = some (CodeO c' (X.env.qual ++ "<lambda>")) → Q (.ref f) H') := by
  refine ⟨fun pins s σ H Q I ⟨hT, h⟩ => ?_⟩
  have free := L.has I.ok
  have bP : s.heap.BuiltinsAt X.mg P := TB.bm.keeps I.bk
  obtain ⟨ps, hP, ht, ha⟩ := hT _ hm
  have oP : s.heap.get? P = some { cls := .none, data := .fields ps } := I.hok P _ hP
  refine PySem.W.kla_eval hdef ?_
  cases found : codeAmong pos ps.toList with
  | some cv =>
    obtain ⟨c', rfl, hco⟩ := ha pos cv found
    refine PySem.W.kla_makeFunctionHit (mg := X.mg) (c := c) (P := P) (ps := ps) (closure_ok free) I.ok.glob (I.mod.glob.keeps I.bk) hcode (TB.code.keeps I.bk) oP ht found bP fun ctv h' tk keep le => ?_
    have n : H h'.objs.size = none := I.hok.fresh le
    have J : Inv X pins σ H { s with heap := h'.push (lamObj X ar b sc ((X.mg "__name__").getD .none) c' ctv), toks := tk } := I.kept fun b o e => Heap.get?_push_of_some _ (keep b o e)
    have e0 : ∀ d o, H d = some o → upd H h'.objs.size (LamO X h'.objs.size c' ar b sc) d = some o := fun d o e => by
      rw [upd_ne (ne_of_none e n)]
      exact e
    exact ⟨.ref h'.objs.size, _, lam_tracked I le J n, rfl, h _ c' _ (ExtN.of e0) (hT.ext e0) n upd_same (e0 _ _ hco)⟩
  | none =>
    refine PySem.W.kla_makeFunction (mg := X.mg) (c := c) (P := P) (ps := ps) (closure_ok free) I.ok.glob (I.mod.glob.keeps I.bk) hcode (TB.code.keeps I.bk) oP ht found TB.gP bP fun c' ctv h' tk keep ge lt rec tab => ?_
    obtain ⟨_, oc, vs, t, e2, hoc, hd, hv⟩ := rec
    cases e2
    have le : s.heap.objs.size ≤ h'.objs.size := Nat.le_trans ge (Nat.le_of_lt lt)
    have nc : H c' = none := I.hok.fresh ge
    have n : H h'.objs.size = none := I.hok.fresh le
    have nf : h'.objs.size ≠ c' := Nat.ne_of_gt lt
    have nP : h'.objs.size ≠ P := Nat.ne_of_gt (Nat.lt_of_lt_of_le (Heap.lt_size oP) le)
    have cP : P ≠ c' := ne_of_none hP nc
    have J := inv_table (t' := tk) (q := X.env.qual ++ "<lambda>") (more := #[rawInt pos.line, rawInt pos.col, .ref c']) (h' := h'.push (lamObj X ar b sc ((X.mg "__name__").getD .none) c' ctv)) I hP
      (fun b o hb e => Heap.get?_push_of_some _ (keep b o hb e)) (Heap.get?_push_of_some _ tab) ge ⟨oc, vs, t, Heap.get?_push_of_some _ hoc, hd, hv⟩
    have n1 : upd (upd H P (.tbl (ps ++ #[rawInt pos.line, rawInt pos.col, .ref c']))) c' (CodeO c' (X.env.qual ++ "<lambda>")) h'.objs.size = none := by rw [upd_ne nf, upd_ne nP, n]
    have J2 := lam_tracked I le J n1
    generalize hH2 : upd (upd (upd H P (.tbl (ps ++ #[rawInt pos.line, rawInt pos.col, .ref c']))) c' (CodeO c' (X.env.qual ++ "<lambda>"))) h'.objs.size (LamO X h'.objs.size c' ar b sc) = H2 at J2
    have atP : H2 P = some (.tbl (ps ++ #[rawInt pos.line, rawInt pos.col, .ref c'])) := by rw [← hH2, upd_ne (Ne.symm nP), upd_ne cP, upd_same]
    have atc : H2 c' = some (CodeO c' (X.env.qual ++ "<lambda>")) := by rw [← hH2, upd_ne (Ne.symm nf), upd_same]
    have off : ∀ d, d ≠ h'.objs.size → d ≠ c' → d ≠ P → H2 d = H d := fun d a b c => by rw [← hH2, upd_ne a, upd_ne b, upd_ne c]
    have grow : ExtN H H2 := fun d o e nt => by
      rw [off d (ne_of_none e n) (ne_of_none e nc) (fun z => ?_)]
      · exact e
      · rw [z, hP] at e
        exact nt ps (Option.some.inj e).symm
    have tabs : Tabs T H2 := fun p hp => by
      by_cases hb : p.1 = P
      · rw [hu p hp hb, hb]
        have eL : (ps ++ #[rawInt pos.line, rawInt pos.col, .ref c']).toList = ps.toList ++ [rawInt pos.line, rawInt pos.col, .ref c'] := by simp
        refine ⟨_, atP, by rw [eL]; exact PySem.TriplesOk_snoc _ _ _ _ ht, fun p' cv q => ?_⟩
        rw [eL] at q
        rcases among_app _ ht q with z | z
        · obtain ⟨d, e1, e2⟩ := ha p' cv z
          exact ⟨d, e1, grow _ _ e2 codeO_ne⟩
        · exact ⟨c', z, atc⟩
      · obtain ⟨qs, a1, a2, a3⟩ := hT p hp
        refine ⟨qs, (off _ (ne_of_none a1 n) (ne_of_none a1 nc) hb).trans a1, a2, fun p' cv q => ?_⟩
        obtain ⟨d, e1, e2⟩ := a3 p' cv q
        exact ⟨d, e1, grow _ _ e2 codeO_ne⟩
    exact ⟨.ref h'.objs.size, _, J2, rfl, h _ c' H2 grow tabs n (by rw [← hH2]; exact upd_same) atc⟩
/-- v(): a kept lambda under a local name, in the def that made it -/
theorem pe_callV {ar : Arguments} {b : PySem.Expr} {sc : Scope} {k i : Nat} {a : Str} {E : XK} {tb : TE} {p1 p2 : Pos} (L : LamS X.env.scope sc)
    (hbind : ∀ (q : Str) (cl : List (Str × Addr)) (pm cv ctv : Value), bindArgs (PySem.W.kla_fn "<lambda>" q ar b sc cl pm cv ctv) ⟨[], []⟩ = pure [])
    (hx : Passes (L2.CX X.prog X.w) X E) (hr : Room (k + 1) X.A)
    (hbody : ∀ (A : Around) (outer : List Env) (s : Shared) (H : Hp) (f c' : Addr), Room k (A.deeper (lamEnv X sc s.heap.objs.size f c')) → PE (lamCx X A outer s H E sc f c') b tb)
    (hN : X.N[i]? = some a) (hv : Vis X.env.scope a) (hd : (a == ("__debug__" : Str)) = false := by decide) (hcd : (a == ("__classdict__" : Str)) = false := by decide) :
    PE X (.Call (.Name a p1) [] [] p2) (fun σ H Q => ∃ f c', σ[i]? = some (some (.ref f)) ∧ H f = some (LamO X f c' ar b sc) ∧ H c' = some (CodeO c' (X.env.qual ++ "<lambda>")) ∧ tb σ H Q) := by
  refine ⟨fun pins s σ H Q I ⟨f, c', hs, hf, hc, ht⟩ => ?_⟩
  refine wpAny_Call_Name_kw (thn ((pe_var (pos := p1) (i := i) hN hv hd hcd).run pins s σ H (fun v H1 => v = .ref f ∧ H1 = H) I ⟨.ref f, hs, rfl, rfl⟩) fun u s1 ⟨v, H1, I1, r1, ev, eH⟩ => ?_)
  subst ev eH
  obtain rfl : u = Value.ref f := r1
  obtain ⟨⟨pm, ctv, of1⟩, _, _⟩ := I1.hok f _ hf
  obtain ⟨⟨oc, vs, t, hoc, hdc, hvc⟩, _, _⟩ := I1.hok c' _ hc
  refine PySem.W.callWith_F0 ⟨_, _, _, _, of1⟩ ?_
  have rc : codeAny (model X.prog X.w) X.A (.call (.ref f) ⟨[], []⟩) (CR (L2.CX X.prog X.w) X.stack X.prog X.w H1 s1 Q E) s1 := by
    refine PySem.W.kla_callFunE hr.depth of1 rfl L.co L.gen rfl ⟨c', oc, vs, t, rfl, hoc, hdc, hvc⟩ ?_
    rw [hbind]
    refine wpAny_pure (wpAny_newFunctionEnv (fun y hy => (L.own y hy).2) (fun y hy => absurd hy (by simp)) (fun h₁ hns hsb => ⟨I1.nolimit.fresh _ hsb, ?_⟩) L.kind)
    show codeAny _ _ (.expr b (lamEnv X sc s1.heap.objs.size f c')) _ _
    have J := lam_start2 (E := E) (f := f) (c' := c') (tk := s1.toks + ([] : List (Str × Value)).length) I1 L I1.env0 hr.hd (Un.kept fun b o e => e) hns fun b o e => hsb.extBut b o (Nat.ne_of_lt (Heap.lt_size e)) (Heap.get?_push_of_some _ e)
    refine PySem.W.kla_codeExpr (wpAny_mono ((hbody _ _ s1 H1 _ _ (hr.deeper _)).run [] _ _ H1 Q J ht) (fun v s' hq => ?_) fun e s' hq => hq)
    obtain ⟨w', H', J', rv, q⟩ := hq
    exact ⟨w', H', J'.os, J'.bare, J'.base, J'.hok, rv, q⟩
  refine wpAny_call (codeAny_mono rc fun r s' hq => ?_)
  match r, hq with
  | .error e, hq => exact hx pins σ H1 s1 e s' I1 hq
  | .ok (.ret u), hq => exact I1.after hq
/-- one promise or another -/
theorem pe_or {e : PySem.Expr} {t1 t2 : TE} (h1 : PE X e t1) (h2 : PE X e t2) : PE X e (fun σ H Q => t1 σ H Q ∨ t2 σ H Q) := ⟨fun pins s σ H Q I h => h.elim (h1.run pins s σ H Q I) (h2.run pins s σ H Q I)⟩
end
/-- a def whose walk must know its code object -/
theorem okC {P : Program} {w : World} {K : PySem.W.Frag} {mg : Str → Option Value} {base : Heap} {CX : CXT} {x qual : Str} {st : Stmt} {f : Addr} {fd : FuncData} {N ps : List Str} {k : Nat} {sp : Sp} (F : Fun K x qual st f fd) (S : FnScope N ps (defScope st)) (len : ∀ vs H Q E, sp vs H Q E → vs.length = ps.length)
    (walk : ∀ (A : Around) (outer : List Env) (s : Shared) (H : Hp) (vs : List V) (Q : VK) (E : XK), Room k (A.deeper (envOfC qual (defScope st) s.heap.objs.size f fd.code)) → sp vs H Q E →
      ∃ t, PSs (cxOf CX P w K mg base N qual (defScope st) f fd.code A outer s H E) (defBody st) t ∧ t { nx := fun _ H' => Q .non H', rt := Q } (start N vs) H) : FnOk P w K mg base CX (k + 1) f fd ps sp := by
  obtain ⟨_, _, _, _, _, _, _, _, _, rfl, lk, hcd⟩ := F.ex
  exact fn_of lk hcd S len walk
end Ls
end
section
set_option Elab.async false
set_option autoImplicit false
set_option linter.all false
set_option maxRecDepth 100000
set_option maxHeartbeats 4000000
namespace Ls
open PySem PySem.Spec PyProof.Rows L2
/-! ### cuts of lists -/
theorem sIx_pos {n d : Nat} {i : Int} (h : 0 ≤ i) : HT.sIx n d (some i) = min i.toNat n := by
  show (if i < 0 then (i + (n : Int)).toNat else min i.toNat n) = _
  rw [if_neg (by omega)]
theorem cutV_to (xs : List V) {i : Int} (h : 0 ≤ i) : cutV xs none (some i) = xs.take i.toNat := by
  unfold cutV
  rw [sIx_pos h, HT.sIx_none, List.drop_zero, Nat.sub_zero]
  rcases Nat.le_total i.toNat xs.length with h1 | h1
  · rw [Nat.min_eq_left h1]
  · rw [Nat.min_eq_right h1, List.take_of_length_le (Nat.le_refl _), List.take_of_length_le h1]
theorem cutV_from (xs : List V) {i : Int} (h : 0 ≤ i) : cutV xs (some i) none = xs.drop i.toNat := by
  unfold cutV
  rw [sIx_pos h, HT.sIx_none]
  rcases Nat.le_total i.toNat xs.length with h1 | h1
  · rw [Nat.min_eq_left h1]
    exact List.take_of_length_le (by rw [List.length_drop]; omega)
  · rw [Nat.min_eq_right h1, List.drop_of_length_le (Nat.le_refl _), List.drop_of_length_le h1]
    simp
theorem cutM_to (ws : List Str) {i : Int} (h : 0 ≤ i) : cutV (ws.map V.str) none (some i) = (ws.take i.toNat).map V.str := by rw [cutV_to _ h, List.map_take]
theorem cutM_from (ws : List Str) {i : Int} (h : 0 ≤ i) : cutV (ws.map V.str) (some i) none = (ws.drop i.toNat).map V.str := by rw [cutV_from _ h, List.map_drop]
end Ls
end
section
set_option Elab.async false
set_option autoImplicit false
set_option linter.all false
set_option maxRecDepth 100000
set_option maxHeartbeats 4000000
namespace Ls
open PySem PySem.Spec PyProof.Rows L2
/-! ### lists of plain data: new ones, joined, cut, put in between -/
mutual
/-- all of it is new -/
theorem tv_new {S : List Addr} {H H' : Hp} (h : ∀ b ∈ S, H b ≠ none) : ∀ {v : V} {d : PyData}, TV (nw H H') v d → TV (vis S H') v d
  | _, _, .non => .non
  | _, _, .bl b => .bl b
  | _, _, .int i => .int i
  | _, _, .str x => .str x
  | _, _, .lst q t => .lst (vis_new h q fun _ z => by cases z) (tvs_new h t)
  | _, _, .tup q t => .tup (vis_new h q fun _ z => by cases z) (tvs_new h t)
  | _, _, .dct q t1 t2 => .dct (vis_new h q fun _ z => by cases z) (tvs_new h t1) (tvs_new h t2)
theorem tvs_new {S : List Addr} {H H' : Hp} (h : ∀ b ∈ S, H b ≠ none) : ∀ {vs : List V} {ds : List PyData}, TVs (nw H H') vs ds → TVs (vis S H') vs ds
  | _, _, .nil => .nil
  | _, _, .cons t ts => .cons (tv_new h t) (tvs_new h ts)
end
theorem TVs.app {H : Hp} : ∀ {xs ys : List V} {ds es : List PyData}, TVs H xs ds → TVs H ys es → TVs H (xs ++ ys) (ds ++ es)
  | _, _, _, _, .nil, k => k
  | _, _, _, _, .cons h hs, k => .cons h (TVs.app hs k)
theorem TVs.cut {H : Hp} : ∀ {xs : List V} {ds : List PyData} (i : Nat), TVs H xs ds → TVs H (xs.take i) (ds.take i)
  | _, _, _, .nil => by simp only [List.take_nil]; exact .nil
  | _, _, 0, .cons h hs => .nil
  | _, _, i + 1, .cons h hs => .cons h (TVs.cut i hs)
theorem TVs.from {H : Hp} : ∀ {xs : List V} {ds : List PyData} (i : Nat), TVs H xs ds → TVs H (xs.drop i) (ds.drop i)
  | _, _, _, .nil => by simp only [List.drop_nil]; exact .nil
  | _, _, 0, .cons h hs => .cons h hs
  | _, _, i + 1, .cons h hs => TVs.from i hs
theorem TVs.put {H : Hp} {xs : List V} {ds : List PyData} {v : V} {d : PyData} (i : Nat) (h : TVs H xs ds) (hv : TV H v d) : TVs H (xs.take i ++ [v] ++ xs.drop i) (ds.take i ++ [d] ++ ds.drop i) :=
  ((h.cut i).app (.cons hv .nil)).app (h.from i)
theorem TVs.mem {H : Hp} : ∀ {xs : List V} {ds : List PyData} {v : V}, TVs H xs ds → v ∈ xs → ∃ d, d ∈ ds ∧ TV H v d
  | _, _, _, .nil, h => by cases h
  | _, _, v, .cons (d := d) h hs, hm => by
    rcases List.mem_cons.mp hm with rfl | hm
    · exact ⟨d, by simp, h⟩
    · obtain ⟨d', h1, h2⟩ := TVs.mem hs hm
      exact ⟨d', by simp [h1], h2⟩
theorem put_len {α : Type} (xs : List α) (y : α) (i : Nat) : (xs.take i ++ [y] ++ xs.drop i).length = xs.length + 1 := by
  rw [List.length_append, List.length_append, List.length_take, List.length_drop]
  simp
  omega
theorem put_mem {α : Type} {xs : List α} {y z : α} {i : Nat} (h : z ∈ xs.take i ++ [y] ++ xs.drop i) : z ∈ xs ∨ z = y := by
  rcases List.mem_append.mp h with h | h
  · rcases List.mem_append.mp h with h | h
    · exact .inl (List.mem_of_mem_take h)
    · exact .inr (by simpa using h)
  · exact .inl (List.mem_of_mem_drop h)
/-- a place out of sight may be written -/
theorem vis_upd {S : List Addr} {H : Hp} {a : Addr} {o : HO} (h : a ∈ S) : vis S (upd H a o) = vis S H := by
  funext b
  unfold vis
  by_cases hb : b ∈ S
  · rw [if_pos hb, if_pos hb]
  · rw [if_neg hb, if_neg hb, upd_ne fun z => hb (by rw [z]; exact h)]
/-- a place that is not yet there may be put out of sight -/
theorem vis_add {S : List Addr} {H : Hp} {a : Addr} (h : H a = none) : Ext (vis S H) (vis (S ++ [a]) H) := fun b o e => by
  obtain ⟨h1, h2, h3⟩ := vis_some e
  refine vis_at (fun z => ?_) h2 h3
  rcases List.mem_append.mp z with z | z
  · exact h1 z
  · have : b = a := by simpa using z
    rw [this, h] at h2
    cases h2
end Ls
end
section
set_option Elab.async false
set_option autoImplicit false
set_option linter.all false
set_option maxRecDepth 100000
set_option maxHeartbeats 4000000
/-! Rows, in plain Lean: numbers that go on by a period and a step from a start on. -/
namespace RowM
/-- by p more: d more, from s on -/
def Per (f : Nat → Int) (s p : Nat) (d : Int) : Prop := ∀ n, s ≤ n → f (n + p) = f n + d
structure EQ (f : Nat → Int) (s p : Nat) (d : Int) : Prop where
  pos : 1 ≤ p
  per : Per f s p d
section
variable {f g : Nat → Int} {s t p q : Nat} {d e : Int}
theorem Per.mul (h : Per f s p d) (k : Nat) : ∀ n, s ≤ n → f (n + k * p) = f n + k * d := by
  induction k with
  | zero => intro n _; simp
  | succ k ih =>
    intro n hn
    rw [Nat.succ_mul, ← Nat.add_assoc, h (n + k * p) (by omega), ih n hn]
    push_cast
    rw [Int.add_mul]
    omega
theorem Per.up (h : Per f s p d) (hs : s ≤ t) : Per f t p d := fun n hn => h n (by omega)
theorem EQ.up (h : EQ f s p d) (hs : s ≤ t) : EQ f t p d := ⟨h.pos, h.per.up hs⟩
theorem EQ.times (h : EQ f s p d) {k : Nat} (hk : 1 ≤ k) : EQ f s (k * p) (k * d) := ⟨Nat.le_trans h.pos (Nat.le_mul_of_pos_left p hk), h.per.mul k⟩
theorem Per.down {a b : Nat} (h : EQ f a p d) (g : Per f b q e) : Per f a q e := fun n hn => by
  have hb : b ≤ n + b * p := by
    have := Nat.le_mul_of_pos_right b h.pos
    omega
  have h1 := h.per.mul b (n + q) (by omega)
  have h2 := h.per.mul b n hn
  have h3 := g (n + b * p) hb
  rw [show n + q + b * p = n + b * p + q by omega] at h1
  omega
theorem EQ.down {a b : Nat} (h : EQ f a p d) (g : EQ f b q e) : EQ f a q e := ⟨g.pos, Per.down h g.per⟩
theorem EQ.ratio {a b : Nat} (h : EQ f a p d) (g : EQ f b q e) : (q : Int) * d = p * e := by
  have h1 := h.per.mul q (a + b) (by omega)
  have h2 := g.per.mul p (a + b) (by omega)
  rw [Nat.mul_comm q p] at h1
  omega
theorem Per.mod (h : Per f s p d) (g : Per f s q e) : Per f s (q % p) (e - (q / p : Nat) * d) := fun n hn => by
  have h1 := h.mul (q / p) (n + q % p) (by omega)
  have h2 := g n hn
  have h3 : n + q % p + q / p * p = n + q := by
    have := Nat.mod_add_div' q p
    omega
  rw [h3] at h1
  omega
theorem Per.gcd : ∀ (p q : Nat) {d e : Int}, Per f s p d → Per f s q e → ∃ c, Per f s (Nat.gcd p q) c := by
  intro p q
  induction p, q using Nat.gcd.induction with
  | H0 n => intro d e h g; rw [Nat.gcd_zero_left]; exact ⟨e, g⟩
  | H1 m n hm ih =>
    intro d e h g
    rw [Nat.gcd_rec]
    exact ih (h.mod g) h
theorem EQ.gcd (h : EQ f s p d) (g : EQ f s q e) : ∃ c, EQ f s (Nat.gcd p q) c := by
  obtain ⟨c, hc⟩ := Per.gcd p q h.per g.per
  exact ⟨c, Nat.gcd_pos_of_pos_left q h.pos, hc⟩
theorem EQ.same (h : EQ f s p d) (g : EQ f s p e) : d = e := by
  have h1 := h.per s (Nat.le_refl _)
  have h2 := g.per s (Nat.le_refl _)
  omega
theorem least {P : Nat → Prop} (h : ∃ n, P n) : ∃ n, P n ∧ ∀ m, P m → n ≤ m := by
  obtain ⟨n, hn⟩ := h
  induction n using Nat.strongRecOn with
  | _ n ih =>
    by_cases q : ∃ m, m < n ∧ P m
    · obtain ⟨m, hm, hp⟩ := q
      exact ih m hm hp
    · exact ⟨n, hn, fun m hm => Nat.le_of_not_lt fun z => q ⟨m, z, hm⟩⟩
/-- the least start, the least period -/
structure Can (f : Nat → Int) (s p : Nat) (d : Int) : Prop where
  eq : EQ f s p d
  low : ∀ s' p' d', EQ f s' p' d' → s ≤ s'
  few : ∀ s' p' d', EQ f s' p' d' → p ≤ p'
theorem Can.uniq {s' p' : Nat} {d' : Int} (h : Can f s p d) (g : Can f s' p' d') : s = s' ∧ p = p' ∧ d = d' := by
  have e1 : s = s' := Nat.le_antisymm (h.low _ _ _ g.eq) (g.low _ _ _ h.eq)
  have e2 : p = p' := Nat.le_antisymm (h.few _ _ _ g.eq) (g.few _ _ _ h.eq)
  subst e1 e2
  exact ⟨rfl, rfl, h.eq.same g.eq⟩
theorem EQ.can (h : EQ f s p d) : ∃ s' p' d', Can f s' p' d' := by
  obtain ⟨s0, ⟨p1, d1, h1⟩, l1⟩ := least (P := fun s => ∃ p d, EQ f s p d) ⟨s, p, d, h⟩
  obtain ⟨p0, ⟨s1, d0, h2⟩, l2⟩ := least (P := fun p => ∃ s d, EQ f s p d) ⟨p, s, d, h⟩
  exact ⟨s0, p0, d0, h1.down h2, fun s' p' d' g => l1 _ ⟨p', d', g⟩, fun s' p' d' g => l2 _ ⟨s', d', g⟩⟩
theorem Can.dvd {s' : Nat} (h : Can f s p d) (g : EQ f s' q e) : p ∣ q ∧ e = (q / p : Nat) * d := by
  have g1 := h.eq.down g
  obtain ⟨c, hc⟩ := h.eq.gcd g1
  have h1 := h.few _ _ _ hc
  have h2 : Nat.gcd p q = p := Nat.le_antisymm (Nat.gcd_le_left q h.eq.pos) h1
  have h3 : p ∣ q := h2 ▸ Nat.gcd_dvd_right p q
  refine ⟨h3, ?_⟩
  have h4 := h.eq.per.mul (q / p) s (Nat.le_refl _)
  rw [Nat.div_mul_cancel h3] at h4
  have h5 := g1.per s (Nat.le_refl _)
  omega
/-- told by what stands ahead of the second period -/
theorem EQ.all (h : EQ f s p d) (n : Nat) (hn : s ≤ n) : f n = f (s + (n - s) % p) + ((n - s) / p : Nat) * d := by
  have := h.per.mul ((n - s) / p) (s + (n - s) % p) (by omega)
  have e1 := Nat.mod_add_div' (n - s) p
  rw [show s + (n - s) % p + (n - s) / p * p = n by omega] at this
  exact this
theorem EQ.same_fun (h : EQ f s p d) (k : EQ g s p d) (e : ∀ n, n < s + p → f n = g n) : f = g := by
  funext n
  by_cases hn : n < s
  · exact e n (by omega)
  · rw [h.all n (by omega), k.all n (by omega), e _ (by have := Nat.mod_lt (n - s) h.pos; omega)]
/-- it goes on within a list of L numbers -/
def GO (f : Nat → Int) (s L p : Nat) (d : Int) : Prop := ∀ n, s ≤ n → n + p < L → f (n + p) = f n + d
/-- two periods are enough -/
theorem GO.eq (h : EQ f s p d) (hq : 1 ≤ q) (hqp : q ≤ p) (g : GO (fun n => f (s + n)) 0 (2 * p) q e) : EQ f s q e := ⟨hq, fun n hn => by
  have h1 := h.per.mul ((n - s) / p) (s + (n - s) % p) (by omega)
  have h2 := h.per.mul ((n - s) / p) (s + (n - s) % p + q) (by omega)
  have e1 := Nat.mod_add_div' (n - s) p
  have e2 := Nat.mod_lt (n - s) h.pos
  have h3 := g ((n - s) % p) (Nat.zero_le _) (by omega)
  simp only at h3
  rw [show s + (n - s) % p + (n - s) / p * p = n by omega] at h1
  rw [show s + (n - s) % p + q + (n - s) / p * p = n + q by omega] at h2
  rw [show s + ((n - s) % p + q) = s + (n - s) % p + q by omega] at h3
  omega⟩
theorem EQ.go (h : EQ f s q e) (L : Nat) : GO (fun n => f (s + n)) 0 L q e := fun n _ _ => by
  show f (s + (n + q)) = f (s + n) + e
  rw [← Nat.add_assoc]
  exact h.per (s + n) (by omega)
/-- what the program looks for -/
def Fits (f : Nat → Int) (s p : Nat) (d : Int) (q : Nat) : Prop := q ∣ p ∧ (p : Int) ∣ d * q ∧ GO (fun n => f (s + n)) 0 (2 * p) q (d * q / p)
theorem Fits.eq (h : EQ f s p d) (hq : 1 ≤ q) (k : Fits f s p d q) : EQ f s q (d * q / p) := k.2.2.eq h hq (Nat.le_of_dvd h.pos k.1)
/-- a shorter period there is: the program finds one that is no longer -/
theorem fits_of (h : EQ f s p d) (g : EQ f s q e) (hq : q < p) : ∃ r, 1 ≤ r ∧ r ≤ q ∧ r < p ∧ Fits f s p d r := by
  obtain ⟨c, hc⟩ := h.gcd g
  have h1 : Nat.gcd p q ≤ q := Nat.gcd_le_right p g.pos
  have h2 : Nat.gcd p q ∣ p := Nat.gcd_dvd_left p q
  have h3 := h.ratio hc
  have hp : (p : Int) ≠ 0 := by have := h.pos; omega
  have h4 : d * (Nat.gcd p q : Nat) = p * c := by rw [Int.mul_comm]; exact h3
  refine ⟨Nat.gcd p q, hc.pos, h1, by omega, h2, ⟨c, h4⟩, ?_⟩
  rw [h4, Int.mul_ediv_cancel_left _ hp]
  exact hc.go _
/-- the least period at a start -/
structure LeastP (f : Nat → Int) (s p : Nat) (d : Int) : Prop where
  eq : EQ f s p d
  few : ∀ q e, EQ f s q e → p ≤ q
theorem leastP_first (h : EQ f s p d) (hq : 1 ≤ q) (hqp : q < p) (k : Fits f s p d q) (no : ∀ r, 1 ≤ r → r < q → ¬ Fits f s p d r) : LeastP f s q (d * q / p) := ⟨k.eq h hq, fun q' e' g => by
  by_cases hp : q' < p
  · obtain ⟨r, h1, h2, h3, h4⟩ := fits_of h g hp
    exact Nat.le_of_not_lt fun z => no r h1 (by omega) h4
  · omega⟩
theorem leastP_none (h : EQ f s p d) (no : ∀ r, 1 ≤ r → r < p → ¬ Fits f s p d r) : LeastP f s p d := ⟨h, fun q' e' g => Nat.le_of_not_lt fun hp => by
  obtain ⟨r, h1, h2, h3, h4⟩ := fits_of h g hp
  exact no r h1 h3 h4⟩
/-- one earlier -/
theorem LeastP.back (h : LeastP f (s + 1) p d) (k : f (s + p) = f s + d) : LeastP f s p d := by
  have e : EQ f s p d := ⟨h.eq.pos, fun n hn => by
    by_cases z : n = s
    · rw [z]; exact k
    · exact h.eq.per n (by omega)⟩
  exact ⟨e, fun q e' g => h.few q e' (g.up (by omega))⟩
theorem LeastP.can (h : LeastP f s p d) (k : s = 0 ∨ f (s - 1 + p) ≠ f (s - 1) + d) : Can f s p d := ⟨h.eq, fun s' p' d' g => by
  refine Nat.le_of_not_lt fun z => ?_
  rcases k with k | k
  · omega
  · exact k ((g.down h.eq).per (s - 1) (by omega)), fun s' p' d' g => h.few p' d' (h.eq.down g)⟩
end
/-- told by a list: its last p numbers, d more each time -/
def ext (xs : List Int) (p : Nat) (d : Int) (n : Nat) : Int := if n < xs.length then xs.getD n 0 else xs.getD (xs.length - p + (n - xs.length) % p) 0 + ((n - xs.length) / p + 1 : Nat) * d
theorem ext_at {xs : List Int} {p n : Nat} {d : Int} (h : n < xs.length) : ext xs p d n = xs.getD n 0 := if_pos h
theorem ext_eq {xs : List Int} {p : Nat} {d : Int} (h1 : 1 ≤ p) (h2 : p ≤ xs.length) : EQ (ext xs p d) (xs.length - p) p d := ⟨h1, fun n hn => by
  unfold ext
  by_cases hl : n < xs.length
  · rw [if_pos hl, if_neg (by omega), Nat.mod_eq_of_lt (by omega), Nat.div_eq_of_lt (by omega)]
    rw [show xs.length - p + (n + p - xs.length) = n by omega]
    simp
  · rw [if_neg hl, if_neg (by omega), show n + p - xs.length = n - xs.length + p by omega, Nat.add_mod_right, Nat.add_div_right _ h1]
    push_cast
    rw [Int.add_mul, Int.add_mul]
    omega⟩
theorem ext_list {xs : List Int} {p : Nat} {d : Int} : xs = (List.range xs.length).map (ext xs p d) := by
  refine List.ext_getElem (by simp) fun i h1 h2 => ?_
  rw [List.getElem_map, List.getElem_range, ext_at h1, List.getD_eq_getElem?_getD, List.getElem?_eq_getElem h1]
  rfl
end RowM
end
section
set_option Elab.async false
set_option autoImplicit false
set_option linter.all false
set_option maxRecDepth 100000
set_option maxHeartbeats 4000000
/-! Rows divided, times an integer; in plain Lean. -/
namespace RowM
/-- so many turns of a step d till D divides it -/
def turns (d : Int) (D : Nat) : Nat := D / Nat.gcd d.natAbs D
theorem gcd_pos {d : Int} {D : Nat} (hD : 1 ≤ D) : 1 ≤ Nat.gcd d.natAbs D := Nat.gcd_pos_of_pos_right _ hD
theorem turns_pos {d : Int} {D : Nat} (hD : 1 ≤ D) : 1 ≤ turns d D := Nat.div_pos (Nat.gcd_le_right _ hD) (gcd_pos hD)
theorem turns_le {d : Int} {D : Nat} : turns d D ≤ D := Nat.div_le_self _ _
theorem turn_dvd (d : Int) (D : Nat) : (D : Int) ∣ d * (turns d D : Nat) := by
  obtain ⟨k, hk⟩ := Nat.gcd_dvd_left d.natAbs D
  have h2 := Nat.div_mul_cancel (Nat.gcd_dvd_right d.natAbs D)
  refine Int.natAbs_dvd_natAbs.mp ?_
  rw [Int.natAbs_mul]
  show D ∣ d.natAbs * (D / Nat.gcd d.natAbs D)
  refine ⟨k, ?_⟩
  generalize Nat.gcd d.natAbs D = g at hk h2
  rw [hk, Nat.mul_comm g k, Nat.mul_assoc, Nat.mul_comm g, h2, Nat.mul_comm]
theorem dvd_turn {d : Int} {D q : Nat} (hD : 1 ≤ D) (h : (D : Int) ∣ q * d) : turns d D ∣ q := by
  have h1 : D ∣ q * d.natAbs := by
    have := Int.natAbs_dvd_natAbs.mpr h
    rw [Int.natAbs_mul] at this
    exact this
  have hg := gcd_pos (d := d) hD
  have co : Nat.Coprime (D / Nat.gcd d.natAbs D) (d.natAbs / Nat.gcd d.natAbs D) := by
    rw [Nat.gcd_comm]
    exact Nat.coprime_div_gcd_div_gcd (by rw [Nat.gcd_comm]; exact hg)
  refine co.dvd_of_dvd_mul_right ?_
  have e1 := Nat.div_mul_cancel (Nat.gcd_dvd_left d.natAbs D)
  have e2 := Nat.div_mul_cancel (Nat.gcd_dvd_right d.natAbs D)
  generalize Nat.gcd d.natAbs D = g at hg e1 e2
  show D / g ∣ q * (d.natAbs / g)
  refine Nat.dvd_of_mul_dvd_mul_right hg ?_
  rw [e2, Nat.mul_assoc, e1]
  exact h1
section
variable {f : Nat → Int} {s p s' q : Nat} {d e : Int}
theorem turns_mul (hp : 1 ≤ p) {D : Nat} (hD : 1 ≤ D) : turns d D ≤ turns d (p * D) := by
  have hpD : 1 ≤ p * D := Nat.mul_pos hp hD
  refine Nat.le_of_dvd (turns_pos hpD) (dvd_turn hD ?_)
  have := turn_dvd d (p * D)
  rw [Int.mul_comm] at this
  refine Int.dvd_trans ?_ this
  exact Int.natCast_dvd_natCast.mpr ⟨p, Nat.mul_comm _ _⟩
theorem eq_div (h : EQ f s p d) {D : Nat} (hD : 1 ≤ D) : EQ (fun n => f n / D) s (p * turns d D) (d * (turns d D : Nat) / D) := ⟨Nat.mul_pos h.pos (turns_pos hD), fun n hn => by
  show f (n + p * turns d D) / D = f n / D + d * (turns d D : Nat) / D
  have := h.per.mul (turns d D) n hn
  rw [Nat.mul_comm p, this, Int.mul_comm _ d]
  exact Int.add_ediv_of_dvd_right (turn_dvd d D)⟩
theorem eq_mod (h : EQ f s p d) {D : Nat} (hD : 1 ≤ D) : EQ (fun n => f n % D) s (p * turns d D) 0 := ⟨Nat.mul_pos h.pos (turns_pos hD), fun n hn => by
  show f (n + p * turns d D) % D = f n % D + 0
  have := h.per.mul (turns d D) n hn
  rw [Nat.mul_comm p, this, Int.mul_comm _ d]
  obtain ⟨k, hk⟩ := turn_dvd d D
  rw [hk, Int.add_mul_emod_self_left, Int.add_zero]⟩
theorem eq_mul (h : EQ f s p d) (c : Int) : EQ (fun n => f n * c) s p (d * c) := ⟨h.pos, fun n hn => by
  show f (n + p) * c = f n * c + d * c
  rw [h.per n hn, Int.add_mul]⟩
theorem div_dvd (h : EQ f s p d) {D : Nat} (hD : 1 ≤ D) (g : EQ (fun n => f n / D) s' q e) : turns d (p * D) ∣ q := by
  have hp := h.pos
  have hq := g.pos
  refine dvd_turn (Nat.mul_pos hp hD) ?_
  have key : ∀ k : Nat, 0 ≤ f (s + s') % D + k * ((q : Int) * d - D * (p * e)) ∧ f (s + s') % D + k * ((q : Int) * d - D * (p * e)) < D := fun k => by
    have h1 := h.per.mul (k * q) (s + s') (by omega)
    have h2 := g.per.mul (k * p) (s + s') (by omega)
    have h2 : f (s + s' + k * p * q) / D = f (s + s') / D + ((k * p : Nat) : Int) * e := h2
    rw [show k * p * q = k * q * p by rw [Nat.mul_assoc, Nat.mul_comm p q, Nat.mul_assoc]] at h2
    rw [h1] at h2
    have e1 := Int.mul_ediv_add_emod (f (s + s') + ((k * q : Nat) : Int) * d) D
    have e2 := Int.mul_ediv_add_emod (f (s + s')) D
    have e3 := Int.emod_nonneg (f (s + s') + ((k * q : Nat) : Int) * d) (show (D : Int) ≠ 0 by omega)
    have e4 := Int.emod_lt_of_pos (f (s + s') + ((k * q : Nat) : Int) * d) (show (0 : Int) < D by omega)
    rw [h2] at e1
    have e6 : (D : Int) * (((k * p : Nat) : Int) * e) = k * (D * (p * e)) := by
      push_cast
      simp only [Int.mul_assoc, Int.mul_left_comm]
    have e7 : ((k * q : Nat) : Int) * d = k * (q * d) := by
      push_cast
      rw [Int.mul_assoc]
    have e5 : f (s + s') % D + k * ((q : Int) * d - D * (p * e)) = (f (s + s') + ((k * q : Nat) : Int) * d) % D := by
      generalize (f (s + s') + ((k * q : Nat) : Int) * d) % D = R at e1 e3 e4 ⊢
      rw [Int.mul_add, e6, e7] at e1
      rw [Int.mul_sub]
      omega
    rw [e5]
    exact ⟨e3, e4⟩
  generalize hu : (q : Int) * d - D * (p * e) = u at key
  have k0 := key 0
  have kD := key D
  have u0 : u = 0 := by
    rcases Int.lt_trichotomy u 0 with h0 | h0 | h0
    · have : (D : Int) * u ≤ D * (-1) := Int.mul_le_mul_of_nonneg_left (by omega) (by omega)
      simp at k0
      omega
    · exact h0
    · have : (D : Int) * 1 ≤ D * u := Int.mul_le_mul_of_nonneg_left (by omega) (by omega)
      simp at k0
      omega
  rw [u0] at hu
  refine ⟨e, ?_⟩
  push_cast
  rw [show (p : Int) * D * e = D * (p * e) by simp only [Int.mul_assoc, Int.mul_left_comm]]
  omega
theorem mod_dvd (h : EQ f s p d) {D : Nat} (hD : 1 ≤ D) (g : EQ (fun n => f n % D) s' q e) : e = 0 ∧ turns d D ∣ q := by
  have b : ∀ n, 0 ≤ f n % D ∧ f n % D < D := fun n => ⟨Int.emod_nonneg _ (by omega), Int.emod_lt_of_pos _ (by omega)⟩
  have e0 : e = 0 := by
    have h1 := g.per.mul D s' (Nat.le_refl _)
    have h1 : f (s' + D * q) % D = f s' % D + (D : Int) * e := h1
    have b1 := b (s' + D * q)
    have b2 := b s'
    rcases Int.lt_trichotomy e 0 with h0 | h0 | h0
    · have : (D : Int) * e ≤ D * (-1) := Int.mul_le_mul_of_nonneg_left (by omega) (by omega)
      omega
    · exact h0
    · have : (D : Int) * 1 ≤ D * e := Int.mul_le_mul_of_nonneg_left (by omega) (by omega)
      omega
  refine ⟨e0, dvd_turn hD ?_⟩
  subst e0
  have h1 := g.per.mul p (s + s') (by omega)
  have h1 : f (s + s' + p * q) % D = f (s + s') % D + (p : Int) * 0 := h1
  have h2 := h.per.mul q (s + s') (by omega)
  rw [Nat.mul_comm p q, h2, Int.mul_zero, Int.add_zero] at h1
  have h3 := Int.emod_eq_emod_iff_emod_sub_eq_zero.mp h1
  rw [show f (s + s') + (q : Int) * d - f (s + s') = q * d by omega] at h3
  exact Int.dvd_of_emod_eq_zero h3
end
end RowM
end
section
set_option Elab.async false
set_option autoImplicit false
set_option linter.all false
set_option maxRecDepth 100000
set_option maxHeartbeats 4000000
namespace Ls
open PySem PySem.Spec PyProof.Rows L2

/-! ### x op y, x an instance whose class has the text's own method, y of the same class or of a builtin's type -/
namespace OB
open PySem.W
/-- what a builtin's type has for an operator -/
structure Slots (T nm : String) : Prop where
  fl : ∃ b, fillsNumberSlot (.type T) nm = pure b
  lk : ∃ r, typeLookup (.type T) (dunderR nm) = pure r
theorem slots_of {T nm : String} {f r : Option Value} (hf : typeLookup (.type T) (dunder nm) = pure f) (hr : typeLookup (.type T) (dunderR nm) = pure r) : Slots T nm := ⟨⟨(f.isSome && !isSeqSlot f) || (r.isSome && !isSeqSlot r), by
  unfold fillsNumberSlot
  simp only [hf, hr, pure_bind]⟩, r, hr⟩
/-- the class's own turned form, or none -/
def Turn (K : Frag) (C : Addr) (nm : String) : Prop := ∃ ro, findIn K (.ref C) (dunderR nm) = some ro ∧ (ro = none ∨ ∃ g, ro = some (.ref g))
section
variable {prog : Program} {w : World} {A : Around} {E : Value → Shared → Prop} {s : Shared} {K : Frag} {x C f : Addr} {ox : Obj} {od : Option Obj} {b : Value}
theorem looks_inPy {M : Model} {h : Heap} {nm : String} (X : K.In h) (h1 : findIn K (.ref C) (dunder nm) = some (some (.ref f))) (h2 : Turn K C nm) : Looks M h (numberSlotInPython (.ref C) nm) true := by
  obtain ⟨ro, h2, h3⟩ := h2
  intro A Q E s k q
  unfold numberSlotInPython
  refine wpAny_bind (looks_findIn X h1 A _ E s k ?_)
  refine wpAny_bind (wpAny_pure ?_)
  refine wpAny_bind (looks_findIn X h2 A _ E s k ?_)
  rcases h3 with rfl | ⟨g, rfl⟩
  · exact wpAny_bind (wpAny_pure (wpAny_pure q))
  · exact wpAny_bind (wpAny_pure (wpAny_pure q))
theorem binop1_F {nm T : String} {Q : Value → Shared → Prop} {R : Option Value → Shared → Prop} (X : K.In s.heap) (I : InstAt s.heap x ox C od) (hb : Looks (model prog w) s.heap (typeOf b) (.type T)) (hc : selfFirst K C = true)
    (hs : findIn K (.ref C) (dunder nm) = some (some (.ref f))) (ht : Turn K C nm) (hf : isFn K (.ref f) = true) (hT : Slots T nm) (hsub : subIn K (.type T) (.ref C) = some false)
    (h : wpAny (model prog w) A (call (.ref f) [.ref x, b]) (PySem.W.CmpBack Q) E s) (hR : ∀ v s', Q v s' → R (some v) s') : wpAny (model prog w) A (binaryOp1 nm (.ref x) b) R E s := by
  obtain ⟨cd, hcd, hm⟩ := any_some hc
  obtain ⟨rest, hm⟩ : ∃ rest, cd.mro = .ref C :: rest := by
    cases q : cd.mro with
    | nil => rw [q] at hm; cases hm
    | cons a r => rw [q] at hm; exact ⟨r, by rw [List.head?_cons] at hm; cases (beq_iff_eq.mp hm); rfl⟩
  obtain ⟨⟨fb, hfl⟩, rb, hlk⟩ := hT
  have fin : ∀ {R : Option Value → Shared → Prop}, (∀ v s', Q v s' → R (some v) s') → wpAny (model prog w) A (tryMethod (.ref x) (dunder nm) b) R E s := fun {R} hR => by
    unfold tryMethod
    refine wpAny_bind (special_fn X I hs (beq_iff_eq.mp hf) (wpAny_mono h (fun v s' hv => ?_) fun _ _ e => e))
    cases v <;> first | exact hv.elim | exact wpAny_pure (hR _ _ hv)
  unfold binaryOp1
  refine wpAny_bind (I.type.here (wpAny_bind (hb.here (wpAny_bind ((fills_K X hcd hm hs).here ?_)))))
  rw [if_neg (by simp)]
  refine wpAny_bind (wpAny_of_eq hfl ?_)
  cases fb with
  | false =>
    simp only [Bool.and_false, Bool.false_eq_true, if_false, Bool.false_and]
    refine wpAny_bind (wpAny_pure ?_)
    simp only [Bool.false_eq_true, if_false]
    refine wpAny_bind (m := tryMethod (.ref x) _ b) (fin fun v s' q => ?_)
    exact wpAny_pure (hR _ _ q)
  | true =>
    simp only [Bool.and_self, if_true, Bool.not_false]
    refine wpAny_bind ((looks_subIn X hsub).here ?_)
    simp only [Bool.false_eq_true, if_false, Bool.not_false, Bool.and_self, if_true]
    refine wpAny_bind ((looks_inPy X hs ht).here ?_)
    simp only [if_true]
    refine wpAny_bind (wpAny_pure ?_)
    simp only [Bool.not_false, if_true]
    refine wpAny_bind (wpAny_of_eq hlk ?_)
    refine wpAny_bind (m := tryMethod (.ref x) _ b) (fin fun v s' q => ?_)
    exact wpAny_pure (hR _ _ q)
theorem binop_F {op : Operator} {T : String} {Q : Value → Shared → Prop} (X : K.In s.heap) (I : InstAt s.heap x ox C od) (hb : Looks (model prog w) s.heap (typeOf b) (.type T)) (hc : selfFirst K C = true)
    (hs : findIn K (.ref C) (dunder op.info.2) = some (some (.ref f))) (ht : Turn K C op.info.2) (hf : isFn K (.ref f) = true) (hT : Slots T op.info.2) (hsub : subIn K (.type T) (.ref C) = some false)
    (h : wpAny (model prog w) A (call (.ref f) [.ref x, b]) (PySem.W.CmpBack Q) E s) : wpAny (model prog w) A (binaryOp op (.ref x) b) Q E s := by
  unfold binaryOp
  exact wpAny_holding (wpAny_bind (binop1_F X I hb hc hs ht hf hT hsub h fun v s' q => wpAny_pure q))
theorem binop1_S {nm : String} {Q : Value → Shared → Prop} {R : Option Value → Shared → Prop} (X : K.In s.heap) (I : InstAt s.heap x ox C od) (hb : Looks (model prog w) s.heap (typeOf b) (.ref C)) (hc : selfFirst K C = true)
    (hs : findIn K (.ref C) (dunder nm) = some (some (.ref f))) (hf : isFn K (.ref f) = true)
    (h : wpAny (model prog w) A (call (.ref f) [.ref x, b]) (PySem.W.CmpBack Q) E s) (hR : ∀ v s', Q v s' → R (some v) s') : wpAny (model prog w) A (binaryOp1 nm (.ref x) b) R E s := by
  obtain ⟨cd, hcd, hm⟩ := any_some hc
  obtain ⟨rest, hm⟩ : ∃ rest, cd.mro = .ref C :: rest := by
    cases q : cd.mro with
    | nil => rw [q] at hm; cases hm
    | cons a r => rw [q] at hm; exact ⟨r, by rw [List.head?_cons] at hm; cases (beq_iff_eq.mp hm); rfl⟩
  have fin : ∀ {R : Option Value → Shared → Prop}, (∀ v s', Q v s' → R (some v) s') → wpAny (model prog w) A (tryMethod (.ref x) (dunder nm) b) R E s := fun {R} hR => by
    unfold tryMethod
    refine wpAny_bind (special_fn X I hs (beq_iff_eq.mp hf) (wpAny_mono h (fun v s' hv => ?_) fun _ _ e => e))
    cases v <;> first | exact hv.elim | exact wpAny_pure (hR _ _ hv)
  unfold binaryOp1
  refine wpAny_bind (I.type.here (wpAny_bind (hb.here (wpAny_bind ((fills_K X hcd hm hs).here ?_)))))
  simp only [beq_self_eq_true, if_true]
  refine wpAny_bind (wpAny_pure ?_)
  simp only [Bool.and_false, Bool.false_eq_true, if_false, Bool.false_and]
  refine wpAny_bind (wpAny_pure ?_)
  simp only [Bool.false_eq_true, if_false]
  refine wpAny_bind (m := tryMethod (.ref x) _ b) (fin fun v s' q => ?_)
  exact wpAny_pure (hR _ _ q)
/-- the class over object alone, without the form in place -/
structure NoIp (K : Frag) (C : Addr) (nm : String) : Prop where
  mro : (clsIn K C).any (fun cd => cd.mro == [.ref C, .type "object"]) = true
  no : findIn K (.ref C) (dunderI nm) = some none
  ob : typeLookup (.type "object") (dunderI nm) = pure none
theorem looks_noIp {M : Model} {h : Heap} {nm : String} {add : Bool} (X : K.In h) (n : NoIp K C nm) : Looks M h (fillsInplaceSlot (.ref C) nm add) false := by
  obtain ⟨cd, hcd, hm⟩ := any_some n.mro
  have hm : cd.mro = [.ref C, .type "object"] := beq_iff_eq.mp hm
  intro A Q E s k q
  unfold fillsInplaceSlot
  refine wpAny_bind ((looks_clsIn X hcd).andThen (f := fun cd => pure cd.mro) .now A _ E s k ?_)
  rw [hm, List.anyM_cons]
  refine wpAny_bind (wpAny_bind (looks_findIn X n.no A _ E s k ?_))
  refine wpAny_pure ?_
  simp only [Bool.false_eq_true, if_false]
  rw [List.anyM_cons]
  refine wpAny_bind (wpAny_bind (wpAny_of_eq n.ob ?_))
  refine wpAny_pure ?_
  simp only [Bool.false_eq_true, if_false]
  exact wpAny_pure q
end
end OB
/-- what the top says of the class's own method for an operator, at f -/
structure OwnOp (K : PySem.W.Frag) (C f : Addr) (nm : String) : Prop where
  sf : PySem.W.selfFirst K C = true
  at_ : PySem.W.findIn K (.ref C) (dunder nm) = some (some (.ref f))
  fn : PySem.W.isFn K (.ref f) = true
  tn : OB.Turn K C nm
/-- the other one: of the same class, or of a builtin's type -/
def Beside (K : PySem.W.Frag) (C : Addr) (nm : String) (H : Hp) (y : V) : Prop := (∃ b dy gs, y = .ref b ∧ H b = some (.ins C dy gs)) ∨ ∃ T, TyX K H y (.type T) ∧ OB.Slots T nm ∧ PySem.W.subIn K (.type T) (.ref C) = some false
def rBinO (K : PySem.W.Frag) (nm : String) (C f : Addr) (sp : Sp) (E : XK) : R2 := fun x y H Q => ∃ (a dx : Addr) (fs : List (Str × V)), x = .ref a ∧ H a = some (.ins C dx fs) ∧ Beside K C nm H y ∧ sp [x, y] H Q E
theorem relV_back {v : V} {u : Value} {P : Value → Shared → Prop} {s : Shared} (r : RelV v u) (h : P u s) : PySem.W.CmpBack P u s := by
  cases v <;> first | (obtain ⟨t, rfl⟩ := r; exact h) | (cases r; exact h)
section
variable {X : Cx} {CX : CXT} {n : Nat} {f C : Addr} {sp : Sp} {E : XK} {op : Operator}
theorem op_binO (F : FnR X.prog X.w X.K X.mg X.base CX n f sp) (O : OwnOp X.K C f op.info.2) (hr : Room n X.A) (hx : Passes CX X E) : OpR X (binaryOp op) (rBinO X.K op.info.2 C f sp E) := by
  intro pins s σ H x y v u Q I rx ry h
  obtain ⟨a, dx, fs, rfl, ha, hy, q⟩ := h
  cases (show v = Value.ref a from rx)
  obtain ⟨mA, J, _⟩ := ins_get I.hok ha
  obtain ⟨od, J, _⟩ := J.look
  have cl : wpAny (model X.prog X.w) X.A (call (.ref f) [.ref a, u]) (PySem.W.CmpBack (EP X pins σ Q)) X.xe s := by
    have r2 : Vals [V.ref a, y] [Value.ref a, u] := .cons rfl (.cons ry .nil)
    exact thn (wpAny_call (run_fnR F hr hx I r2 q)) fun w' s' ⟨z, H', I', rz, q'⟩ => relV_back rz ⟨z, H', I', rz, q'⟩
  rcases hy with ⟨b, dy, gs, rfl, hb⟩ | ⟨T, hT, hs, hsub⟩
  · cases (show u = Value.ref b from ry)
    obtain ⟨mB, J2, _⟩ := ins_get I.hok hb
    obtain ⟨od2, J2, _⟩ := J2.look
    unfold binaryOp
    exact wpAny_holding (wpAny_bind (OB.binop1_S I.kIn J J2.type O.sf O.at_ O.fn cl fun v s' q => wpAny_pure q))
  · obtain ⟨P, Z, p, _⟩ := kit_of I ry hT
    exact OB.binop_F I.kIn J (Z.ty _ _ I.kIn p) O.sf O.at_ O.tn O.fn hs hsub cl
theorem ip_own (F : FnR X.prog X.w X.K X.mg X.base CX n f sp) (O : OwnOp X.K C f op.info.2) (no : OB.NoIp X.K C op.info.2) (hr : Room n X.A) (hx : Passes CX X E) : PIp X op (rBinO X.K op.info.2 C f sp E) := by
  intro pins s σ H x y v u Q I rx ry h
  obtain ⟨a, dx, fs, rfl, ha, hy, q⟩ := h
  cases (show v = Value.ref a from rx)
  obtain ⟨mA, J, _⟩ := ins_get I.hok ha
  obtain ⟨od, J, _⟩ := J.look
  have cl : wpAny (model X.prog X.w) X.A (call (.ref f) [.ref a, u]) (PySem.W.CmpBack (EP X pins σ Q)) X.xe s := by
    have r2 : Vals [V.ref a, y] [Value.ref a, u] := .cons rfl (.cons ry .nil)
    exact thn (wpAny_call (run_fnR F hr hx I r2 q)) fun w' s' ⟨z, H', I', rz, q'⟩ => relV_back rz ⟨z, H', I', rz, q'⟩
  unfold inplaceOp
  refine wpAny_holding (wpAny_bind (J.type.here (wpAny_bind ((OB.looks_noIp I.kIn no).here ?_))))
  simp only [Bool.false_eq_true, if_false]
  rcases hy with ⟨b, dy, gs, rfl, hb⟩ | ⟨T, hT, hs, hsub⟩
  · cases (show u = Value.ref b from ry)
    obtain ⟨mB, J2, _⟩ := ins_get I.hok hb
    obtain ⟨od2, J2, _⟩ := J2.look
    exact wpAny_bind (OB.binop1_S I.kIn J J2.type O.sf O.at_ O.fn cl fun v s' q => wpAny_pure q)
  · obtain ⟨P, Z, p, _⟩ := kit_of I ry hT
    exact wpAny_bind (OB.binop1_F I.kIn J (Z.ty _ _ I.kIn p) O.sf O.at_ O.tn O.fn hs hsub cl fun v s' q => wpAny_pure q)
/-! ### x[i] by an own __getitem__ -/
structure OwnGet (K : PySem.W.Frag) (C f : Addr) : Prop where
  at_ : PySem.W.findIn K (.ref C) "__getitem__" = some (some (.ref f))
  fi : PySem.W.fnIn K f = true
  fn : PySem.W.isFn K (.ref f) = true
def rGetO (C : Addr) (sp : Sp) (E : XK) : R2 := fun x y H Q => ∃ (a dx : Addr) (fs : List (Str × V)), x = .ref a ∧ H a = some (.ins C dx fs) ∧ sp [x, y] H Q E
theorem pe_ixO {a b : PySem.Expr} {ta tb : TE} {pos : Pos} (F : FnR X.prog X.w X.K X.mg X.base CX n f sp) (O : OwnGet X.K C f) (hr : Room (n + 1) X.A) (hx : Passes CX X E) (ha : PE X a ta) (hb : PE X b tb)
    (hs : ∀ x i, subscripted b true (.ref x) i = runValue (.builtin "lifetime.subscript" ⟨[.ref x, i], []⟩)) : PE X (.Subscript a b pos) (tOp (rGetO C sp E) ta tb) := by
  refine ⟨fun pins s σ H Q I h => ?_⟩
  refine Subscript_ (binT ha hb I h fun v u s2 x y H2 I2 rx ry q => ?_)
  obtain ⟨c, dx, fs, rfl, hc, q⟩ := q
  cases (show v = Value.ref c from rx)
  obtain ⟨mA, J, _⟩ := ins_get I2.hok hc
  obtain ⟨od, J, _⟩ := J.look
  obtain ⟨m, hF⟩ := I2.fr
  refine PySem.W.sub_K hF I2.ok.mod.kin J O.at_ O.fi O.fn ?_ (hs _ _)
  have r2 : Vals [V.ref c, y] [Value.ref c, u] := .cons rfl (.cons ry .nil)
  exact wpAny_call (SlX.run_at F hr.in1 I2.env0.in1 hx I2 r2 q)
/-! ### o.m(e, ..) by an own method of the class at C -/
structure OwnM (P : Program) (w : World) (K : PySem.W.Frag) (mg : Str → Option Value) (base : Heap) (CX : CXT) (k : Nat) (C : Addr) (m : Str) (sp : Sp) : Prop where
  ex : ∃ f, Cls K C ∧ Meth K C m f ∧ FnR P w K mg base CX k f sp
theorem pe_om {k : Nat} {m : Str} {o e : PySem.Expr} {es : List PySem.Expr} {ta : TE} {t : TA} {apos pos : Pos} {pl : Sem Bool} (c : OwnM X.prog X.w X.K X.mg X.base CX k C m sp) (hr : Room k X.A) (he : PE X o ta) (hx : Passes CX X E) (ha : PA X (e :: es) t)
    (hst : starEach (e :: es) X.env = (false, eval e X.env) :: starEach es X.env := by rfl) (hpl : (backTo pos (starEach es X.env)).any (·.1) = false := by rfl)
    (ht : eval (.Call (.Attribute o m apos) (e :: es) [] pos) X.env = (do
      let ov ← eval o X.env
      standAt apos.atName
      let (f, first) ← holding [ov] (getMethod ov m pl)
      callWith pos f first (backTo pos (starEach (e :: es) X.env)) (backToKw pos (keywordEach [] X.env))) := by rfl) : PE X (.Call (.Attribute o m apos) (e :: es) [] pos) (tMethR C m sp E ta t) := by
  obtain ⟨f, h1, h2, F⟩ := c.ex
  exact pe_methR he h1 h2 F hr hx ha hst hpl ht
end
end Ls
end
section
set_option Elab.async false
set_option autoImplicit false
set_option linter.all false
set_option maxRecDepth 100000
set_option maxHeartbeats 4000000
namespace Ls
open PySem PySem.Spec PyProof.Rows L2
/-! ### i op y, i a whole number, y an instance whose class has the turned form -/
namespace OB
open PySem.W
/-- int's own slot for an operator declines what is no number -/
structure IntSlot (nm id : String) (B : Builtin) : Prop where
  fills : fillsNumberSlot (.type "int") nm = pure true
  slot : Slot "int" (dunder nm) id
  entry : entryFor table id = some B
  args : ∀ a b : Value, argsOk id ⟨[a, b], []⟩
  is : ∃ f nn, B = PySem.Builtin.Int.intBinary nn f
theorem sMul : IntSlot "mul" "int.__mul__" PySem.Builtin.«int.__mul__» := ⟨PySem.F.fills_int_mul, PySem.F.slot_int_mul, PySem.F.entry_int_mul, fun _ _ => PySem.F.args_int_mul_2 _ _, _, _, rfl⟩
theorem sAdd : IntSlot "add" "int.__add__" PySem.Builtin.«int.__add__» := ⟨PySem.F.fills_int_add, PySem.F.slot_int_add, PySem.F.entry_int_add, fun _ _ => PySem.F.args_int_add_2 _ _, _, _, rfl⟩
theorem sSub : IntSlot "sub" "int.__sub__" PySem.Builtin.«int.__sub__» := ⟨PySem.F.fills_int_sub, PySem.F.slot_int_sub, PySem.F.entry_int_sub, fun _ _ => PySem.F.args_int_sub_2 _ _, _, _, rfl⟩
section
variable {prog : Program} {w : World} {A : Around} {E : Value → Shared → Prop} {s : Shared} {K : Frag} {x dx C f : Addr} {od : Option Obj}
theorem fillsR_K {M : Model} {h : Heap} {nm : String} {cd : ClassData} {rest : List Value} (X : K.In h) (hc : clsIn K C = some cd) (hm : cd.mro = .ref C :: rest) (h1 : findIn K (.ref C) (dunder nm) = some none ∨ ∃ g, findIn K (.ref C) (dunder nm) = some (some (.ref g))) (h2 : findIn K (.ref C) (dunderR nm) = some (some (.ref f))) :
    Looks M h (fillsNumberSlot (.ref C) nm) true := by
  rcases h1 with h1 | ⟨g, h1⟩
  · intro A Q E s k q
    unfold fillsNumberSlot
    refine wpAny_bind ((looks_clsIn X hc).andThen (f := fun cd => pure cd.mro) .now A _ E s k ?_)
    rw [hm, List.anyM_cons]
    refine wpAny_bind ?_
    rw [List.anyM_cons]
    refine wpAny_bind (wpAny_bind (looks_findIn X h1 A _ E s k ?_))
    refine wpAny_pure ?_
    simp only [Bool.false_eq_true, if_false]
    rw [List.anyM_cons]
    refine wpAny_bind (wpAny_bind (looks_findIn X h2 A _ E s k ?_))
    dsimp only
    rw [if_pos (show (!ownNameWrapper (.ref f) (dunderR nm)) = true from rfl)]
    refine wpAny_pure ?_
    rw [if_pos rfl]
    refine wpAny_pure ?_
    rw [if_pos rfl]
    exact wpAny_pure q
  · exact fills_K X hc hm h1
theorem declines {nm id : String} {B : Builtin} {Q : Option Value → Shared → Prop} {i : Int} {t : Tok} (S : IntSlot nm id B) (hx : s.heap.get? x = some (instObj C dx)) (hq : Q none s) :
    wpAny (model prog w) A (tryMethod (.int i t) (dunder nm) (.ref x)) Q E s := by
  obtain ⟨g, nn, hB⟩ := S.is
  refine wpAny_tryMethod_declines (typeIs_int s i t) S.slot (wpAny_call (codeAny_call_builtin S.slot.plain S.entry (S.slot.check _ _ _ _ _ _ _ _ (typeIs_int s i t) (S.args _ _) ?_)))
  rw [hB]
  unfold PySem.Builtin.Int.intBinary
  show wpAny _ _ (do let o ← (do match (← load x).data with | .prim (.int i _) => pure (some i) | _ => pure none : Sem (Option Int)); _) _ _ _
  refine wpAny_bind (wpAny_bind (wpAny_load hx (wpAny_pure ?_)))
  exact wpAny_bind (wpAny_rule (wpAny_pure ⟨rfl, hq⟩))
theorem binop1_R {nm id : String} {B : Builtin} {Q : Value → Shared → Prop} {R : Option Value → Shared → Prop} {i : Int} {t : Tok} (X : K.In s.heap) (I : InstAt s.heap x (instObj C dx) C od) (S : IntSlot nm id B) (hc : selfFirst K C = true)
    (h1 : findIn K (.ref C) (dunder nm) = some none ∨ ∃ g, findIn K (.ref C) (dunder nm) = some (some (.ref g))) (h2 : findIn K (.ref C) (dunderR nm) = some (some (.ref f))) (hf : isFn K (.ref f) = true) (hsub : subIn K (.ref C) (.type "int") = some false)
    (h : wpAny (model prog w) A (call (.ref f) [.ref x, .int i t]) (PySem.W.CmpBack Q) E s) (hR : ∀ v s', Q v s' → R (some v) s') : wpAny (model prog w) A (binaryOp1 nm (.int i t) (.ref x)) R E s := by
  obtain ⟨cd, hcd, hm⟩ := any_some hc
  obtain ⟨rest, hm⟩ : ∃ rest, cd.mro = .ref C :: rest := by
    cases q : cd.mro with
    | nil => rw [q] at hm; cases hm
    | cons a r => rw [q] at hm; exact ⟨r, by rw [List.head?_cons] at hm; cases (beq_iff_eq.mp hm); rfl⟩
  have hpy : numberSlotInPython (.type "int") nm = pure false := rfl
  unfold binaryOp1
  refine wpAny_bind (wpAny_typeOf (typeIs_int s i t) (wpAny_bind (I.type.here (wpAny_bind (wpAny_of_eq S.fills ?_)))))
  have hne : (Value.type "int" == Value.ref C) = false := by simp
  simp only [hne, Bool.false_eq_true, if_false]
  refine wpAny_bind ((fillsR_K X hcd hm h1 h2).here ?_)
  simp only [Bool.and_self, if_true]
  refine wpAny_bind ((looks_subIn X hsub).here ?_)
  simp only [Bool.false_eq_true, if_false, Bool.not_false, Bool.and_self, if_true, pure_bind, hpy]
  refine wpAny_bind (declines S I.at_ ?_)
  dsimp only
  unfold tryMethod
  refine wpAny_bind (m := callSpecial? (.ref x) _ [.int i t] >>= _) (wpAny_bind (special_fn X I h2 (beq_iff_eq.mp hf) (wpAny_mono h (fun v s' hv => ?_) fun _ _ e => e)))
  cases v <;> first | exact hv.elim | exact wpAny_pure (wpAny_bind (wpAny_rule (wpAny_pure (hR _ _ hv)))) | exact wpAny_pure (wpAny_rule (wpAny_pure (hR _ _ hv)))
end
end OB
/-- what the top says of the class's own turned form, at f -/
structure OwnOpR (K : PySem.W.Frag) (C f : Addr) (nm : String) : Prop where
  sf : PySem.W.selfFirst K C = true
  fw : PySem.W.findIn K (.ref C) (dunder nm) = some none ∨ ∃ g, PySem.W.findIn K (.ref C) (dunder nm) = some (some (.ref g))
  at_ : PySem.W.findIn K (.ref C) (dunderR nm) = some (some (.ref f))
  fn : PySem.W.isFn K (.ref f) = true
  sub : PySem.W.subIn K (.ref C) (.type "int") = some false
/-- i op y: the class's turned form is called with y and i -/
def rBinR (C : Addr) (sp : Sp) (E : XK) : R2 := fun x y H Q => ∃ (i : Int) (a dx : Addr) (fs : List (Str × V)), x = .int i ∧ y = .ref a ∧ H a = some (.ins C dx fs) ∧ sp [y, x] H Q E
section
variable {X : Cx} {CX : CXT} {n : Nat} {f C : Addr} {sp : Sp} {E : XK} {op : Operator}
theorem op_binR {id : String} {B : Builtin} (F : FnR X.prog X.w X.K X.mg X.base CX n f sp) (S : OB.IntSlot op.info.2 id B) (O : OwnOpR X.K C f op.info.2) (hr : Room n X.A) (hx : Passes CX X E) : OpR X (binaryOp op) (rBinR C sp E) := by
  intro pins s σ H x y v u Q I rx ry h
  obtain ⟨i, a, dx, fs, rfl, rfl, ha, q⟩ := h
  obtain ⟨t, rfl⟩ : ∃ t, v = .int i t := rx
  cases (show u = Value.ref a from ry)
  obtain ⟨mA, J, _⟩ := ins_get I.hok ha
  obtain ⟨od, J, _⟩ := J.look
  have r2 : Vals [V.ref a, V.int i] [Value.ref a, Value.int i t] := .cons rfl (.cons ⟨t, rfl⟩ .nil)
  have cl : wpAny (model X.prog X.w) X.A (call (.ref f) [.ref a, .int i t]) (PySem.W.CmpBack (EP X pins σ Q)) X.xe s :=
    thn (wpAny_call (run_fnR F hr hx I r2 q)) fun w' s' ⟨z, H', I', rz, q'⟩ => relV_back rz ⟨z, H', I', rz, q'⟩
  unfold binaryOp
  exact wpAny_holding (wpAny_bind (OB.binop1_R I.kIn J S O.sf O.fw O.at_ O.fn O.sub cl fun v s' q => wpAny_pure q))
/-! ### -x by an own __neg__ -/
structure OwnNeg (K : PySem.W.Frag) (C f : Addr) : Prop where
  at_ : PySem.W.findIn K (.ref C) "__neg__" = some (some (.ref f))
  fn : PySem.W.isFn K (.ref f) = true
def rNegO (C : Addr) (sp : Sp) (E : XK) : V → Hp → VK → Prop := fun x H Q => ∃ (a dx : Addr) (fs : List (Str × V)), x = .ref a ∧ H a = some (.ins C dx fs) ∧ sp [x] H Q E
theorem un_negO (F : FnR X.prog X.w X.K X.mg X.base CX n f sp) (O : OwnNeg X.K C f) (hr : Room n X.A) (hx : Passes CX X E) : UnR X (unaryOp .USub) (rNegO C sp E) := by
  intro pins s σ H x v Q I rx h
  obtain ⟨a, dx, fs, rfl, ha, q⟩ := h
  cases (show v = Value.ref a from rx)
  obtain ⟨mA, J, _⟩ := ins_get I.hok ha
  obtain ⟨od, J, _⟩ := J.look
  obtain ⟨m, hF⟩ := I.fr
  exact PySem.W.ksp_neg hF I.ok.mod.kin J O.at_ O.fn (wpAny_call (run_fnR F hr hx I (us := [.ref a]) (vs := [.ref a]) (.cons rfl .nil) q))
/-! ### C.f(e, ..), f a static method of the class at C -/
structure Stm (P : Program) (w : World) (K : PySem.W.Frag) (mg : Str → Option Value) (base : Heap) (CX : CXT) (k : Nat) (C : Addr) (m : Str) (sp : Sp) : Prop where
  ex : ∃ (mc : Value) (p g : Addr) (rest : List Value), PySem.W.typeIn K (.ref C) = some mc ∧ ClX.CRead K C mc ∧ PySem.W.findCls K (.ref C) mc m = some (.get (.builtin "staticmethod.__get__") (.ref p) .none (.ref C)) ∧ PySem.W.recIn K p "staticmethod" = some (.ref g :: rest) ∧ PySem.W.keepIn K (.ref g) = true ∧ FnR P w K mg base CX k g sp
end
section
variable {X : Cx} {CX : CXT} {k : Nat} {C : Addr} {m x : Str} {sp : Sp} {E : XK} {o e : PySem.Expr} {es : List PySem.Expr} {ta te : TE} {t : TA} {p apos pos sp_ : Pos} {pl : Sem Bool}
theorem pe_stm (c : Stm X.prog X.w X.K X.mg X.base CX k C m sp) (hr : Room k X.A) (ho : PE X o ta) (hx : Passes CX X E) (ha : PA X (e :: es) t)
    (hst : starEach (e :: es) X.env = (false, eval e X.env) :: starEach es X.env := by rfl) (hpl : (backTo pos (starEach es X.env)).any (·.1) = false := by rfl)
    (ht : eval (.Call (.Attribute o m apos) (e :: es) [] pos) X.env = (do
      let ov ← eval o X.env
      standAt apos.atName
      let (f, first) ← holding [ov] (getMethod ov m pl)
      callWith pos f first (backTo pos (starEach (e :: es) X.env)) (backToKw pos (keywordEach [] X.env))) := by rfl) :
    PE X (.Call (.Attribute o m apos) (e :: es) [] pos) (fun σ H Q => ta σ H fun v H1 => v = .ref C ∧ t σ H1 fun vs H2 => sp vs H2 Q E) := by
  obtain ⟨mc, p', g, rest, ty, rd, fc, hp, kp, F⟩ := c.ex
  refine ⟨fun pins s σ H Q I h => PySem.W.methodCall_KW (pl := pl) (thn (ho.run pins s σ H _ I h) fun u s1 q1 => ?_) ht⟩
  obtain ⟨v, H1, I1, rv, rfl, q1⟩ := q1
  obtain rfl : u = Value.ref C := rv
  refine PySem.W.method_cls I1.kIn rd.ga ?_
  obtain ⟨mm, hF⟩ := I1.fr
  have J : Inv X pins σ H1 { s1 with toks := s1.toks + 1 } := I1.kept fun b o e => e
  refine PySem.W.cls_sm hF I1.ok.mod.kin ty rd.rd fc hp rfl ?_
  refine PySem.W.callWith_K (h₀ := X.base) J.ok.mod.kin kp (thn (ha.run pos pins _ σ H1 _ J q1) fun us s3 q3 => ?_) hst hpl
  obtain ⟨vs, H2, I3, r3, q3⟩ := q3
  exact ⟨I3.kIn, wpAny_call (run_fnR F hr hx I3 r3 q3)⟩
end
end Ls
end
section
set_option Elab.async false
set_option autoImplicit false
set_option linter.all false
set_option maxRecDepth 100000
set_option maxHeartbeats 4000000
namespace Ls
open PySem PySem.Spec PyProof.Rows L2 LamX NdefX
/-! ### a lambda with parameters, handed to a def that calls it -/
/-- at f stands the lambda, its code object at c' -/
def LamF (q : Str) (cl : List (Str × Addr)) (ar : Arguments) (b : PySem.Expr) (sc : Scope) (f c' : Addr) : HO := .ext fun h => ∃ pm ctv, h.get? f = some (PySem.W.kla_obj "<lambda>" q ar b sc cl pm c' ctv)
theorem cells_later {X : Cx} {pins : List (Addr × Obj)} {σ : L2.St} {H : Hp} {s : Shared} {cl : List (Str × Addr)} {fr : List Str} {ws : List (Option V)} (C : CellsAt cl fr ws X.s_0.heap X.H_0) (hx : X.ex = []) (I : Inv X pins σ H s) : CellsAt cl fr ws s.heap H := by
  have kp : ∀ y c, cl.lookup y = some c → ∀ v, X.s_0.heap.IsCell c v → s.heap.IsCell c v := fun y c e v ⟨o, ho, hd⟩ => by
    obtain ⟨sl, q⟩ := I.base.any ho (C.all y c e).1 (by rw [hx]; simp)
    exact ⟨_, q, hd⟩
  refine ⟨C.len, fun y c e => ?_, C.inj, fun i y e => ?_⟩
  · obtain ⟨n, v, z⟩ := C.all y c e
    refine ⟨?_, v, kp y c e v z⟩
    obtain ⟨o, ho, _⟩ := z
    exact I.base.free c o ho n (by rw [hx]; simp)
  · obtain ⟨c, hc, hv⟩ := C.has i y e
    refine ⟨c, hc, fun v ev => ?_⟩
    obtain ⟨u, r, z⟩ := hv v ev
    exact ⟨u, r, kp y c hc _ z⟩
/-- what a call of the lambda keeps; ws: what its captured cells hold -/
structure LOk (P : Program) (w : World) (K : PySem.W.Frag) (mg : Str → Option Value) (base : Heap) (CX : CXT) (k : Nat) (q : Str) (cl : List (Str × Addr)) (ar : Arguments) (b : PySem.Expr) (sc : Scope) (f c' : Addr) (fr : List Str) (sp : List (Option V) → Sp) : Prop where
  run : ∀ (A : Around) (outer : List Env) (s : Shared) (H : Hp) (us : List Value) (vs : List V) (ws : List (Option V)) (Q : VK) (E : XK), Room k A → Env0 P w K mg base A outer s H → H f = some (LamF q cl ar b sc f c') → H c' = some (CodeO c' q) →
    CellsAt cl fr ws s.heap H → Vals vs us → sp ws vs H Q E → codeAny (model P w) A (.call (.ref f) ⟨us, []⟩) (CR CX outer P w H s Q E) s
section
variable {P : Program} {w : World} {K : PySem.W.Frag} {mg : Str → Option Value} {base : Heap} {CX : CXT} {k : Nat} {q : Str} {cl : List (Str × Addr)} {ar : Arguments} {b : PySem.Expr} {sc : Scope} {f c' : Addr} {N ps fr : List Str} {tb : XK → TE}
/-- a lambda's words -/
abbrev lamNF (q : Str) (cl : List (Str × Addr)) (ar : Arguments) (sc : Scope) (c' : Addr) : NF := ⟨"<lambda>", q, ar, [], sc, cl, c'⟩
theorem lok_of (S : NScope N ps fr sc) (hb : ∀ (pm cv ctv : Value) (us : List Value), us.length = ps.length → bindArgs (PySem.W.kla_fn "<lambda>" q ar b sc cl pm cv ctv) ⟨us, []⟩ = pure (ps.zip us))
    (hbody : ∀ (A : Around) (outer : List Env) (s : Shared) (H : Hp) (E : XK), Room k (A.deeper (envF (lamNF q cl ar sc c') f s.heap.objs.size)) → PE (ncx CX P w K mg base N (lamNF q cl ar sc c') f A outer s H E) b (tb E)) :
    LOk P w K mg base CX (k + 1) q cl ar b sc f c' fr (fun ws vs H Q E => vs.length = ps.length ∧ tb E (startF N vs ws) H Q) := by
  refine ⟨fun A outer s H us vs ws Q E hr e0 hf hc C r ⟨hl, ht⟩ => ?_⟩
  have lim : s.heap.NoLimit := e0.mod.nolimit.keeps fun b o e => (e0.bs b o e).1
  obtain ⟨⟨pm, ctv, of1⟩, _, _⟩ := e0.hok f _ hf
  refine PySem.W.kla_callFunE hr.depth of1 rfl S.co S.gen rfl (codeO_at e0.hok hc) ?_
  rw [hb pm (.ref c') ctv us (by rw [← r.length]; exact hl)]
  refine wpAny_pure (wpAny_newFunctionEnv S.nocell (fun ⟨n, _⟩ hy => S.par n (List.of_mem_zip hy).1) (fun h₁ hns hsb => ⟨lim.fresh _ hsb, ?_⟩) S.kind)
  show codeAny _ _ (.expr b (envF (lamNF q cl ar sc c') f s.heap.objs.size)) _ _
  have kp : ∀ b o, s.heap.get? b = some o → h₁.get? b = some o := fun b o e => hsb.extBut b o (Nat.ne_of_lt (Heap.lt_size e)) (Heap.get?_push_of_some _ e)
  have I : Inv (ncx CX P w K mg base N (lamNF q cl ar sc c') f A outer s H E) [] (startF N vs ws) H { s with heap := h₁, toks := s.toks + (ps.zip us).length } := inv_startN S hr.hd e0 hl r C hns kp
  refine PySem.W.kla_codeExpr (wpAny_mono ((hbody A outer s H E (hr.deeper _)).run [] _ _ H Q I ht) (fun v s' hq => ?_) fun e s' hq => hq)
  obtain ⟨w', H', J', rv, q⟩ := hq
  exact ⟨w', H', J'.os, J'.bare, J'.base, J'.hok, rv, q⟩
end
section
variable {X : Cx} {CX : CXT} {j i : Nat} {q a : Str} {cl : List (Str × Addr)} {ar : Arguments} {b e : PySem.Expr} {es : List PySem.Expr} {sc : Scope} {f c' : Addr} {fr : List Str} {sp : List (Option V) → Sp} {ws : List (Option V)} {E : XK} {t : TA} {p pos : Pos}
theorem lamF_fn {pins : List (Addr × Obj)} {σ : L2.St} {H : Hp} {s : Shared} (I : Inv X pins σ H s) (h : H f = some (LamF q cl ar b sc f c')) : PySem.W.FnAt f s.heap := by
  obtain ⟨⟨pm, ctv, of1⟩, _, _⟩ := I.hok f _ h
  exact ⟨_, _, _, _, of1⟩
/-- a(e, ..), a a parameter that holds the lambda -/
theorem pe_callP (L : LOk X.prog X.w X.K X.mg X.base CX j q cl ar b sc f c' fr sp) (C : CellsAt cl fr ws X.s_0.heap X.H_0) (hex : X.ex = []) (hr : Room j X.A) (hx : Passes CX X E) (hN : X.N[i]? = some a) (hv : Vis X.env.scope a) (ha : PA X (e :: es) t)
    (hd : (a == ("__debug__" : Str)) = false := by decide) (hcd : (a == ("__classdict__" : Str)) = false := by decide)
    (he : starEach (e :: es) X.env = (false, eval e X.env) :: starEach es X.env := by rfl) (hpl : (backTo pos (starEach es X.env)).any (·.1) = false := by rfl) :
    PE X (.Call (.Name a p) (e :: es) [] pos) (fun σ H Q => σ[i]? = some (some (.ref f)) ∧ H f = some (LamF q cl ar b sc f c') ∧ t σ H fun vs H1 => H1 f = some (LamF q cl ar b sc f c') ∧ H1 c' = some (CodeO c' q) ∧ sp ws vs H1 Q E) := by
  refine ⟨fun pins s σ H Q I h => ?_⟩
  obtain ⟨hs, hf, ht⟩ := h
  refine wpAny_Call_Name_kw (thn ((pe_var (pos := p) hN hv hd hcd).run pins s σ H (fun v H1 => v = .ref f ∧ H1 = H) I ⟨.ref f, hs, rfl, rfl⟩) fun u s1 ⟨v, H1, I1, r1, q1⟩ => ?_)
  obtain ⟨ev, eH⟩ := q1
  subst ev
  rw [eH] at I1
  obtain rfl : u = Value.ref f := r1
  refine PySem.W.callWith_F (first := []) (lamF_fn I1 hf) (thn (ha.run pos pins s1 σ H _ I1 ht) fun us s2 ⟨vs, H2, I2, r, h1, h2, q⟩ => ⟨lamF_fn I2 h1, ?_⟩) he hpl
  show wpAny _ _ (call (.ref f) us) _ _ _
  refine wpAny_call (codeAny_mono (L.run X.A X.stack s2 H2 us vs ws Q E hr I2.env0 h1 h2 (cells_later C hex I2) r q) fun r s' hq => ?_)
  match r, hq with
  | .error e, hq => exact hx pins σ H2 s2 e s' I2 hq
  | .ok (.ret u), hq => exact I2.after hq
end
/-- a def that is handed a lambda among its arguments: its promise tells what it makes of the lambda's -/
def GivesL (P : Program) (w : World) (K : PySem.W.Frag) (mg : Str → Option Value) (base : Heap) (j k : Nat) (Ng : List Str) (x : Str) (sg : Scope) (g : Addr) (cdg : Value) (bg : List Stmt) (spL : Addr → Sp → (Hp → Prop) → List V → Hp → VK → Prop) : Prop :=
  ∀ (A : Around) (stack : List Env) (s : Shared) (H : Hp) (vs : List V) (Q : VK) (q : Str) (cl : List (Str × Addr)) (ar : Arguments) (b : PySem.Expr) (sc : Scope) (f c' : Addr) (fr : List Str) (ws : List (Option V)) (sp : List (Option V) → Sp),
    Room k (A.deeper (envOfC x sg s.heap.objs.size g cdg)) → LOk P w K mg base CX0 j q cl ar b sc f c' fr sp → CellsAt cl fr ws s.heap H → H f = some (LamF q cl ar b sc f c') → H c' = some (CodeO c' q) →
    spL f (sp ws) (fun H' => H' f = some (LamF q cl ar b sc f c') ∧ H' c' = some (CodeO c' q)) vs H Q →
    ∃ t, PSs (cxOf CX0 P w K mg base Ng x sg g cdg A stack s H C8.E0).nox bg t ∧ t { nx := fun _ H' => Q .non H', rt := Q } (L2.start Ng vs) H
section
variable {X : Cx} {j k : Nat} {x : Str} {g : Addr} {st : Stmt} {fd : FuncData} {Ng ps fr : List Str} {js : List Nat} {ar : Arguments} {b e : PySem.Expr} {es : List PySem.Expr} {sc : Scope} {sp : List (Option V) → Sp} {spL : Addr → Sp → (Hp → Prop) → List V → Hp → VK → Prop} {t : TA} {p pos : Pos}
/-- x(.., lambda, ..), the lambda laid just now -/
theorem pe_calP (F : Fun X.K x x st g fd) (hg : Gl X x) (hm : X.mg x = some (.ref g)) (hb : L2.Binds X.K fd ps []) (Sg : FnScope Ng ps (defScope st)) (hG : ∀ cdv, GivesL X.prog X.w X.K X.mg X.base j k Ng x (defScope st) g cdv (defBody st) spL)
    (hfree : ∀ y ∈ sc.names, y.2 = .free → X.env.scope.names.lookup y.1 = some .cell ∨ X.env.scope.names.lookup y.1 = some .free) (hfr : ∀ y ∈ fr, (y, NameKind.free) ∈ sc.names) (hjs : js.map (fun j => X.N[j]?) = fr.map some)
    (L : ∀ f c', LOk X.prog X.w X.K X.mg X.base CX0 j (X.env.qual ++ "<lambda>") (cloFrom X.env.cells sc.names []) ar b sc f c' fr sp) (hr : Room (k + 1) X.A) (ha : PA X (e :: es) t)
    (hd : (x == ("__debug__" : Str)) = false := by decide) (he : starEach (e :: es) X.env = (false, eval e X.env) :: starEach es X.env := by rfl) (hpl : (backTo pos (starEach es X.env)).any (·.1) = false := by rfl) :
    PE X (.Call (.Name x p) (e :: es) [] pos) (fun σ H Q => t σ H fun vs H1 => ∃ f c', vs.length = ps.length ∧ H1 f = some (LamO X f c' ar b sc) ∧ H1 c' = some (CodeO c' (X.env.qual ++ "<lambda>")) ∧
      spL f (sp (js.map (slotAt σ))) (fun H' => H' f = some (LamO X f c' ar b sc) ∧ H' c' = some (CodeO c' (X.env.qual ++ "<lambda>"))) vs H1 Q) := by
  obtain ⟨oc, od, kV, doc, pm, an, cdv, ct, osl, rfl, lk, hcg⟩ := F.ex
  refine ⟨fun pins s σ H Q I h => ?_⟩
  refine wpAny_Call_Name_kw (ld_glob I hg hm ?_ hd)
  refine PySem.W.callWith_K (h₀ := X.base) I.ok.mod.kin F.kp (thn (ha.run pos pins s σ H _ I h) fun us s1 ⟨vs, H1, I1, r, f, c', hl, hf, hc, q⟩ => ⟨I1.kIn, ?_⟩) he hpl
  have rc : codeAny (model X.prog X.w) X.A (.call (.ref g) ⟨us, []⟩) (CR CX0 X.stack X.prog X.w H1 s1 Q C8.E0) s1 := by
    refine run_ofS (N := Ng) (ps := ps) (us := us) (vs := vs) lk hcg Sg hr I1.env0 ?_ r hl fun hr' => ?_
    · have := hb s1 us I1.kIn (by rw [List.append_nil, ← r.length]; exact hl)
      rw [List.append_nil] at this
      exact this
    · obtain ⟨t', ht', hq'⟩ := hG cdv X.A X.stack s1 H1 vs Q _ _ ar b sc f c' fr _ sp hr' (L f c') (cells_of I1 (Caps.made I1.ok hfree hfr hjs)) hf hc q
      exact ⟨t', ht'.nox, hq'⟩
  refine wpAny_call (codeAny_mono rc fun r s2 hq => ?_)
  match r, hq with
  | .error e, hq => exact (show False from hq).elim
  | .ok (.ret u), hq => exact I1.after hq
end
section
variable {X : Cx}
/-- .. with parameters -/
theorem pe_lamVP {T : List (Addr × Str)} {c P : Addr} {ar : Arguments} {b : PySem.Expr} {sc : Scope} {pos : Pos} (TB : TabB X.base X.mg c P) (hcode : X.env.code = .ref c) (hm : (P, X.env.qual ++ "<lambda>") ∈ T)
    (hu : ∀ p ∈ T, p.1 = P → p.2 = X.env.qual ++ "<lambda>") (hdef : defaultsOf ar X.env = ([], [])) (hfree : ∀ y ∈ sc.names, y.2 = .free → X.env.scope.names.lookup y.1 = some .cell ∨ X.env.scope.names.lookup y.1 = some .free) :
    PE X (.Lambda ar b sc pos) (fun σ H Q => Tabs T H ∧ ∀ (f c' : Addr) (H' : Hp), ExtN H H' → Tabs T H' → H f = none → H' f = some (LamO X f c' ar b sc) → H' c' = some (CodeO c' (X.env.qual ++ "<lambda>")) → Q (.ref f) H') := by
  refine ⟨fun pins s σ H Q I ⟨hT, h⟩ => ?_⟩
  have free : ∀ y ∈ sc.names, y.2 = .free → ∃ c, X.env.cells.lookup y.1 = some c := fun y hy e => (hfree y hy e).elim (fun z => I.ok.has _ (.inl z)) fun z => I.ok.has _ (.inr z)
  have bP : s.heap.BuiltinsAt X.mg P := TB.bm.keeps I.bk
  obtain ⟨ps, hP, ht, ha⟩ := hT _ hm
  have oP : s.heap.get? P = some { cls := .none, data := .fields ps } := I.hok P _ hP
  refine PySem.W.kla_eval hdef ?_
  cases found : codeAmong pos ps.toList with
  | some cv =>
    obtain ⟨c', rfl, hco⟩ := ha pos cv found
    refine PySem.W.kla_makeFunctionHit (mg := X.mg) (c := c) (P := P) (ps := ps) (closure_ok free) I.ok.glob (I.mod.glob.keeps I.bk) hcode (TB.code.keeps I.bk) oP ht found bP fun ctv h' tk keep le => ?_
    have n : H h'.objs.size = none := I.hok.fresh le
    have J : Inv X pins σ H { s with heap := h'.push (lamObj X ar b sc ((X.mg "__name__").getD .none) c' ctv), toks := tk } := I.kept fun b o e => Heap.get?_push_of_some _ (keep b o e)
    have e0 : ∀ d o, H d = some o → upd H h'.objs.size (LamO X h'.objs.size c' ar b sc) d = some o := fun d o e => by
      rw [upd_ne (ne_of_none e n)]
      exact e
    exact ⟨.ref h'.objs.size, _, lam_tracked I le J n, rfl, h _ c' _ (ExtN.of e0) (hT.ext e0) n upd_same (e0 _ _ hco)⟩
  | none =>
    refine PySem.W.kla_makeFunction (mg := X.mg) (c := c) (P := P) (ps := ps) (closure_ok free) I.ok.glob (I.mod.glob.keeps I.bk) hcode (TB.code.keeps I.bk) oP ht found TB.gP bP fun c' ctv h' tk keep ge lt rec tab => ?_
    obtain ⟨_, oc, vs, t, e2, hoc, hd, hv⟩ := rec
    cases e2
    have le : s.heap.objs.size ≤ h'.objs.size := Nat.le_trans ge (Nat.le_of_lt lt)
    have nc : H c' = none := I.hok.fresh ge
    have n : H h'.objs.size = none := I.hok.fresh le
    have nf : h'.objs.size ≠ c' := Nat.ne_of_gt lt
    have nP : h'.objs.size ≠ P := Nat.ne_of_gt (Nat.lt_of_lt_of_le (Heap.lt_size oP) le)
    have cP : P ≠ c' := ne_of_none hP nc
    have J := inv_table (t' := tk) (q := X.env.qual ++ "<lambda>") (more := #[rawInt pos.line, rawInt pos.col, .ref c']) (h' := h'.push (lamObj X ar b sc ((X.mg "__name__").getD .none) c' ctv)) I hP
      (fun b o hb e => Heap.get?_push_of_some _ (keep b o hb e)) (Heap.get?_push_of_some _ tab) ge ⟨oc, vs, t, Heap.get?_push_of_some _ hoc, hd, hv⟩
    have n1 : upd (upd H P (.tbl (ps ++ #[rawInt pos.line, rawInt pos.col, .ref c']))) c' (CodeO c' (X.env.qual ++ "<lambda>")) h'.objs.size = none := by rw [upd_ne nf, upd_ne nP, n]
    have J2 := lam_tracked I le J n1
    generalize hH2 : upd (upd (upd H P (.tbl (ps ++ #[rawInt pos.line, rawInt pos.col, .ref c']))) c' (CodeO c' (X.env.qual ++ "<lambda>"))) h'.objs.size (LamO X h'.objs.size c' ar b sc) = H2 at J2
    have atP : H2 P = some (.tbl (ps ++ #[rawInt pos.line, rawInt pos.col, .ref c'])) := by rw [← hH2, upd_ne (Ne.symm nP), upd_ne cP, upd_same]
    have atc : H2 c' = some (CodeO c' (X.env.qual ++ "<lambda>")) := by rw [← hH2, upd_ne (Ne.symm nf), upd_same]
    have off : ∀ d, d ≠ h'.objs.size → d ≠ c' → d ≠ P → H2 d = H d := fun d a b c => by rw [← hH2, upd_ne a, upd_ne b, upd_ne c]
    have grow : ExtN H H2 := fun d o e nt => by
      rw [off d (ne_of_none e n) (ne_of_none e nc) (fun z => ?_)]
      · exact e
      · rw [z, hP] at e
        exact nt ps (Option.some.inj e).symm
    have tabs : Tabs T H2 := fun p hp => by
      by_cases hb : p.1 = P
      · rw [hu p hp hb, hb]
        have eL : (ps ++ #[rawInt pos.line, rawInt pos.col, .ref c']).toList = ps.toList ++ [rawInt pos.line, rawInt pos.col, .ref c'] := by simp
        refine ⟨_, atP, by rw [eL]; exact PySem.TriplesOk_snoc _ _ _ _ ht, fun p' cv q => ?_⟩
        rw [eL] at q
        rcases among_app _ ht q with z | z
        · obtain ⟨d, e1, e2⟩ := ha p' cv z
          exact ⟨d, e1, grow _ _ e2 codeO_ne⟩
        · exact ⟨c', z, atc⟩
      · obtain ⟨qs, a1, a2, a3⟩ := hT p hp
        refine ⟨qs, (off _ (ne_of_none a1 n) (ne_of_none a1 nc) hb).trans a1, a2, fun p' cv q => ?_⟩
        obtain ⟨d, e1, e2⟩ := a3 p' cv q
        exact ⟨d, e1, grow _ _ e2 codeO_ne⟩
    exact ⟨.ref h'.objs.size, _, J2, rfl, h _ c' H2 grow tabs n (by rw [← hH2]; exact upd_same) atc⟩
end
end Ls
end
section
set_option Elab.async false
set_option autoImplicit false
set_option linter.all false
set_option maxRecDepth 100000
set_option maxHeartbeats 4000000
namespace Ls
open PySem PySem.Spec PyProof.Rows L2
/-! ### texts that can be laid -/
theorem ok_ofString (s : String) : PyData.strOk (Str.ofString s) = true := by
  rw [Str.ofString_eq_toList]
  unfold PyData.strOk
  rw [Array.all_eq_true']
  intro c hc
  rw [List.mem_toArray] at hc
  obtain ⟨ch, _, rfl⟩ := List.mem_map.mp hc
  have := ch.valid
  refine decide_eq_true ?_
  show ch.val.toNat < 0x110000
  rcases this with h | ⟨_, h⟩
  · exact Nat.lt_trans h (by decide)
  · exact h
theorem ok_append {a b : Str} (ha : PyData.strOk a = true) (hb : PyData.strOk b = true) : PyData.strOk (a ++ b) = true := by
  show (a.cps ++ b.cps).all _ = true
  rw [Array.all_append]
  rw [show (a.cps.all fun x => decide (x < 0x110000)) = true from ha, show (b.cps.all fun x => decide (x < 0x110000)) = true from hb]
  rfl
theorem ok_join0 {y : Str} (hy : PyData.strOk y = true) : ∀ {l : List Str}, (∀ z ∈ l, PyData.strOk z = true) → PyData.strOk (Str.join y l) = true
  | [], _ => by
    show PyData.strOk Str.empty = true
    decide +kernel
  | [x], h => h x (by simp)
  | x :: z :: r, h => ok_append (ok_append (h x (by simp)) hy) (ok_join0 hy (l := z :: r) fun w hw => h w (List.mem_cons_of_mem _ hw))
theorem ok_joinT {y : Str} (hy : PyData.strOk y = true) {l : List Str} (h : ∀ z ∈ l, PyData.strOk z = true) : PyData.strOk (Txt.join y l) = true := by
  unfold Txt.join
  rw [PySem.StrLaws.glued_eq_join]
  exact ok_join0 hy h
end Ls
end
section
set_option Elab.async false
set_option autoImplicit false
set_option linter.all false
set_option maxRecDepth 100000
set_option maxHeartbeats 4000000
namespace Ls
open PySem PySem.Spec PyProof.Rows L2
/-! ### x <= y, x >= y by an own __le__, __ge__ -/
def rCmpO (K : PySem.W.Frag) (nm : Str) (f : Addr) (sp : Sp) (E : XK) : R2 := fun x y H Q => ∃ (a C dx : Addr) (fs : List (Str × V)) (tb : Value), x = .ref a ∧ H a = some (.ins C dx fs) ∧ PySem.W.findIn K (.ref C) nm = some (some (.ref f)) ∧ TyX K H y tb ∧ PySem.W.notFirst K C tb = true ∧
  sp [x, y] H (fun v H' => ∃ r, v = .bl r ∧ Q (.bl r) H') E
section
variable {X : Cx} {CX : CXT} {n : Nat} {f : Addr} {sp : Sp} {E : XK}
theorem op_leO (F : FnR X.prog X.w X.K X.mg X.base CX n f sp) (hf : PySem.W.isFn X.K (.ref f) = true) (hr : Room n X.A) (hx : Passes CX X E) : OpR X (compareOp .LtE) (rCmpO X.K "__le__" f sp E) := by
  intro pins s σ H x y v u Q I rx ry h
  obtain ⟨a, C, dx, fs, tb, rfl, ha, hs, ty, hn, q⟩ := h
  cases (show v = Value.ref a from rx)
  obtain ⟨mA, J, _⟩ := ins_get I.hok ha
  obtain ⟨od, J, _⟩ := J.look
  obtain ⟨m, hF⟩ := I.fr
  obtain ⟨P, Z, p, _⟩ := kit_of I ry ty
  show wpAny (model X.prog X.w) X.A (richCompare .LtE (.ref a) u) (EP X pins σ Q) X.xe s
  refine PySem.W.cmp_K (op := .LtE) hr.units0 hF I.ok.mod.kin J (Z.ty _ _ I.kIn p) hn hs hf ?_
  have r2 : Vals [V.ref a, y] [Value.ref a, u] := .cons rfl (.cons ry .nil)
  refine thn (wpAny_call (run_fnR F hr hx I r2 q)) fun w' s' ⟨z, H', I', rz, r, ez, q'⟩ => ?_
  subst ez
  cases rz
  exact ⟨.bl r, H', I', rfl, q'⟩
theorem op_geO (F : FnR X.prog X.w X.K X.mg X.base CX n f sp) (hf : PySem.W.isFn X.K (.ref f) = true) (hr : Room n X.A) (hx : Passes CX X E) : OpR X (compareOp .GtE) (rCmpO X.K "__ge__" f sp E) := by
  intro pins s σ H x y v u Q I rx ry h
  obtain ⟨a, C, dx, fs, tb, rfl, ha, hs, ty, hn, q⟩ := h
  cases (show v = Value.ref a from rx)
  obtain ⟨mA, J, _⟩ := ins_get I.hok ha
  obtain ⟨od, J, _⟩ := J.look
  obtain ⟨m, hF⟩ := I.fr
  obtain ⟨P, Z, p, _⟩ := kit_of I ry ty
  show wpAny (model X.prog X.w) X.A (richCompare .GtE (.ref a) u) (EP X pins σ Q) X.xe s
  refine PySem.W.cmp_K (op := .GtE) hr.units0 hF I.ok.mod.kin J (Z.ty _ _ I.kIn p) hn hs hf ?_
  have r2 : Vals [V.ref a, y] [Value.ref a, u] := .cons rfl (.cons ry .nil)
  refine thn (wpAny_call (run_fnR F hr hx I r2 q)) fun w' s' ⟨z, H', I', rz, r, ez, q'⟩ => ?_
  subst ez
  cases rz
  exact ⟨.bl r, H', I', rfl, q'⟩
end
end Ls
end
section
set_option Elab.async false
set_option autoImplicit false
set_option linter.all false
set_option maxRecDepth 100000
set_option maxHeartbeats 4000000
namespace Ls
open PySem PySem.Spec PyProof.Rows L2
/-! ### s.replace(y, z, 1) of written texts -/
section
open Builtin Builtin.Str
/-- the first one replaced -/
def repl1 (x y z : Str) : Str := if ((occurrences x y 0 x.length 1).isEmpty || (y.length == 0 && z.length == 0)) = true then x else glued z (partsBetween x (occurrences x y 0 x.length 1) y.length)
theorem gives_repl1 (x y z : Str) (t u v w : Tok)
    (hf : ((occurrences x y 0 x.length 1).isEmpty || (y.length == 0 && z.length == 0)) = false → (u == 0 || v == 0) = false ∧ (u == v) = false ∧ (y == z) = false ∧ tooLong (x.length + (occurrences x y 0 x.length 1).length * z.length) = false) :
    Gives («str.replace» ⟨[.str x t, .str y u, .str z v, .int 1 w], []⟩) (if ((occurrences x y 0 x.length 1).isEmpty || (y.length == 0 && z.length == 0)) = true then .val (.str x t) else .str (glued z (partsBetween x (occurrences x y 0 x.length 1) y.length))) := by
  show Gives (if ((occurrences x y 0 x.length 1).isEmpty || (y.length == 0 && z.length == 0)) = true then (do rule "str.replace.nothing"; ret (.str x t)) else
          (do let same ← isSame (.str y u) (.str z v)
              if same = true then (do rule "str.replace.old-is-new"; ret (.str x t)) else
              if tooLong (x.length + (occurrences x y 0 x.length 1).length * z.length) = true then unsupported "str.replace:memory" else
              retStr (glued z (partsBetween x (occurrences x y 0 x.length 1) y.length)))) _
  cases hc : ((occurrences x y 0 x.length 1).isEmpty || (y.length == 0 && z.length == 0))
  · obtain ⟨h0, huv, hyz, hl⟩ := hf hc
    rw [isSame_str_other y z u v h0 huv hyz, hl]
    exact .of_eq rfl
  · exact .rule (.of_eq rfl)
theorem fits_repl1 {x z : Str} (y : Str) (hb : x.length + z.length ≤ 16777216) : (glued z (partsBetween x (occurrences x y 0 x.length 1) y.length)).length ≤ sizeLine := by
  have h1 := StrLaws.occ_length_le x y 0 x.length 1
  have hy : (glued y (partsBetween x (occurrences x y 0 x.length 1) y.length)).length = x.length := by rw [StrLaws.glued_between_self]
  rw [size_glued, length_partsBetween, Nat.add_sub_cancel] at hy
  rw [size_glued, length_partsBetween, Nat.add_sub_cancel, sizeLine_eq]
  have h2 : (occurrences x y 0 x.length 1).length * z.length ≤ 1 * z.length := Nat.mul_le_mul_right _ h1
  omega
section
variable {prog : Program} {w : World} {A : Around} {E : Value → Shared → Prop} {s : Shared} {x y z : Str} {t u v k : Tok} {Q : Value → Shared → Prop}
theorem SC_repl1 (hu : u ≠ 0) (hv : v ≠ 0) (huv : u ≠ v) (hyz : (y == z) = false) (hb : x.length + z.length ≤ 16777216)
    (hq : ∀ t' n, Q (.str (repl1 x y z) t') { s with toks := n }) : wpAny (model prog w) A (call (.builtin "str.replace") [.str x t, .str y u, .str z v, .int 1 k]) Q E s := by
  have hl : tooLong (x.length + (occurrences x y 0 x.length 1).length * z.length) = false := by
    have h1 := StrLaws.occ_length_le x y 0 x.length 1
    have h2 : (occurrences x y 0 x.length 1).length * z.length ≤ 1 * z.length := Nat.mul_le_mul_right _ h1
    unfold tooLong
    rw [sizeLine_eq]
    exact decide_eq_false (by omega)
  refine call_gives F.slot_str_replace (typeIs_str _ _ _) F.entry_str_replace (F.args_str_replace_4 _ _ _ _)
    (gives_repl1 x y z t u v k fun _ => ⟨by simp [hu, hv], by simp [huv], hyz, hl⟩) ?_
  have hq' := hq
  unfold repl1 at hq'
  cases hc : ((occurrences x y 0 x.length 1).isEmpty || (y.length == 0 && z.length == 0))
  · rw [hc] at hq'
    simp only [Bool.false_eq_true, if_false] at hq' ⊢
    exact ⟨fits_repl1 y hb, hq' _ _⟩
  · rw [hc] at hq'
    simp only [if_true] at hq' ⊢
    exact hq' t s.toks
end
end
/-! ### a token is out -/
structure PE1 (X : Cx) (e : PySem.Expr) (t : TE) : Prop where
  run : ∀ (pins : List (Addr × Obj)) (s : Shared) (σ : L2.St) (H : Hp) (Q : VK), Inv X pins σ H s → t σ H Q → wpAny (model X.prog X.w) X.A (eval e X.env) (fun u s' => EP X pins σ Q u s' ∧ 1 ≤ s'.toks) X.xe s
structure PA1 (X : Cx) (es : List PySem.Expr) (t : TA) : Prop where
  run : ∀ (pos : Pos) (pins : List (Addr × Obj)) (s : Shared) (σ : L2.St) (H : Hp) (Q : List V → Hp → Prop), Inv X pins σ H s → t σ H Q → wpAny (model X.prog X.w) X.A (spliced (backTo pos (starEach es X.env))) (fun us s' => AP X pins σ Q us s' ∧ 1 ≤ s'.toks) X.xe s
section
variable {X : Cx} {CX : CXT} {e f : PySem.Expr} {es : List PySem.Expr} {te tf : TE} {ta : TA} {rest : List Stmt} {u : TS} {E : XK} {sp : Sp} {k : Nat} {x : Str} {p pos : Pos}
theorem pe1_int {i j pos} : PE1 X (.Constant (.int i) j pos) (tC (.int i)) := ⟨fun _ s σ H Q I h => wpAny_Constant_int ⟨⟨.int i, H, I.tok _, ⟨_, rfl⟩, h⟩, by show 1 ≤ _ + 1; omega⟩⟩
theorem pe1_str {x j pos} : PE1 X (.Constant (.str x) j pos) (tC (.str x)) := ⟨fun _ s σ H Q I h => Calls.Constant_str ⟨⟨.str x, H, I.tok _, ⟨_, rfl⟩, h⟩, by show 1 ≤ _ + 1; omega⟩⟩
theorem pa1_head (ha : PE1 X e te) (hr : PA X es ta) (hs : starEach (e :: es) X.env = (false, eval e X.env) :: starEach es X.env := by rfl) : PA1 X (e :: es) (tCons te ta) := by
  refine ⟨fun pos pins s σ H Q I h => ?_⟩
  rw [hs]
  show wpAny _ _ (spliced ((false, eval e X.env) :: backTo pos (starEach es X.env))) _ _ s
  refine Calls.spliced_cons (thn (ha.run pins s σ H _ I h) fun v s1 ⟨⟨x, H1, I1, r1, q1⟩, hk⟩ => ?_)
  refine wpAny_mono (PySem.wpAny_toks (hr.run pos pins s1 σ H1 _ I1 q1)) (fun us s2 q => ?_) fun _ _ z => z.2
  obtain ⟨hk2, xs, H2, I2, r2, q2⟩ := q
  exact ⟨⟨x :: xs, H2, I2, .cons r1 r2, q2⟩, Nat.le_trans hk hk2⟩
theorem pa1_tail (ha : PE X e te) (hr : PA1 X es ta) (hs : starEach (e :: es) X.env = (false, eval e X.env) :: starEach es X.env := by rfl) : PA1 X (e :: es) (tCons te ta) := by
  refine ⟨fun pos pins s σ H Q I h => ?_⟩
  rw [hs]
  show wpAny _ _ (spliced ((false, eval e X.env) :: backTo pos (starEach es X.env))) _ _ s
  refine Calls.spliced_cons (thn (ha.run pins s σ H _ I h) fun v s1 ⟨x, H1, I1, r1, q1⟩ => ?_)
  exact thn (hr.run pos pins s1 σ H1 _ I1 q1) fun us s2 ⟨⟨xs, H2, I2, r2, q2⟩, hk⟩ => ⟨⟨x :: xs, H2, I2, .cons r1 r2, q2⟩, hk⟩
theorem pe1_lst (h : PA1 X es ta) : PE1 X (.List es pos) (tLst ta) := by
  refine ⟨fun pins s σ H Q I hq => ?_⟩
  refine wpAny_List_spliced (thn (h.run pos pins s σ H _ I hq) fun us s1 ⟨⟨xs, H1, I1, r, z, q⟩, hk⟩ => ⟨by rw [← r.length]; exact z, ?_⟩)
  have hf : H1 s1.heap.objs.size = none := I1.hok.fresh (Nat.le_refl _)
  refine ⟨⟨.ref s1.heap.objs.size, upd H1 s1.heap.objs.size (.lst xs), I1.laid (t' := s1.toks) (fun b u e => Heap.get?_push_of_some _ e) (Nat.le_refl _) ?_, rfl, q _ hf⟩, hk⟩
  exact ⟨z, us, 0, r, Heap.get?_push_size _ rfl⟩
theorem pe1_cal (c : Cal X.prog X.w X.K X.mg X.base CX k x sp) (hr : Room k X.A) (hg : Gl X x) (hx : Passes CX X E) (ha : PA1 X (e :: es) ta) (hd : (x == ("__debug__" : Str)) = false := by decide)
    (he : starEach (e :: es) X.env = (false, eval e X.env) :: starEach es X.env := by rfl) (hpl : (backTo pos (starEach es X.env)).any (·.1) = false := by rfl) :
    PE1 X (.Call (.Name x p) (e :: es) [] pos) (tCl sp E ta) := by
  obtain ⟨f, hm, hk, F⟩ := c.ex
  refine ⟨fun pins s σ H Q I h => ?_⟩
  refine wpAny_Call_Name_kw (ld_glob I hg hm ?_ hd)
  refine PySem.W.callWith_K (h₀ := X.base) I.ok.mod.kin hk (thn (ha.run pos pins s σ H _ I h) fun us s1 ⟨⟨vs, H1, I1, r, q⟩, h1⟩ => ⟨I1.kIn, ?_⟩) he hpl
  refine wpAny_mono (PySem.wpAny_toks (wpAny_call (run_fnR F hr hx I1 r q))) (fun us s2 q => ?_) fun _ _ z => z.2
  exact ⟨q.2, Nat.le_trans h1 q.1⟩
theorem pss_set1 {i : Nat} {pos' : Pos} (hN : X.N.Nodup) (hi : X.N[i]? = some x) (hx : Loc X.env.scope x) (he : PE1 X e te) (h2 : PSsT X rest u) (hs : swapsWith e (some (.Name x pos')) pos.line X.env = pure false := by rfl) (hf : X.fn x = true ∨ X.env.scope.names.lookup x = some .local := by first | exact .inl rfl | exact .inr rfl | assumption) :
    PSs X (.Assign [.Name x pos'] e pos :: rest) (tSeq (tAsg te (gName i)) u) := by
  refine ⟨fun pins s σ H D I h => ?_⟩
  refine wpAny_execs_cons (wpAny_Assign_Name (thn (he.run pins s σ H _ I h) fun v s1 ⟨⟨y, H1, I1, r1, q1⟩, hk⟩ => ?_) hs)
  refine wpAny_mono (PySem.wpAny_toks (store_ok (Q := fun _ s2 => Inv X pins (σ.set i (some y)) H1 s2) I1 hN hi hx r1 (fun _ I2 => I2) hf)) (fun _ s2 q => ?_) fun _ _ z => z.2
  exact h2 pins s2 _ H1 D (Nat.le_trans hk q.1) q.2 q1
/-! ### where one is out -/
theorem pet_cal (c : Cal X.prog X.w X.K X.mg X.base CX k x sp) (hr : Room k X.A) (hg : Gl X x) (hx : Passes CX X E) (ha : PAT X (e :: es) ta) (hd : (x == ("__debug__" : Str)) = false := by decide)
    (he : starEach (e :: es) X.env = (false, eval e X.env) :: starEach es X.env := by rfl) (hpl : (backTo pos (starEach es X.env)).any (·.1) = false := by rfl) :
    PET X (.Call (.Name x p) (e :: es) [] pos) (tCl sp E ta) := by
  obtain ⟨f, hm, hk, F⟩ := c.ex
  intro pins s σ H Q h0 I h
  refine wpAny_Call_Name_kw (ld_glob I hg hm ?_ hd)
  refine PySem.W.callWith_K (h₀ := X.base) I.ok.mod.kin hk (thn (ha pos pins s σ H _ h0 I h) fun us s1 ⟨vs, H1, I1, r, q⟩ => ⟨I1.kIn, ?_⟩) he hpl
  exact wpAny_call (run_fnR F hr hx I1 r q)
theorem Call_method3 {prog : Program} {w : World} {A : Around} {E : Value → Shared → Prop} {s : Shared} {env : Env} {o e₁ e₂ e₃ : PySem.Expr} {name : Str} {apos pos : Pos} {Q : Value → Shared → Prop}
    (hbase : attributeBase o name env (eval o env) = eval o env) (hs : starEach [e₁, e₂, e₃] env = [(false, eval e₁ env), (false, eval e₂ env), (false, eval e₃ env)]) (hline : (apos.endLine == pos.line) = true)
    (h : wpAny (model prog w) A (eval o env) (fun ov s₁ => MethodOnS prog w A E name ov pos [(false, eval e₁ env), (false, eval e₂ env), (false, eval e₃ env)] Q s₁) E s) :
    wpAny (model prog w) A (eval (.Call (.Attribute o name apos) [e₁, e₂, e₃] [] pos) env) Q E s := by
  refine wpAny_Call_method_lateS hbase (by rw [hs]; rfl) hline ?_
  rw [hs]; exact h
def tRepl1 (to : TE) (y z : Str) : TE := fun σ H Q => to σ H fun v H1 => ∃ x, v = .str x ∧ x.length + z.length ≤ 16777216 ∧ Q (.str (repl1 x y z)) H1
theorem pet_repl1 {o : PySem.Expr} {to : TE} {y z : Str} {j k l : Nat} {c0 c1 c2 apos pos : Pos} (ho : PE X o to) (hyz : (y == z) = false := by decide)
    (hst : starEach [.Constant (.str y) j c0, .Constant (.str z) k c1, .Constant (.int 1) l c2] X.env = [(false, eval (.Constant (.str y) j c0) X.env), (false, eval (.Constant (.str z) k c1) X.env), (false, eval (.Constant (.int 1) l c2) X.env)] := by rfl)
    (hbase : attributeBase o "replace" X.env (eval o X.env) = eval o X.env := by rfl) (hline : (apos.endLine == pos.line) = true := by rfl) :
    PET X (.Call (.Attribute o "replace" apos) [.Constant (.str y) j c0, .Constant (.str z) k c1, .Constant (.int 1) l c2] [] pos) (tRepl1 to y z) := by
  intro pins s σ H Q h0 I h
  refine Call_method3 hbase hst hline (wpAny_mono (PySem.wpAny_toks (ho.run pins s σ H _ I h)) (fun v s1 q => ?_) fun _ _ z => z.2)
  obtain ⟨hk, v', H1, I1, r1, x, e1, hb, q⟩ := q
  subst e1
  obtain ⟨tx, e2⟩ := r1
  subst e2
  refine ⟨"str", _, PySem.F.plainAttrs_str, PySem.F.slot_str_replace, PySem.F.type_str_replace, typeIs_str _ _ _, (fun _ e => nomatch e), Calls.callWith_builtin rfl (Calls.evalArgs_plain (Calls.spliced_cons ?_))⟩
  refine Calls.Constant_str (Calls.spliced_cons (Calls.Constant_str (Calls.spliced_cons (wpAny_Constant_int (Calls.spliced_nil ?_)))))
  exact SC_repl1 (by show s1.toks ≠ 0; omega) (by show s1.toks + 1 ≠ 0; omega) (by show s1.toks ≠ s1.toks + 1; omega) hyz hb fun t' k => ⟨.str (repl1 x y z), H1, I1.tok k, ⟨t', rfl⟩, q⟩
end
section
variable {X : Cx} {e : PySem.Expr} {es : List PySem.Expr} {te : TE} {t : TA} {pos : Pos}
theorem pet_tup {x1} (h : PAT X es t) : PET X (.Tuple es x1 pos) (tTup t) := by
  intro pins s σ H Q h0 I hq
  refine wpAny_Tuple_spliced (thn (h pos pins s σ H _ h0 I hq) fun us s1 ⟨xs, H1, I1, r, z, q⟩ => ⟨by rw [← r.length]; exact z, ?_⟩)
  have hf : H1 s1.heap.objs.size = none := I1.hok.fresh (Nat.le_refl _)
  refine ⟨.ref s1.heap.objs.size, upd H1 s1.heap.objs.size (.tup xs), I1.laid (t' := s1.toks) (fun b u e => Heap.get?_push_of_some _ e) (Nat.le_refl _) ?_, rfl, q _ hf⟩
  exact ⟨z, us, r, ⟨_, Heap.get?_push_size _ rfl, rfl, _, rfl⟩⟩
theorem pst_asg {tg : PySem.Expr} {g : TG} (he : PET X e te) (hg : PG X tg g) (hs : swapsWithSole [tg] e pos.line X.env = pure false := by rfl) (hw : swappedStores [tg] e X.env = pure none := by rfl)
    (h1 : (assignEach [tg] X.env).map (·.2) = [assign tg X.env] := by rfl) : PST X (.Assign [tg] e pos) (tAsg te g) := by
  intro pins s σ H D h0 I h
  refine wpAny_Assign_stores (thn (he pins s σ H _ h0 I h) fun v s1 ⟨x, H1, I1, r1, q1⟩ => ?_) hs hw
  rw [h1]
  exact thn (hg.run pins s1 σ H1 x v _ I1 r1 q1) fun _ s2 q => q
end
/-! ### xs[::-1], xs a list -/
def tRevL (K : PySem.W.Frag) (te : TE) : TE := fun σ H Q => te σ H fun x H1 => ∃ a xs, x = .ref a ∧ SqL K H1 a xs ∧ ∀ p, H1 p = none → Q (.ref p) (upd H1 p (.lst xs.reverse))
theorem pe_revL {X : Cx} {e : PySem.Expr} {te : TE} {k : Nat} {p1 p2 p3 pos : Pos} (he : PE X e te) : PE X (.Subscript e (.Slice none none (some (.UnaryOp .USub (.Constant (.int 1) k p1) p2)) p3) pos) (tRevL X.K te) := by
  refine ⟨fun pins s σ H Q I h => ?_⟩
  refine Subscript_ (thn (he.run pins s σ H _ I h) fun v s1 ⟨x, H1, I1, r1, q1⟩ => ?_)
  obtain ⟨a, xs, ex, hx, q⟩ := q1
  subst ex
  have hv : v = Value.ref a := r1
  have hst : PO X (some (.UnaryOp .USub (.Constant (.int 1) k p1) p2)) (tPart (tUn (rU fun i => .int (-i)) (tC (.int 1)))) := po_some (pe_un un_neg pe_int)
  refine wpAny_Slice (thn (po_none.run pins s1 σ H1 (fun o H2 => o = none ∧ H2 = H1) I1 ⟨rfl, rfl⟩) fun vl s2 ⟨l, H2, I2, pl, el, e2⟩ => ?_)
  subst el e2
  refine thn (po_none.run pins s2 σ H2 (fun o H3 => o = none ∧ H3 = H2) I2 ⟨rfl, rfl⟩) fun vu s3 ⟨u, H3, I3, pu, eu, e3⟩ => ?_
  subst eu e3
  refine thn (hst.run pins s3 σ H3 (fun o H4 => o = some (-1) ∧ H4 = H3) I3 ⟨1, rfl, -1, rfl, rfl, rfl⟩) fun vs s4 ⟨o, H4, I4, ps, eo, e4⟩ => ?_
  subst eo e4
  have I5 : Inv X pins σ H4 { s4 with heap := s4.heap.push { cls := .type "slice", data := .fields #[vl, vu, vs] } } := I4.kept (t' := s4.toks) fun b ob q => Heap.get?_push_of_some _ q
  show wpAny (model X.prog X.w) X.A (subscriptTail e (.Slice none none (some (.UnaryOp .USub (.Constant (.int 1) k p1) p2)) p3) v (.ref s4.heap.objs.size)) (EP X pins σ Q) X.xe { s4 with heap := s4.heap.push { cls := .type "slice", data := .fields #[vl, vu, vs] } }
  obtain ⟨its, r, ht, hz⟩ := I5.list hx
  have hlen := r.length
  refine tail_any (ops := [v, .ref s4.heap.objs.size]) (by rw [hv]; exact ht.isList.typeIs) slot_list_getitem.lookup ?_ (by with_unfolding_all rfl)
  rw [hv]
  refine wpAny_getItem_list_slice ht.isList ⟨_, Heap.get?_push_size _ rfl, rfl, rfl⟩ pl pu ps (by simp) ?_ (by rw [List.size_toArray] <;> omega)
  rw [PySem.W.krv_pick]
  refine ⟨.ref _, _, I5.laid (t' := s4.toks) (o := .lst xs.reverse) (fun b ob q => Heap.get?_push_of_some _ q) (Nat.le_refl _) ?_, rfl, q _ (I5.hok.fresh (Nat.le_refl _))⟩
  exact ⟨by rw [List.length_reverse]; exact hz, _, 0, r.reverse, Heap.get?_push_size _ rfl⟩
end Ls
end
section
set_option Elab.async false
set_option autoImplicit false
set_option linter.all false
set_option maxRecDepth 100000
set_option maxHeartbeats 4000000
namespace Ls
open PySem PySem.Spec PyProof.Rows L2 GenW
/-! ### for, in a generator def -/
def tGFor (wi : TI) (g : TG) (tb : TGn) : TGn := fun D ys σ H => wi σ H fun J H1 => ∃ W : Nat → Nat → List V → L2.St → Hp → Prop, (∃ m, W 0 m ys σ H1) ∧ ∀ i m ys σ H, W i m ys σ H →
  (J.stop i H ∧ D.nx ys σ H) ∨ (J.go i H ∧ ∃ N : List V → L2.St → Hp → Prop, (∀ ys' σ' H', N ys' σ' H' → ∃ m', m' < m ∧ W (i + 1) m' ys' σ' H') ∧ ∀ x H', J.yld i H x H' → g x σ H' fun σ2 H2 => tb { D with nx := N, ct := N, bk := D.nx } ys σ2 H2)
section
variable {X : Cx}
theorem gs_for {tg iter : PySem.Expr} {body : List Stmt} {pos : Pos} {wi : TI} {g : TG} {tb : TGn} (hp : PassesOwn (model X.prog X.w) X.A X.env X.xe) (hc : X.calm = true) (hi : PI X tg iter wi) (hg : PG X tg g) (hb : GSs X body tb)
    (hs : ∀ x, foldedSetIterable iter X.env x = pure x := by intro _; rfl) : GS X (.For tg iter body [] pos) (tGFor wi g tb) := by
  refine ⟨fun A S ip R n ys s₀ c fs K J gd lv s σ H D gc hn k hI ht => ?_⟩
  obtain ⟨acc, cc, r, I⟩ := hI
  rw [exec_For]
  refine seg_bind_wrap (wpAny_standAt ?_)
  refine seg_bind_wrap ?_
  rw [gc.over]
  refine wpAny_mono (hi.run _ s σ H _ I ht) (fun v s1 h1 => ?_) fun x s' hx => k.exc n s₀ x s' hx
  refine seg_bind_wrap (wpAny_of_eq (hs v) ?_)
  refine seg_bind_wrap (wpAny_standAt ?_)
  refine seg_bind_wrap (wpAny_holding ?_)
  rw [gc.over]
  refine wpAny_mono h1 (fun itv s2 h2 => ?_) fun x s' hx => k.exc n s₀ x s' hx
  obtain ⟨it, fp, tn, Jt, H2, e, I2, T, st2, f2, W, ⟨m0, w0⟩, turn⟩ := h2
  subst e
  refine seg_call fun p => ?_
  have gl := fun (kk : Result → Sem PySem.Fin) => gc_loop (k := kk) (c' := .forLoop tg (.ref it) body [] X.env) (l := lv []) (kp := []) (p := p) gc rfl rfl
  have stat : ∀ {H' : Hp} {acc' : Array Value} {c' : Nat}, (∀ b ∈ fp, H' b = none) → ∀ b ∈ fp, FpOk X ((S, lstObj acc' c') :: ip) H' b := fun {H' acc' c'} hn b hb => by
    obtain ⟨_, q1, q2, q3, q4, q5⟩ := f2 b hb
    refine ⟨hn b hb, q1, q2, q3, q4, fun p hp => ?_⟩
    rcases List.mem_append.mp hp with hp | hp
    · exact q5 p (List.mem_append_left _ hp)
    · rcases List.mem_cons.mp hp with hp | hp
      · rw [hp]
        exact q5 (S, lstObj acc cc) (List.mem_append_right _ List.mem_cons_self)
      · exact q5 p (List.mem_append_right _ (List.mem_cons_of_mem _ hp))
  have loop : ∀ (m i n : Nat) (ys : List V) (s₀ s : Shared) (σ : L2.St) (H : Hp), n + ys.length = sizeLine → W i m ys σ H → GI X S ip ys σ H s → tn i s.heap → (∀ b ∈ fp, H b = none) →
      Seg (model X.prog X.w) A R (GY X S) n s₀ (.forLoop tg (.ref it) body [] X.env) ((model X.prog X.w).den (.forLoop tg (.ref it) body [] X.env))
        (.ret (fun r => ((match r with | .ok f => (.pure f : Sem Flow) | .error e => .raise e).onRaise (cameBack X.env)).wrap K J gd lv) none (gd false) (lv []) c p [] :: fs) s := by
    intro m
    induction m using Nat.strongRecOn with
    | ind m ih =>
      intro i n ys s₀ s σ H hn w hI hst hfr
      have ee : ∀ (n : Nat) (s₀ : Shared) (x : Value) (s' : Shared), X.xe x s' → Seg (model X.prog X.w) A R (GY X S) n s₀ (.forLoop tg (.ref it) body [] X.env)
          ((do noteFrame x X.env; theTreesLotGoes x : Sem Unit).bind (fun _ => .raise x))
          (.ret (fun r => ((match r with | .ok f => (.pure f : Sem Flow) | .error e => .raise e).onRaise (cameBack X.env)).wrap K J gd lv) none (gd false) (lv []) c p [] :: fs) s' := fun n s₀ x s' hx => by
        rw [Sem.bind_eq_wrap]
        refine seg_wrap ?_
        rw [(gl _).over]
        refine wpAny_bind (wpAny_mono (hp x s' hx) (fun _ s'' hcb => wpAny_theTreesLotGoes ?_) fun y s'' hcb => ?_)
        · exact seg_leaf (.error x) (seg_cameBack gc k hcb)
        · exact seg_leaf (.error y) (seg_cameBack gc k hcb)
      obtain ⟨acc3, c3, r3, I3⟩ := hI
      show Seg _ A R _ n s₀ _ ((forTurn tg (.ref it) body [] X.env).onRaise (fun x => do noteFrame x X.env; theTreesLotGoes x)) _ s
      rw [Sem.onRaise_eq_wrap]
      simp only [forTurn]
      refine seg_bind_wrap (wpAny_standAt ?_)
      refine seg_bind_wrap (wpAny_onRaise ?_)
      rw [(gl _).over]
      rcases turn i m ys σ H w with ⟨stop, qn⟩ | ⟨go, N, hN, step⟩
      · refine wpAny_mono (T.done X rfl rfl rfl hc i _ s σ H X.xe I3 (stat hfr) hst stop) (fun r' s4 ⟨hr, I4⟩ => ?_) fun x s' hx => wpAny_standAt (ee n s₀ x s' hx)
        subst hr
        refine seg_again rfl ?_
        exact seg_leaf (.ok .next) (k.ok n ys s₀ s4 .next hn ⟨σ, H, ⟨acc3, c3, r3, I4⟩, qn⟩)
      · refine wpAny_mono (T.item X rfl rfl rfl hc i _ s σ H X.xe I3 (stat hfr) hst go) (fun r' s4 ⟨u, hr, h4⟩ => ?_) fun x s' hx => wpAny_standAt (ee n s₀ x s' hx)
        subst hr
        refine seg_bind_wrap ?_
        rw [(gl _).over]
        refine wpAny_mono h4 (fun _ s5 ⟨x, H5, I5, r5, y5, st5, fr5⟩ => ?_) fun x s' hx => ee n s₀ x s' hx
        have I5' := I5.pinned (stat fr5) (T.obj _ _ st5)
        refine seg_bind_wrap ?_
        rw [(gl _).over]
        refine wpAny_mono (hg.run _ s5 σ H5 x u _ I5' r5 (step x H5 y5)) (fun _ s6 ⟨σ6, H6, I6, q6⟩ => ?_) fun x s' hx => ee n s₀ x s' hx
        rw [Sem.bind_eq_wrap', Sem.wrap_wrap]
        have ipn : ∀ p ∈ ip ++ pinsAt fp s5.heap, p.1 ≠ S := fun p hp => by
          rcases List.mem_append.mp hp with hp | hp
          · exact gc.ip p hp
          · intro z
            obtain ⟨hb, _⟩ := of_pinsAt hp
            obtain ⟨_, _, _, _, _, q5⟩ := f2 p.1 hb
            exact q5 (S, lstObj acc cc) (List.mem_append_right _ List.mem_cons_self) z.symm
        have gl2 := gl (fun r => ((match r with | .ok f => (.pure f : Sem Flow) | .error e => .raise e).onRaise (cameBack X.env)).wrap K J gd lv)
        have again : ∀ {ys7 : List V} {σ7 : L2.St} {H7 : Hp} {s7 : Shared} (n' : Nat) (s₀' : Shared), n' + ys7.length = sizeLine → GI X S (ip ++ pinsAt fp s5.heap) ys7 σ7 H7 s7 → N ys7 σ7 H7 →
            Seg (model X.prog X.w) A R (GY X S) n' s₀' (.forLoop tg (.ref it) body [] X.env) (.pure (.again (.forLoop tg (.ref it) body [] X.env)))
              (.ret (fun r => ((match r with | .ok f => (.pure f : Sem Flow) | .error e => .raise e).onRaise (cameBack X.env)).wrap K J gd lv) none (gd false) (lv []) c p [] :: fs) s7 := fun {ys7 σ7 H7 s7} n' s₀' hn' hG n7 => by
          obtain ⟨m', hm, w7⟩ := hN ys7 σ7 H7 n7
          obtain ⟨acc7, c7, r7, I7⟩ := hG
          have pin7 : ∀ b ∈ fp, ∀ o, s5.heap.get? b = some o → s7.heap.get? b = some o ∧ H7 b = none := fun b hb o e => by
            obtain ⟨z1, z2, _⟩ := I7.pin (b, o) (List.mem_append_right _ (List.mem_cons_of_mem _ (List.mem_append_right _ (mem_pinsAt hb e))))
            exact ⟨z1, z2⟩
          refine seg_again rfl (ih m' hm (i + 1) n' ys7 s₀' s7 σ7 H7 hn' w7 ⟨acc7, c7, r7, Inv.unpinned (pins := (S, lstObj acc7 c7) :: ip) I7⟩ (T.keep _ _ _ st5 fun b hb o e => (pin7 b hb o e).1) fun b hb => ?_)
          obtain ⟨o, e, _⟩ := T.obj _ _ st5 b hb
          exact (pin7 b hb o e).2
        refine hb.run A S (ip ++ pinsAt fp s5.heap) R n ys s₀ _ _ _ _ id id s6 σ6 H6 { D with nx := N, ct := N, bk := D.nx } ⟨gl2.pn, ipn, gl2.apart, gl2.over, gl2.split, gl2.guard, gl2.gd⟩ hn ⟨fun n' ys' s₀' s7 f hn' hs7 => ?_, fun n' s₀' x s7 hx => ee n' s₀' x s7 hx⟩ ⟨acc3, c3, r3, I6⟩ q6
        have un : ∀ {ys' : List V} {σ' : L2.St} {H' : Hp}, GI X S (ip ++ pinsAt fp s5.heap) ys' σ' H' s7 → GI X S ip ys' σ' H' s7 := fun {ys' σ' H'} hG => by
          obtain ⟨acc7, c7, r7, I7⟩ := hG
          exact ⟨acc7, c7, r7, Inv.unpinned (pins := (S, lstObj acc7 c7) :: ip) I7⟩
        cases f with
        | next =>
          obtain ⟨σ7, H7, I7, n7⟩ := hs7
          exact again n' s₀' hn' I7 n7
        | cont =>
          obtain ⟨σ7, H7, I7, n7⟩ := hs7
          exact again n' s₀' hn' I7 n7
        | brk =>
          obtain ⟨σ7, H7, I7, q7⟩ := hs7
          exact seg_leaf (.ok .next) (k.ok n' ys' s₀' s7 .next hn' ⟨σ7, H7, un I7, q7⟩)
        | ret v =>
          obtain ⟨x7, σ7, H7, I7, r7, q7⟩ := hs7
          exact seg_leaf (.ok (.ret v)) (k.ok n' ys' s₀' s7 (.ret v) hn' ⟨x7, σ7, H7, un I7, r7, q7⟩)
  exact loop m0 0 n ys s₀ s2 σ H2 hn w0 ⟨acc, cc, r, I2⟩ st2 fun b hb => (f2 b hb).1
end
end Ls
end
section
set_option Elab.async false
set_option autoImplicit false
set_option linter.all false
set_option maxRecDepth 100000
set_option maxHeartbeats 4000000
namespace Ls
open PySem PySem.Spec PyProof.Rows L2 GenW
/-! ### o.m(a = v) -/
section
variable (P : Program) (w : World) (K : PySem.W.Frag) (mg : Str → Option Value) (base : Heap) (CX : CXT) (k : Nat)
structure OwnMK (C : Addr) (m a : Str) (sp : Sp) : Prop where
  ex : ∃ f fd c, Cls K C ∧ Meth K C m f ∧ FnOk P w K mg base CX k f fd [c, a] sp ∧ ∀ (s : Shared) (v u : Value), BindsTo s fd ⟨[v], [(a, u)]⟩ [(c, v), (a, u)]
structure GenMK (C : Addr) (m a : Str) (sp : SpG) : Prop where
  ex : ∃ f fd c, Cls K C ∧ Meth K C m f ∧ GFn P w K mg base k f fd [c, a] sp ∧ ∀ (s : Shared) (v u : Value), BindsTo s fd ⟨[v], [(a, u)]⟩ [(c, v), (a, u)]
structure GenM (C : Addr) (m : Str) (sp : SpG) : Prop where
  ex : ∃ f fd ps, Cls K C ∧ Meth K C m f ∧ GFn P w K mg base k f fd ps sp ∧ Binds K fd ps []
end
section
variable {X : Cx} {CX : CXT} {k : Nat} {C : Addr} {sp : Sp} {spg : SpG} {E : XK} {m a : Str} {pos apos : Pos} {o : PySem.Expr} {kws : List Keyword} {ta : TE} {tk : TA} {pl : Sem Bool}
def tMethK (C : Addr) (m : Str) (sp : Sp) (E : XK) (ta : TE) (tk : TA) : TE := fun σ H Q => ta σ H fun x H1 => ∃ b dx fs, x = .ref b ∧ H1 b = some (.ins C dx fs) ∧ fs.lookup m = none ∧ tk σ H1 fun zs H2 => ∃ z, zs = [z] ∧ sp [.ref b, z] H2 Q E
theorem pe_omk (c : OwnMK X.prog X.w X.K X.mg X.base CX k C m a sp) (hr : Room k X.A) (ho : PE X o ta) (hx : Passes CX X E) (hkw : PK X kws tk)
    (hall : (backToKw pos (keywordEach kws X.env)).all (·.1.isSome) = true := by rfl) (hks : (backToKw pos (keywordEach kws X.env)).filterMap (·.1) = [a] := by rfl)
    (hpl : ((backTo pos (starEach [] X.env)).any (·.1) || (backToKw pos (keywordEach kws X.env)).any (·.1.isNone)) = false := by rfl)
    (ht : eval (.Call (.Attribute o m apos) [] kws pos) X.env = (do
      let ov ← eval o X.env
      standAt apos.atName
      let (f, first) ← holding [ov] (getMethod ov m pl)
      callWith pos f first (backTo pos (starEach [] X.env)) (backToKw pos (keywordEach kws X.env))) := by rfl) :
    PE X (.Call (.Attribute o m apos) [] kws pos) (tMethK C m sp E ta tk) := by
  obtain ⟨f, fd, cn, cl, hm, F, hb⟩ := c.ex
  refine ⟨fun pins s σ H Q I h => ?_⟩
  refine PySem.W.methodCall_KW (pl := pl) (thn (ho.run pins s σ H _ I h) fun u s1 ⟨x, H1, I1, rx, b, dx, fs, ex, eb, l, q⟩ => ?_) ht
  subst ex
  obtain rfl : u = Value.ref b := rx
  refine getmeth_ok I1 eb cl hm l ?_
  refine PySem.W.callWith_of (P := X.K.In) hpl (PySem.W.keeps_K hm.kp) (evalArgs_kw2_nil hall ?_)
  refine thn (hkw.run pos _ s1 σ H1 _ I1 q) fun ws s3 ⟨zs, H2, I3, rz, z, ez, q3⟩ => ?_
  subst ez
  refine ⟨I3.kIn, ?_⟩
  rw [hks]
  obtain ⟨u, rfl, ru⟩ := vals1 rz
  have r2 : Vals [V.ref b, z] [Value.ref b, u] := .cons rfl (.cons ru .nil)
  have run := F.run X.A X.stack s3 H2 ⟨[.ref b], [(a, u)]⟩ [.ref b, u] [.ref b, z] Q E hr I3.env0 (hb s3 (.ref b) u) r2 q3
  refine wpAny_call (codeAny_mono run fun res s' hq => ?_)
  match res, hq with
  | .error e, hq => exact hx _ σ H2 s3 e s' I3 hq
  | .ok (.ret u), hq => exact I3.after hq
  | .ok .next, hq => exact hq.elim
  | .ok .brk, hq => exact hq.elim
  | .ok .cont, hq => exact hq.elim
/-! ### generator methods -/
def tGenM (C : Addr) (m : Str) (sp : SpG) (E : XK) (ta : TE) (t : TA) : TGen := fun σ H cont => ta σ H fun x H1 => ∃ a dx fs, x = .ref a ∧ H1 a = some (.ins C dx fs) ∧ fs.lookup m = none ∧ t σ H1 fun vs H2 => sp (x :: (vs ++ [])) H2 cont E
theorem pgen_m {e : PySem.Expr} {es : List PySem.Expr} {t : TA} (c : GenM X.prog X.w X.K X.mg X.base k C m spg) (hr : Room k X.A) (he : PE X o ta) (ha : PA X (e :: es) t)
    (hst : starEach (e :: es) X.env = (false, eval e X.env) :: starEach es X.env := by rfl) (hpl : (backTo pos (starEach es X.env)).any (·.1) = false := by rfl)
    (ht : eval (.Call (.Attribute o m apos) (e :: es) [] pos) X.env = (do
      let ov ← eval o X.env
      standAt apos.atName
      let (f, first) ← holding [ov] (getMethod ov m pl)
      callWith pos f first (backTo pos (starEach (e :: es) X.env)) (backToKw pos (keywordEach [] X.env))) := by rfl) :
    PGen X k (.Call (.Attribute o m apos) (e :: es) [] pos) (tGenM C m spg E ta t) E := by
  obtain ⟨f, fd, ps, cl, hm, F, hb⟩ := c.ex
  exact pgen_meth he cl hm F hr hb .nil ha hst hpl ht
def tGenMK (C : Addr) (m : Str) (sp : SpG) (E : XK) (ta : TE) (tk : TA) : TGen := fun σ H cont => ta σ H fun x H1 => ∃ b dx fs, x = .ref b ∧ H1 b = some (.ins C dx fs) ∧ fs.lookup m = none ∧ tk σ H1 fun zs H2 => ∃ z, zs = [z] ∧ sp [.ref b, z] H2 cont E
theorem pgen_mk (c : GenMK X.prog X.w X.K X.mg X.base k C m a spg) (hr : Room k X.A) (ho : PE X o ta) (hkw : PK X kws tk)
    (hall : (backToKw pos (keywordEach kws X.env)).all (·.1.isSome) = true := by rfl) (hks : (backToKw pos (keywordEach kws X.env)).filterMap (·.1) = [a] := by rfl)
    (hpl : ((backTo pos (starEach [] X.env)).any (·.1) || (backToKw pos (keywordEach kws X.env)).any (·.1.isNone)) = false := by rfl)
    (ht : eval (.Call (.Attribute o m apos) [] kws pos) X.env = (do
      let ov ← eval o X.env
      standAt apos.atName
      let (f, first) ← holding [ov] (getMethod ov m pl)
      callWith pos f first (backTo pos (starEach [] X.env)) (backToKw pos (keywordEach kws X.env))) := by rfl) :
    PGen X k (.Call (.Attribute o m apos) [] kws pos) (tGenMK C m spg E ta tk) E := by
  obtain ⟨f, fd, cn, cl, hm, F, hb⟩ := c.ex
  refine ⟨fun pins s σ H cont I h => ?_⟩
  refine PySem.W.methodCall_KW (pl := pl) (thn (ho.run pins s σ H _ I h) fun u s1 ⟨x, H1, I1, rx, b, dx, fs, ex, eb, l, q⟩ => ?_) ht
  subst ex
  obtain rfl : u = Value.ref b := rx
  refine getmeth_ok I1 eb cl hm l ?_
  refine PySem.W.callWith_of (P := X.K.In) hpl (PySem.W.keeps_K hm.kp) (evalArgs_kw2_nil hall ?_)
  refine thn (hkw.run pos _ s1 σ H1 _ I1 q) fun ws s3 ⟨zs, H2, I3, rz, z, ez, q3⟩ => ?_
  subst ez
  refine ⟨I3.kIn, ?_⟩
  rw [hks]
  obtain ⟨u, rfl, ru⟩ := vals1 rz
  have r2 : Vals [V.ref b, z] [Value.ref b, u] := .cons rfl (.cons ru .nil)
  refine wpAny_call (codeAny_mono (F.run X.A X.stack s3 H2 ⟨[.ref b], [(a, u)]⟩ [.ref b, u] [.ref b, z] cont E hr I3.env0 (hb s3 (.ref b) u) r2 q3) fun r s' hq => ?_)
  match r, hq with
  | .error e, hq => exact hq.elim
  | .ok (.ret u), hq => exact ⟨H2, s3, [], I3, .nil, hq⟩
  | .ok .next, hq => exact hq.elim
  | .ok .brk, hq => exact hq.elim
  | .ok .cont, hq => exact hq.elim
end
/-! ### what leaves a generator's body -/
section
variable {P : Program} {w : World} {K : PySem.W.Frag} {mg : Str → Option Value} {base : Heap} {N : List Str} {qual : Str} {scope : Scope} {f : Addr} {cd : Value} {A : Around} {outer : List Env} {s : Shared} {H : Hp} {E : XK} {pn : List (Addr × Obj)}
theorem passG : Passes (L2.CX P w) (gcxOf P w K mg base N qual scope f cd A outer s H E pn) E := passes_call takes_gcx fun _ _ _ _ h => h
end
/-- one class alone is let out -/
def onlyC (C : Addr) (E : XK) : XK := fun cls d H => E cls d H ∧ cls = .ref C
section
variable {X : Cx} {A : Around} {outer : List Env} {s : Shared} {H : Hp} {E : XK} {scope : Scope} {f c' C : Addr} {K : PySem.W.Frag}
theorem passLm1 : Passes (L2.CX X.prog X.w) (LamX.lamCx X A outer s H E scope f c') (onlyC C E) := passes_call tkL fun _ _ _ _ h => h.1
theorem noStop_only (h : PySem.W.subIn K (.ref C) (.type "StopIteration") = some false) : NoStop K (onlyC C E) := fun cls d H h' => by
  rw [h'.2]
  exact h
theorem noStop0 : NoStop K (fun _ _ _ => False) := fun _ _ _ h => h.elim
end
/-- list(g); what is let out is looked at last -/
theorem pe_listGC {X : Cx} {CXx : CXT} {k : Nat} {p pos : Pos} {e : PySem.Expr} {tg : TGen} {E : XK} {nm : Str} (h : PGen X k e tg E) (hx : Passes CXx X E) (hns : NoStop X.K E) (hr : Room (k + 3) X.A) (hg : Gl X nm) (hmg : X.mg nm = none) (hv : bootBuiltins nm = some (.type "list")) (hnm : nm ≠ "__name__" := by decide) (hdb : (nm == ("__debug__" : Str)) = false := by decide)
    (he : starEach [e] X.env = (false, eval e X.env) :: starEach [] X.env := by rfl) (hCX : CXx = L2.CX X.prog X.w := by rfl) : PE X (.Call (.Name nm p) [e] [] pos) (tListG tg) := by
  subst hCX
  exact pe_listG h hx hns hr hg hmg hv hnm hdb he
/-- the turns of a generator's for over a range -/
theorem forG_range {lo : Int} {n : Nat} {g : TG} {tb : TGn} {D : GEnds} {ys : List V} {σ : L2.St} {H : Hp} (Pv : Nat → List V → L2.St → Hp → Prop) (h0 : Pv 0 ys σ H)
    (hs : ∀ i ys σ H, i < n → Pv i ys σ H → g (.int (lo + i)) σ H fun σ2 H2 => tb { D with nx := Pv (i + 1), ct := Pv (i + 1), bk := D.nx } ys σ2 H2) (hd : ∀ ys σ H, Pv n ys σ H → D.nx ys σ H) :
    ∃ W : Nat → Nat → List V → L2.St → Hp → Prop, (∃ m, W 0 m ys σ H) ∧ ∀ i m ys σ H, W i m ys σ H →
      ((Itr lo n).stop i H ∧ D.nx ys σ H) ∨ ((Itr lo n).go i H ∧ ∃ N : List V → L2.St → Hp → Prop, (∀ ys' σ' H', N ys' σ' H' → ∃ m', m' < m ∧ W (i + 1) m' ys' σ' H') ∧ ∀ x H', (Itr lo n).yld i H x H' → g x σ H' fun σ2 H2 => tb { D with nx := N, ct := N, bk := D.nx } ys σ2 H2) := by
  refine ⟨fun i m ys σ H => m = n - i ∧ i ≤ n ∧ Pv i ys σ H, ⟨n, by simp, Nat.zero_le _, h0⟩, ?_⟩
  rintro i m ys σ H ⟨rfl, hi, p⟩
  by_cases hlt : i < n
  · refine .inr ⟨?_, Pv (i + 1), fun ys' σ' H' p' => ⟨n - (i + 1), by omega, rfl, hlt, p'⟩, fun x H' y => ?_⟩
    · exact hlt
    · obtain ⟨e, y⟩ := y
      subst e
      subst y
      exact hs i ys σ _ hlt p
  · have e : i = n := by omega
    subst e
    exact .inl ⟨Nat.le_refl _, hd ys σ H p⟩
end Ls
end
section
set_option Elab.async false
set_option linter.all false
set_option maxRecDepth 100000
set_option maxHeartbeats 4000000
namespace K10
open PySem PySem.Spec PyProof.Rows L2 Ls RowM
open C8 (pss_cut tCut)
open TL
def top (i : Nat) : Stmt := PySem.Challenge.pw_loopstow_k10_rows_refused.main.body.getD i (.Pass ⟨0, 0, 0, 0⟩)
def bns : List Str := ["len", "int", "abs", "list", "isinstance", "all", "range", "tuple", "super", "repr", "bool", "str", "max", "ValueError"]
/-- what the top has left, for the defs -/
structure Tx (K : PySem.W.Frag) (mg : Str → Option Value) (CE CN CT CB CR : Addr) (tM tP tF : Tok) : Prop where
  bn : ∀ x ∈ bns, mg x = none
  m_MOST_NUMBERS : mg "MOST_NUMBERS" = some (.int 2000 tM)
  m_PIECE : mg "PIECE" = some (.int (10 ^ 60) tP)
  m_FIGURES : mg "FIGURES" = some (.str "0123456789" tF)
  m_StowError : mg "StowError" = some (.ref CE)
  m_BadNumber : mg "BadNumber" = some (.ref CN)
  m_TooMany : mg "TooMany" = some (.ref CT)
  m_BadText : mg "BadText" = some (.ref CB)
  m_Row : mg "Row" = some (.ref CR)
/-! ### the pen -/
/-- a pen stands at p, its cells at c; at most n cells were read -/
def PenAt (H : Hp) (p c : Addr) (n : Nat) : Prop := ∃ (ns : List Int) (a r : Int), H p = some (.lst [.ref c, .int a, .int r]) ∧ H c = some (.lst (ns.map V.int)) ∧ p ≠ c ∧ 0 ≤ a ∧ a ≤ n ∧ 0 ≤ r ∧ ns.length ≤ 63
theorem PenAt.mono {H : Hp} {p c : Addr} {n m : Nat} (h : PenAt H p c n) (l : n ≤ m) : PenAt H p c m := let ⟨ns, a, r, h1, h2, h3, h4, h5, h6, h7⟩ := h; ⟨ns, a, r, h1, h2, h3, h4, by omega, h6, h7⟩
theorem PenAt.upd {H : Hp} {p c a : Addr} {n : Nat} {o : HO} (h : PenAt H p c n) (np : p ≠ a) (nc : c ≠ a) : PenAt (upd H a o) p c n := by
  obtain ⟨ns, b, r, h1, h2, h3⟩ := h
  exact ⟨ns, b, r, by rw [upd_ne np]; exact h1, by rw [upd_ne nc]; exact h2, h3⟩
theorem PenAt.ext {H H' : Hp} {p c : Addr} {n : Nat} (h : PenAt H p c n) (e : Ext H H') : PenAt H' p c n := by
  obtain ⟨ns, b, r, h1, h2, h3⟩ := h
  exact ⟨ns, b, r, e _ _ h1, e _ _ h2, h3⟩
theorem PenAt.ne {H : Hp} {p c a : Addr} {n : Nat} (h : PenAt H p c n) (ha : H a = none) : p ≠ a ∧ c ≠ a := by
  obtain ⟨ns, b, r, h1, h2, _⟩ := h
  exact ⟨ne_of_none h1 ha, ne_of_none h2 ha⟩
theorem PenAt.tabs {H H' : Hp} {p c : Addr} {n : Nat} {TT : List (Addr × Str)} (h : PenAt H p c n) (t : LamX.Tabs TT H) (k : Keep p c H H') : LamX.Tabs TT H' := by
  obtain ⟨ns, b, r, h1, h2, _⟩ := h
  exact tabs_keep t k h1 h2
theorem PenAt.extN {H H' : Hp} {p c : Addr} {n : Nat} (h : PenAt H p c n) (e : LamX.ExtN H H') : PenAt H' p c n := by
  obtain ⟨ns, b, r, h1, h2, h3⟩ := h
  exact ⟨ns, b, r, e _ _ h1 (fun ps z => nomatch z), e _ _ h2 (fun ps z => nomatch z), h3⟩
def spDraw : Sp := fun vs H Q _ => ∃ (p c : Addr) (n : Nat) (many : Int), vs = [.ref p, .int many] ∧ PenAt H p c n ∧ n < 1048576 ∧ 0 < many ∧ many < 1073741824 ∧
  ∀ (j : Int) (H' : Hp), 0 ≤ j → j < many → PenAt H' p c (n + 1) → Keep p c H H' → Q (.int j) H'
section
variable {P : Program} {w : World} {K : PySem.W.Frag} {mg : Str → Option Value} {base : Heap} {CE CN CT CB CR : Addr} {tM tP tF : Tok}
abbrev s__law_draw : Stmt := top 34
abbrev N__law_draw : List Str := ["_law_pen_here", "_law_many", "_law_digit", "_law_at", "_law_cell", "_law_great", "_law_mixed"]
theorem sc__law_draw : FnScope N__law_draw ["_law_pen_here", "_law_many"] (defScope s__law_draw) := ⟨rfl, rfl, rfl, by decide +kernel, rfl, by decide +kernel, by decide +kernel⟩
theorem pow18 : ((10 : Int) ^ (18 : Int).toNat) = 1000000000000000000 := by decide +kernel
theorem ok_draw {f : Addr} {fd : FuncData} (F : Fun K "_law_draw" "_law_draw" s__law_draw f fd) (T : Tx K mg CE CN CT CB CR tM tP tF) : FnOk P w K mg base CX0 1 f fd ["_law_pen_here", "_law_many"] spDraw := by
  refine F.ok sc__law_draw (fun vs H Q E h => ?_) (fun cdv A outer s H vs Q E hr h => ?_)
  · obtain ⟨p, c, n, many, rfl, _⟩ := h
    rfl
  · obtain ⟨p, c, n, many, rfl, ⟨ns, a, r, hp, hc, npc, a0, an, r0, hz⟩, n1, m0, m1, k⟩ := h
    have hu := hu_of hr
    refine ⟨_, (pss_cons (ps_if (pt_cmpR op_gt (pe_ix ix_list (pv 0) pe_int (fun _ _ => rfl)) pe_int (nomark _)) (pss_cons (ps_set (i := 2) sc__law_draw.nd rfl (by first | exact Or.inl rfl | exact Or.inr rfl) (pe_op op_mod (pe_callTy call_int1 (by rfl) (T.bn _ (by decide +kernel)) (by decide +kernel) (pa_cons (pe_ix ix_list (pv 0) pe_int (fun _ _ => rfl)) pa_nil)) (pv 1)))
      (pss_cons (ps_asg (pe_op op_fdiv (pe_callTy call_int1 (by rfl) (T.bn _ (by decide +kernel)) (by decide +kernel) (pa_cons (pe_ix ix_list (pv 0) pe_int (fun _ _ => rfl)) pa_nil)) (pv 1)) (pg_sub (pv 0) pe_int set_list))
      (pss_one (ps_ret (pv 2))))) pss_nil)
      (pss_cons (ps_set (i := 3) sc__law_draw.nd rfl (by first | exact Or.inl rfl | exact Or.inr rfl) (pe_ix ix_list (pv 0) pe_int (fun _ _ => rfl)))
      (pss_cons (ps_asg (pe_op op_add (pv 3) pe_int) (pg_sub (pv 0) pe_int set_list))
      (pss_cons (ps_set (i := 4) sc__law_draw.nd rfl (by first | exact Or.inl rfl | exact Or.inr rfl) (pe_op op_add (pe_op op_mul pe_int (pv 3)) pe_int))
      (pss_cut (ps_if (pt_cmpR (op_neNil hr) (pe_ix ix_list (pv 0) pe_int (fun _ _ => rfl)) (pe_lst pa_nil) (nomark _)) (pss_one (ps_set (i := 4) sc__law_draw.nd rfl (by first | exact Or.inl rfl | exact Or.inr rfl) (pe_ix ix_list (pe_ix ix_list (pv 0) pe_int (fun _ _ => rfl)) (pe_op op_mod (pe_callTy call_int1 (by rfl) (T.bn _ (by decide +kernel)) (by decide +kernel) (pa_cons (pv 3) pa_nil)) (pe_callB call_len_seq (by rfl) (T.bn _ (by decide +kernel)) (by decide +kernel) (pa_cons (pe_ix ix_list (pv 0) pe_int (fun _ _ => rfl)) pa_nil))) (fun _ _ => rfl)))) pss_nil)
      (pss_cut (ps_if ((pw_and (pt_cmpR op_lt (pv 3) (pe_callB call_len_seq (by rfl) (T.bn _ (by decide +kernel)) (by decide +kernel) (pa_cons (pe_ix ix_list (pv 0) pe_int (fun _ _ => rfl)) pa_nil)) (nomark _)) (pw_and1 (pt_cmpR op_ge (pe_callB call_abs (by rfl) (T.bn _ (by decide +kernel)) (by decide +kernel) (pa_cons (pv 4) pa_nil)) (pe_op op_pow pe_int pe_int) (nomark _))))).pt (pss_cons (ps_set (i := 5) sc__law_draw.nd rfl (by first | exact Or.inl rfl | exact Or.inr rfl) (pe_op op_add (pe_op op_mul pe_int (pe_op op_sub (pe_callB call_abs (by rfl) (T.bn _ (by decide +kernel)) (by decide +kernel) (pa_cons (pv 4) pa_nil)) (pe_op op_pow pe_int pe_int))) (pe_callTy call_int1 (by rfl) (T.bn _ (by decide +kernel)) (by decide +kernel) (pa_cons (pe_cmpR op_lt (pv 4) pe_int (nomark _)) pa_nil))))
      (pss_cons (ps_asg (pe_op op_fdiv (pe_callTy call_int1 (by rfl) (T.bn _ (by decide +kernel)) (by decide +kernel) (pa_cons (pv 5) pa_nil)) (pv 1)) (pg_sub (pv 0) pe_int set_list))
      (pss_one (ps_ret (pe_op op_mod (pe_callTy call_int1 (by rfl) (T.bn _ (by decide +kernel)) (by decide +kernel) (pa_cons (pv 5) pa_nil)) (pv 1)))))) pss_nil)
      (pss_cons (ps_set (i := 6) sc__law_draw.nd rfl (by first | exact Or.inl rfl | exact Or.inr rfl) (pe_op op_add (pe_op op_add (pe_op op_mod (pe_callTy call_int1 (by rfl) (T.bn _ (by decide +kernel)) (by decide +kernel) (pa_cons (pv 4) pa_nil)) pe_int) (pe_op op_mul pe_int (pv 3))) pe_int))
      (pss_cons (ps_set (i := 6) sc__law_draw.nd rfl (by first | exact Or.inl rfl | exact Or.inr rfl) (pe_op op_mod (pe_callTy call_int1 (by rfl) (T.bn _ (by decide +kernel)) (by decide +kernel) (pa_cons (pe_op op_pow (pv 6) pe_int) pa_nil)) pe_int))
      (pss_cons (ps_set (i := 6) sc__law_draw.nd rfl (by first | exact Or.inl rfl | exact Or.inr rfl) (pe_op op_add (pe_op op_add (pe_op op_mul (pv 6) (pe_op op_add (pe_op op_mul pe_int (pv 3)) pe_int)) (pe_op op_mul (pe_op op_mul pe_int (pv 3)) (pv 3))) pe_int))
      (pss_cons (ps_set (i := 6) sc__law_draw.nd rfl (by first | exact Or.inl rfl | exact Or.inr rfl) (pe_op op_mod (pe_callTy call_int1 (by rfl) (T.bn _ (by decide +kernel)) (by decide +kernel) (pa_cons (pe_op op_pow (pv 6) pe_int) pa_nil)) pe_int))
      (pss_one (ps_ret (pe_op op_mod (pe_callTy call_int1 (by rfl) (T.bn _ (by decide +kernel)) (by decide +kernel) (pa_cons (pe_op op_fdiv (pv 6) pe_int) pa_nil)) (pv 1)))))))))))))), ?_⟩
    refine ⟨_, rfl, p, _, 2, .int r, rfl, rfl, SqL.of hp, atI_nat (j := 2) rfl, r, 0, rfl, rfl, _, rfl, ?_⟩
    refine ite2 (fun hpos => ?_) (fun hno => ?_)
    · have hpos' : 0 < r := by simpa using hpos
      refine ⟨_, rfl, p, _, 2, .int r, rfl, rfl, SqL.of hp, atI_nat (j := 2) rfl, .inl ⟨r, rfl, _, rfl, _, _, rfl, rfl, m0, ?_⟩⟩
      refine ⟨_, rfl, p, _, 2, .int r, rfl, rfl, SqL.of hp, atI_nat (j := 2) rfl, .inl ⟨r, rfl, _, rfl, _, _, rfl, rfl, ⟨m0, m1⟩, ?_⟩⟩
      refine ⟨_, rfl, p, _, 2, 2, rfl, rfl, hp, rfl, ?_⟩
      refine ⟨_, rfl, k _ _ (Int.emod_nonneg _ (by omega)) (Int.emod_lt_of_pos _ m0) ⟨ns, a, r / many, upd_same, by rw [upd_ne npc.symm]; exact hc, npc, a0, by omega, Int.ediv_nonneg (by omega) (by omega), hz⟩ Keep.upd1⟩
    · refine ⟨_, rfl, p, _, 1, .int a, rfl, rfl, SqL.of hp, atI_nat (j := 1) rfl, ?_⟩
      refine ⟨_, rfl, _, _, rfl, rfl, ?_⟩
      refine ⟨_, rfl, p, _, 1, 1, rfl, rfl, hp, rfl, ?_⟩
      have hp1 : (upd H p (.lst [.ref c, .int (a + 1), .int r])) p = some (.lst [.ref c, .int (a + 1), .int r]) := upd_same
      have hc1 : (upd H p (.lst [.ref c, .int (a + 1), .int r])) c = some (.lst (ns.map V.int)) := by rw [upd_ne npc.symm]; exact hc
      have kp1 : Keep p c H (upd H p (.lst [.ref c, .int (a + 1), .int r])) := Keep.upd1
      refine ⟨_, rfl, _, _, rfl, rfl, .inl ⟨by decide, by decide⟩, _, _, rfl, rfl, ?_⟩
      -- behind the if: the cell is a number
      refine ⟨fun σ' H' => ∃ z : Int, σ' = [some (.ref p), some (.int many), none, some (.int a), some (.int z), none, none] ∧ H' p = some (.lst [.ref c, .int (a + 1), .int r]) ∧ H' c = some (.lst (ns.map V.int)) ∧ Keep p c H H', ?_, ?_⟩
      · refine ⟨_, rfl, p, _, 0, .ref c, rfl, rfl, SqL.of hp1, atI_nat (j := 0) rfl, (by show 0 ≤ sizeLine; decide), fun l hl => ?_⟩
        have npl : p ≠ l := ne_of_none hp1 hl
        have ncl : c ≠ l := ne_of_none hc1 hl
        refine ⟨c, l, _, rfl, rfl, by rw [upd_ne ncl]; exact hc1, upd_same, _, rfl, ?_⟩
        have hp2 : (upd (upd H p (.lst [.ref c, .int (a + 1), .int r])) l (.lst [])) p = some (.lst [.ref c, .int (a + 1), .int r]) := by rw [upd_ne npl]; exact hp1
        have hc2 : (upd (upd H p (.lst [.ref c, .int (a + 1), .int r])) l (.lst [])) c = some (.lst (ns.map V.int)) := by rw [upd_ne ncl]; exact hc1
        have kp2 : Keep p c H (upd (upd H p (.lst [.ref c, .int (a + 1), .int r])) l (.lst [])) := kp1.trans (Keep.new hl)
        cases ns with
        | nil =>
          refine iteF ?_
          exact ⟨_, rfl, hp2, hc2, kp2⟩
        | cons n0 ns =>
          refine iteT ?_
          have hlen : (0 : Int) < (((n0 :: ns).map V.int).length : Nat) := by simp
          have j0 := Int.emod_nonneg a (Int.ne_of_gt hlen)
          have j1 := Int.emod_lt_of_pos a hlen
          refine ⟨_, rfl, p, _, 0, .ref c, rfl, rfl, SqL.of hp2, atI_nat (j := 0) rfl, _, rfl, .inl ⟨a, rfl, _, rfl, p, _, 0, .ref c, rfl, rfl, SqL.of hp2, atI_nat (j := 0) rfl, c, _, rfl, .inl (SqL.of hc2), _, _, rfl, rfl, hlen, ?_⟩⟩
          have hj : (a % (((n0 :: ns).map V.int).length : Nat)).toNat < ((n0 :: ns).map V.int).length := by omega
          refine ⟨c, _, _, ((n0 :: ns).map V.int)[(a % (((n0 :: ns).map V.int).length : Nat)).toNat], rfl, rfl, SqL.of hc2, atI_at (j := (a % (((n0 :: ns).map V.int).length : Nat)).toNat) (by omega) (List.getElem?_eq_getElem hj), ?_⟩
          rw [List.getElem_map]
          exact ⟨_, rfl, hp2, hc2, kp2⟩
      · rintro σ' H1 ⟨z, rfl, hp1, hc1, kp1⟩
        have ab : (0 : Int) ≤ (if z < 0 then -z else z) := by split <;> omega
        have last : ∀ j : Int, 0 ≤ j → j < many → Q (.int j) H1 := fun j j0 j1 => k j H1 j0 j1 ⟨ns, a + 1, r, hp1, hc1, npc, by omega, by omega, r0, hz⟩ kp1
        refine ⟨fun σ' H' => σ' = [some (.ref p), some (.int many), none, some (.int a), some (.int z), none, none] ∧ H' = H1, ?_, ?_⟩
        · refine ⟨_, rfl, _, rfl, p, _, 0, .ref c, rfl, rfl, SqL.of hp1, atI_nat (j := 0) rfl, c, _, rfl, .inl (SqL.of hc1), _, _, rfl, rfl, _, rfl, ?_⟩
          refine ite2 (fun h1 => ?_) (fun h1 => ?_)
          · refine ⟨_, rfl, z, rfl, _, _, rfl, rfl, ⟨by decide, by decide, by decide⟩, _, _, rfl, rfl, _, rfl, ?_⟩
            refine ite2 (fun h2 => ?_) (fun h2 => ?_)
            · refine ⟨_, rfl, z, rfl, _, _, rfl, rfl, ⟨by decide, by decide, by decide⟩, _, _, rfl, rfl, _, _, rfl, rfl, .inl ⟨by decide, by decide⟩, ?_⟩
              refine ⟨_, rfl, _, _, rfl, rfl, .inr ⟨_, rfl, _, _, rfl, rfl, ?_⟩⟩
              refine ⟨_, rfl, .inl ⟨_, rfl, _, rfl, _, _, rfl, rfl, ⟨m0, m1⟩, ?_⟩⟩
              refine ⟨_, rfl, p, _, 2, 2, rfl, rfl, hp1, rfl, ?_⟩
              refine ⟨_, rfl, .inl ⟨_, rfl, _, rfl, _, _, rfl, rfl, m0, ?_⟩⟩
              refine k _ _ (Int.emod_nonneg _ (by omega)) (Int.emod_lt_of_pos _ m0) ⟨ns, a + 1, _, upd_same, by rw [upd_ne npc.symm]; exact hc1, npc, by omega, by omega, ?_, hz⟩ (kp1.trans Keep.upd1)
              refine Int.ediv_nonneg ?_ (by omega)
              have : (0 : Int) ≤ (if decide (z < 0) = true then 1 else 0) := by split <;> decide
              have h3 : ((10 : Int) ^ (18 : Int).toNat) ≤ (if z < 0 then -z else z) := by simpa using h2
              omega
            · exact ⟨rfl, rfl⟩
          · exact ⟨rfl, rfl⟩
        · rintro σ' H' ⟨rfl, rfl⟩
          have z0 := Int.emod_nonneg z (show (2147483647 : Int) ≠ 0 by decide)
          have z1 := Int.emod_lt_of_pos z (show (0 : Int) < 2147483647 by decide)
          refine ⟨_, rfl, .inl ⟨z, rfl, _, _, rfl, rfl, (by show (0 : Int) < 2147483647; decide), ?_⟩⟩
          refine ⟨_, rfl, _, _, rfl, rfl, .inl ⟨by decide, by decide⟩, _, _, rfl, rfl, _, _, rfl, rfl, ?_⟩
          refine ⟨_, rfl, _, _, rfl, rfl, ⟨by decide, by decide, ?_⟩, .inl ⟨_, rfl, _, _, rfl, rfl, (by show (0 : Int) < 2147483579; decide), ?_⟩⟩
          · show (z % 2147483647 + 40589 * a + 81).natAbs < 2 ^ 64
            have : (2 : Nat) ^ 64 = 18446744073709551616 := by decide
            omega
          obtain ⟨m, hm⟩ : ∃ m, (z % 2147483647 + 40589 * a + 81) ^ (5 : Int).toNat % 2147483579 = m := ⟨_, rfl⟩
          have q0 : 0 ≤ m := by rw [← hm]; exact Int.emod_nonneg _ (by decide)
          have q1 : m < 2147483579 := by rw [← hm]; exact Int.emod_lt_of_pos _ (by decide)
          have a1 : a ≤ 1048576 := by omega
          have e1 : m * (2 * a + 25) ≤ 2147483579 * 2097177 := Int.mul_le_mul (by omega) (by omega) (by omega) (by decide)
          have e2 : 0 ≤ m * (2 * a + 25) := Int.mul_nonneg q0 (by omega)
          have e3 : 50361 * a * a ≤ 50361 * 1048576 * 1048576 := Int.mul_le_mul (by omega) a1 a0 (by decide)
          have e4 : 0 ≤ 50361 * a * a := Int.mul_nonneg (by omega) a0
          refine ⟨_, rfl, _, rfl, _, _, rfl, rfl, .inl ⟨by decide, by decide⟩, _, _, rfl, rfl, _, _, rfl, rfl, .inl ⟨by omega, by omega⟩, ?_⟩
          refine ⟨_, rfl, _, _, rfl, rfl, .inl ⟨by decide, by decide⟩, _, rfl, _, _, rfl, rfl, .inr ⟨by omega, by omega⟩, _, _, rfl, rfl, _, _, rfl, rfl, ?_⟩
          refine ⟨_, rfl, _, _, rfl, rfl, ⟨by decide, by decide, ?_⟩, .inl ⟨_, rfl, _, _, rfl, rfl, (by show (0 : Int) < 2147483497; decide), ?_⟩⟩
          · show ((z % 2147483647 + 40589 * a + 81) ^ (5 : Int).toNat % 2147483579 * (2 * a + 25) + 50361 * a * a + 19).natAbs < 2 ^ 64
            rw [hm]
            have : (2 : Nat) ^ 64 = 18446744073709551616 := by decide
            generalize m * (2 * a + 25) = u at e1 e2
            generalize 50361 * a * a = v at e3 e4
            omega
          refine ⟨_, rfl, _, _, rfl, rfl, ⟨by decide, by decide⟩, .inl ⟨_, rfl, _, rfl, _, _, rfl, rfl, m0, ?_⟩⟩
          exact last _ (Int.emod_nonneg _ (by omega)) (Int.emod_lt_of_pos _ m0)
/-! ### the pen made; a pick -/
def spPen (K : PySem.W.Frag) : Sp := fun vs H Q _ => ∃ (a : Addr) (ns : List Int), vs = [.ref a] ∧ SqL K H a (ns.map V.int) ∧ ns.length ≤ 1000 ∧ ∀ p c H', PenAt H' p c 0 → Ext H H' → H p = none → H c = none → Q (.ref p) H'
abbrev s__law_pen : Stmt := top 33
abbrev N__law_pen : List Str := ["_law_script"]
theorem sc__law_pen : FnScope N__law_pen ["_law_script"] (defScope s__law_pen) := ⟨rfl, rfl, rfl, by decide +kernel, rfl, by decide +kernel, by decide +kernel⟩
theorem ok_pen {f : Addr} {fd : FuncData} (F : Fun K "_law_pen" "_law_pen" s__law_pen f fd) (T : Tx K mg CE CN CT CB CR tM tP tF) : FnOk P w K mg base CX0 1 f fd ["_law_script"] (spPen K) := by
  refine F.ok sc__law_pen (fun vs H Q E h => ?_) (fun cdv A outer s H vs Q E hr h => ?_)
  · obtain ⟨a, ns, rfl, _⟩ := h
    rfl
  · obtain ⟨a, ns, rfl, ha, hn, k⟩ := h
    refine ⟨_, (pss_one (ps_ret (pe_lst (pa_cons (pe_callTy call_list_of (by rfl) (T.bn _ (by decide +kernel)) (by decide +kernel) (pa_cons (pe_slice sl_list (pv 0) po_none (po_some pe_int)) pa_nil)) (pa_cons pe_int (pa_cons pe_int pa_nil)))))), ?_⟩
    refine ⟨_, rfl, 63, rfl, a, _, rfl, ha, fun q hq => ?_⟩
    refine ⟨q, _, rfl, .inl (SqL.of upd_same), fun c hc => ?_⟩
    have nqc : q ≠ c := ne_of_none upd_same hc
    refine ⟨(by show 3 ≤ sizeLine; decide), fun p hp => ?_⟩
    have npc : p ≠ c := (ne_of_none upd_same hp).symm
    have e1 := Ext.upd (o := HO.lst (((ns.map V.int).drop (HT.sIx (ns.map V.int).length 0 none)).take (HT.sIx (ns.map V.int).length (ns.map V.int).length (some 63) - HT.sIx (ns.map V.int).length 0 none))) hq
    refine k p c _ ⟨(ns.drop (HT.sIx (ns.map V.int).length 0 none)).take (HT.sIx (ns.map V.int).length (ns.map V.int).length (some 63) - HT.sIx (ns.map V.int).length 0 none), 0, 0, upd_same, ?_, npc, by decide, by decide, by decide, ?_⟩ ((e1.trans (Ext.upd hc)).trans (Ext.upd hp)) ?_ ?_
    · rw [upd_ne npc.symm, upd_same, List.map_take, List.map_drop]
      rfl
    · have : HT.sIx (ns.map V.int).length (ns.map V.int).length (some 63) ≤ 63 := by
        unfold HT.sIx
        simp
        omega
      rw [List.length_take]
      omega
    · exact ext_free (e1.trans (Ext.upd hc)) hp
    · exact ext_free e1 hc
def spPick (K : PySem.W.Frag) : Sp := fun vs H Q _ => ∃ (p c : Addr) (n : Nat) (v : V), vs = [.ref p, v] ∧ PenAt H p c n ∧ n < 1048576 ∧
  ((∃ (l : Addr) (xs : List V), v = .ref l ∧ l ≠ p ∧ l ≠ c ∧ H l = some (.lst xs) ∧ 0 < xs.length ∧ xs.length ≤ 1000 ∧ ∀ x H', x ∈ xs → PenAt H' p c (n + 1) → Keep p c H H' → Q x H') ∨
    ∃ z : Str, v = .str z ∧ 0 < z.length ∧ z.length ≤ 1000 ∧ ∀ c' H', c' ∈ tl z → PenAt H' p c (n + 1) → Keep p c H H' → Q (.str ⟨#[c']⟩) H')
abbrev s__law_pick : Stmt := top 35
abbrev N__law_pick : List Str := ["_law_pen_here", "_law_some"]
theorem sc__law_pick : FnScope N__law_pick ["_law_pen_here", "_law_some"] (defScope s__law_pick) := ⟨rfl, rfl, rfl, by decide +kernel, rfl, by decide +kernel, by decide +kernel⟩
theorem ok_pick {f : Addr} {fd : FuncData} (F : Fun K "_law_pick" "_law_pick" s__law_pick f fd) (T : Tx K mg CE CN CT CB CR tM tP tF) (c__law_draw : Cal P w K mg base CX0 1 "_law_draw" spDraw) : FnOk P w K mg base CX0 2 f fd ["_law_pen_here", "_law_some"] (spPick K) := by
  refine F.ok sc__law_pick (fun vs H Q E h => ?_) (fun cdv A outer s H vs Q E hr h => ?_)
  · obtain ⟨p, c, n, v, rfl, _⟩ := h
    rfl
  · obtain ⟨p, c, n, v, rfl, hp, hn, h⟩ := h
    refine ⟨_, (pss_one (ps_ret (pe_ix ix_seq (pv 1) (pe_cal c__law_draw (hr.mono (by decide)) (by rfl) pass0 (pa_cons (pv 0) (pa_cons (pe_callB (CallR.or call_len_seq call_len_str) (by rfl) (T.bn _ (by decide +kernel)) (by decide +kernel) (pa_cons (pv 1) pa_nil)) pa_nil))) (fun _ _ => rfl)))), ?_⟩
    rcases h with ⟨l, xs, rfl, n1, n2, hl, h0, h1, k⟩ | ⟨z, rfl, h0, h1, k⟩
    · refine ⟨_, rfl, _, rfl, _, rfl, .inl ⟨l, _, rfl, .inl (SqL.of hl), p, c, n, _, rfl, hp, hn, by omega, by omega, fun j H1 j0 j1 hp1 kp => ?_⟩⟩
      have hl1 := kp l _ hl n1 n2
      have hj : j.toNat < xs.length := by omega
      exact .inl ⟨l, xs, j, xs[j.toNat], rfl, rfl, SqL.of hl1, atI_at (j := j.toNat) (by omega) (List.getElem?_eq_getElem hj), k _ H1 (List.getElem_mem hj) hp1 kp⟩
    · refine ⟨_, rfl, _, rfl, _, rfl, .inr ⟨z, rfl, Nat.le_of_lt (small1000 h1), p, c, n, _, rfl, hp, hn, by omega, by omega, fun j H1 j0 j1 hp1 kp => ?_⟩⟩
      have hj : j.toNat < z.cps.toList.length := by
        have : z.cps.toList.length = z.length := by simp; rfl
        omega
      exact .inr (.inr ⟨z, j, z.cps.toList[j.toNat], rfl, rfl, Nat.le_of_lt (small1000 h1), atI_at (j := j.toNat) (by omega) (List.getElem?_eq_getElem hj), k _ H1 (List.getElem_mem hj) hp1 kp⟩)
end
end K10
end
section
set_option Elab.async false
set_option autoImplicit false
set_option linter.all false
set_option maxRecDepth 100000
set_option maxHeartbeats 1000000
set_option pp.maxSteps 1500
namespace K10
open PySem PySem.Spec PyProof.Rows L2 Ls RowM
open C8 (pss_cut tCut)
open TL
/-! ### whole numbers -/
def isNumD : PyData → Bool
  | .int _ => true
  | .bool _ => true
  | _ => false
def isBoolD : PyData → Bool
  | .bool _ => true
  | _ => false
def isIntD : PyData → Bool
  | .int _ => true
  | _ => false
theorem kit_int {K : PySem.W.Frag} (d : PyData) : PySem.W.kitOne K (.type (tyN d)) (.type "int") = some (isNumD d) := by
  have k1 : kitB "NoneType" "int" = some false := by decide +kernel
  have k2 : kitB "bool" "int" = some true := by decide +kernel
  have k3 : kitB "int" "int" = some true := by decide +kernel
  have k4 : kitB "str" "int" = some false := by decide +kernel
  have k5 : kitB "list" "int" = some false := by decide +kernel
  have k6 : kitB "tuple" "int" = some false := by decide +kernel
  have k7 : kitB "dict" "int" = some false := by decide +kernel
  cases d <;> first | exact kit_ty k1 | exact kit_ty k2 | exact kit_ty k3 | exact kit_ty k4 | exact kit_ty k5 | exact kit_ty k6 | exact kit_ty k7
theorem kit_bool {K : PySem.W.Frag} (d : PyData) : PySem.W.kitOne K (.type (tyN d)) (.type "bool") = some (isBoolD d) := by
  have k1 : kitB "NoneType" "bool" = some false := by decide +kernel
  have k2 : kitB "bool" "bool" = some true := by decide +kernel
  have k3 : kitB "int" "bool" = some false := by decide +kernel
  have k4 : kitB "str" "bool" = some false := by decide +kernel
  have k5 : kitB "list" "bool" = some false := by decide +kernel
  have k6 : kitB "tuple" "bool" = some false := by decide +kernel
  have k7 : kitB "dict" "bool" = some false := by decide +kernel
  cases d <;> first | exact kit_ty k1 | exact kit_ty k2 | exact kit_ty k3 | exact kit_ty k4 | exact kit_ty k5 | exact kit_ty k6 | exact kit_ty k7
theorem intD {d : PyData} (h : isIntD d = true) : ∃ i, d = .int i := by
  cases d <;> first | exact ⟨_, rfl⟩ | cases h
theorem tv_int {H : Hp} {v : V} {i : Int} (h : TV H v (.int i)) : v = .int i := by
  cases h
  rfl
/-! ### lists of numbers -/
def fl (f : Nat → Int) (L : Nat) : List V := (List.range L).map fun i => V.int (f i)
theorem fl_len (f : Nat → Int) (L : Nat) : (fl f L).length = L := by unfold fl; simp
theorem fl_at {f : Nat → Int} {L i : Nat} (h : i < L) : (fl f L)[i]? = some (.int (f i)) := by
  unfold fl
  rw [List.getElem?_map, List.getElem?_range h]
  rfl
theorem fl_ints (xs : List Int) (p : Nat) (d : Int) : xs.map V.int = fl (ext xs p d) xs.length := by
  conv => lhs; rw [ext_list (xs := xs) (p := p) (d := d)]
  unfold fl
  rw [List.map_map]
  rfl
theorem fl_drop (f : Nat → Int) (s L : Nat) : (fl f L).drop s = fl (fun n => f (s + n)) (L - s) := by
  refine List.ext_getElem? fun i => ?_
  rw [List.getElem?_drop]
  by_cases h : i < L - s
  · rw [fl_at h, fl_at (by omega)]
  · rw [List.getElem?_eq_none_iff.mpr (by rw [fl_len]; omega), List.getElem?_eq_none_iff.mpr (by rw [fl_len]; omega)]
theorem fl_take (f : Nat → Int) (s L : Nat) (h : s ≤ L) : (fl f L).take s = fl f s := by
  refine List.ext_getElem? fun i => ?_
  by_cases hi : i < s
  · rw [List.getElem?_take_of_lt hi, fl_at (by omega), fl_at hi]
  · rw [List.getElem?_eq_none_iff.mpr (by rw [List.length_take, fl_len]; omega), List.getElem?_eq_none_iff.mpr (by rw [fl_len]; omega)]
theorem fl_snoc (f : Nat → Int) (L : Nat) : fl f L ++ [V.int (f L)] = fl f (L + 1) := by
  unfold fl
  rw [List.range_succ, List.map_append]
  rfl
theorem fl_app (f : Nat → Int) (L M : Nat) : fl f L ++ fl (fun n => f (L + n)) M = fl f (L + M) := by
  induction M with
  | zero => simp [fl]
  | succ M ih => rw [← fl_snoc, ← List.append_assoc, ih, ← Nat.add_assoc, ← fl_snoc]
theorem fl_congr {f g : Nat → Int} {L : Nat} (h : ∀ i, i < L → f i = g i) : fl f L = fl g L := by
  refine List.ext_getElem? fun i => ?_
  by_cases hi : i < L
  · rw [fl_at hi, fl_at hi, h i hi]
  · rw [List.getElem?_eq_none_iff.mpr (by rw [fl_len]; omega), List.getElem?_eq_none_iff.mpr (by rw [fl_len]; omega)]
section
variable {P : Program} {w : World} {K : PySem.W.Frag} {mg : Str → Option Value} {base : Heap} {CE CN CT CB CR : Addr} {tM tP tF : Tok}
def spInt : Sp := fun vs H Q _ => ∃ (v : V) (d : PyData), vs = [v] ∧ TV H v d ∧ Q (.bl (isIntD d)) H
abbrev s_is_integer : Stmt := top 7
abbrev N_is_integer : List Str := ["value"]
theorem sc_is_integer : FnScope N_is_integer ["value"] (defScope s_is_integer) := ⟨rfl, rfl, rfl, by decide +kernel, rfl, by decide +kernel, by decide +kernel⟩
theorem ok_int {f : Addr} {fd : FuncData} (F : Fun K "is_integer" "is_integer" s_is_integer f fd) (T : Tx K mg CE CN CT CB CR tM tP tF) : FnOk P w K mg base CX0 1 f fd ["value"] spInt := by
  refine F.ok sc_is_integer (fun vs H Q E h => ?_) (fun cdv A outer s H vs Q E hr h => ?_)
  · obtain ⟨v, d, rfl, _⟩ := h
    rfl
  · obtain ⟨v, d, rfl, hv, k⟩ := h
    refine ⟨_, (pss_one (ps_ret (pe_and (pe_callB call_isi (by rfl) (T.bn _ (by decide +kernel)) (by decide +kernel) (pa_cons (pv 0) (pa_cons (pe_gty (T := "int") (by rfl) (T.bn _ (by decide +kernel)) (by decide +kernel)) pa_nil))) (pe_one (pe_not (pe_callB call_isi (by rfl) (T.bn _ (by decide +kernel)) (by decide +kernel) (pa_cons (pv 0) (pa_cons (pe_gty (T := "bool") (by rfl) (T.bn _ (by decide +kernel)) (by decide +kernel)) pa_nil)))))))), ?_⟩
    refine ⟨_, rfl, _, _, _, _, isNumD d, rfl, .ty "int", tyX_of hv, kit_int d, ?_⟩
    cases hn : isNumD d with
    | false =>
      refine ⟨_, rfl, iteF ?_⟩
      rw [show isIntD d = false by cases d <;> first | rfl | cases hn] at k
      exact k
    | true =>
      refine ⟨_, rfl, iteT ?_⟩
      refine ⟨_, rfl, _, _, _, _, isBoolD d, rfl, .ty "bool", tyX_of hv, kit_bool d, _, rfl, ?_⟩
      rw [show (!isBoolD d) = isIntD d by cases d <;> first | rfl | cases hn]
      exact k
/-! ### goes_on, least_period, settled -/
def spGoes : Sp := fun vs H Q _ => ∃ (l : Addr) (g : Nat → Int) (st L q : Nat) (e : Int), vs = [.ref l, .int st, .int q, .int e] ∧ H l = some (.lst (fl g L)) ∧ L ≤ 1000000 ∧ q ≤ L ∧ st ≤ L ∧
  (GO g st L q e → Q (.bl true) H) ∧ (¬ GO g st L q e → Q (.bl false) H)
abbrev s_goes_on : Stmt := top 16
abbrev N_goes_on : List Str := ["numbers", "start", "period", "step", "n"]
theorem sc_goes_on : FnScope N_goes_on ["numbers", "start", "period", "step"] (defScope s_goes_on) := ⟨rfl, rfl, rfl, by decide +kernel, rfl, by decide +kernel, by decide +kernel⟩
theorem ok_goes {f : Addr} {fd : FuncData} (F : Fun K "goes_on" "goes_on" s_goes_on f fd) (T : Tx K mg CE CN CT CB CR tM tP tF) : FnOk P w K mg base CX0 1 f fd ["numbers", "start", "period", "step"] spGoes := by
  refine F.ok sc_goes_on (fun vs H Q E h => ?_) (fun cdv A outer s H vs Q E hr h => ?_)
  · obtain ⟨l, g, st, L, q, e, rfl, _⟩ := h
    rfl
  · obtain ⟨l, g, st, L, q, e, rfl, hl, hL, hq, hst, k1, k2⟩ := h
    refine ⟨_, (pss_cons (ps_for PassesOwn.never rfl (pi_range2 rfl (T.bn _ (by decide +kernel)) (pa_cons (pv 1) (pa_cons (pe_op op_sub (pe_callB call_len_seq (by rfl) (T.bn _ (by decide +kernel)) (by decide +kernel) (pa_cons (pv 0) pa_nil)) (pv 2)) pa_nil))) (pg_name (i := 4) sc_goes_on.nd rfl (by first | exact Or.inl rfl | exact Or.inr rfl))
      (pss_one (ps_if (pt_cmpR op_ne (pe_ix ix_list (pv 0) (pe_op op_add (pv 4) (pv 2)) (fun _ _ => rfl)) (pe_op op_add (pe_ix ix_list (pv 0) (pv 4) (fun _ _ => rfl)) (pv 3)) (nomark _)) (pss_one (ps_ret pe_bl)) pss_nil)))
      (pss_one (ps_ret pe_bl))), ?_⟩
    refine ⟨_, rfl, _, rfl, l, _, rfl, .inl (SqL.of hl), _, rfl, _, _, rfl, rfl, ?_⟩
    rw [fl_len]
    refine ⟨_, _, rfl, ⟨by omega, by omega, by omega, by omega⟩, ?_⟩
    rw [show ((L : Int) - q - st).toNat = L - q - st by omega]
    refine for_range (n := L - q - st) (fun i σ H' => ∃ x4, σ = [some (.ref l), some (.int st), some (.int q), some (.int e), x4] ∧ H' = H ∧ ∀ n, st ≤ n → n < st + i → g (n + q) = g n + e) ⟨_, rfl, rfl, fun n h1 h2 => by omega⟩ ?_ ?_
    · rintro i σ H' hi ⟨x4, rfl, rfl, ih⟩
      have hi : i < L - q - st := hi
      refine ⟨_, rfl, _, rfl, _, rfl, _, _, rfl, rfl, l, _, _, .int (g (st + i + q)), rfl, rfl, SqL.of hl, atI_at (j := st + i + q) (by omega) (fl_at (by omega)), ?_⟩
      refine ⟨_, rfl, _, rfl, l, _, _, .int (g (st + i)), rfl, rfl, SqL.of hl, atI_at (j := st + i) (by omega) (fl_at (by omega)), _, rfl, _, _, rfl, rfl, rfl, _, rfl, ?_⟩
      by_cases he : g (st + i + q) = g (st + i) + e
      · refine iteNo (by rw [he, decide_eq_true rfl]; rfl) ?_
        refine ⟨_, rfl, rfl, fun n h1 h2 => ?_⟩
        by_cases hn : n = st + i
        · rw [hn]; exact he
        · exact ih n h1 (by omega)
      · refine iteYes (by rw [decide_eq_false fun z => he (V.int.inj z)]; rfl) ?_
        exact k2 fun go => he (go (st + i) (by omega) (by omega))
    · rintro σ H' ⟨x4, rfl, rfl, ih⟩
      exact k1 fun n h1 h2 => ih n h1 (by omega)
end
end K10
end
section
set_option Elab.async false
set_option autoImplicit false
set_option linter.all false
set_option maxRecDepth 100000
set_option maxHeartbeats 1000000
set_option pp.maxSteps 1500
namespace K10
open PySem PySem.Spec PyProof.Rows L2 Ls RowM
open C8 (pss_cut tCut)
open TL
theorem fl_plus (f : Nat → Int) (s p : Nat) (d : Int) (h : EQ f s p d) : fl (fun n => f (s + n)) p ++ (List.range p).map (fun i => V.int (f (s + i) + d)) = fl (fun n => f (s + n)) (2 * p) := by
  rw [show 2 * p = p + p by omega, ← fl_app]
  refine congrArg _ ?_
  unfold fl
  refine List.map_congr_left fun i hi => ?_
  show _ = V.int (f (s + (p + i)))
  rw [show s + (p + i) = s + i + p by omega, h.per (s + i) (by omega)]
section
variable {P : Program} {w : World} {K : PySem.W.Frag} {mg : Str → Option Value} {base : Heap} {CE CN CT CB CR : Addr} {tM tP tF : Tok}
def spLP (K : PySem.W.Frag) : Sp := fun vs H Q _ => ∃ (l : Addr) (f : Nat → Int) (s p : Nat) (d : Int), vs = [.ref l, .int s, .int p, .int d] ∧ H l = some (.lst (fl f (s + p))) ∧ EQ f s p d ∧ s + p ≤ 100000 ∧
  ∀ (t : Addr) (q : Nat) (e : Int) (H' : Hp), Ext H H' → H' t = some (.tup [.int q, .int e]) → LeastP f s q e → q ≤ p → Q (.ref t) H'
abbrev s_least_period : Stmt := top 17
abbrev N_least_period : List Str := ["numbers", "start", "period", "step", "turns", "number", "few"]
theorem sc_least_period : FnScope N_least_period ["numbers", "start", "period", "step"] (defScope s_least_period) := ⟨rfl, rfl, rfl, by decide +kernel, rfl, by decide +kernel, by decide +kernel⟩
theorem ok_lp {fa : Addr} {fd : FuncData} (F : Fun K "least_period" "least_period" s_least_period fa fd) (T : Tx K mg CE CN CT CB CR tM tP tF) (c_goes_on : Cal P w K mg base CX0 1 "goes_on" spGoes) : FnOk P w K mg base CX0 2 fa fd ["numbers", "start", "period", "step"] (spLP K) := by
  refine F.ok sc_least_period (fun vs H Q E h => ?_) (fun cdv A outer s0 H vs Q E hr h => ?_)
  · obtain ⟨l, f, s, p, d, rfl, _⟩ := h
    rfl
  · obtain ⟨l, f, s, p, d, rfl, hl, hq, hL, k⟩ := h
    have h4 : sizeLine = 16777216 := sizeLine_eq
    have hp1 := hq.pos
    refine ⟨_, (pss_cons (ps_set (i := 4) sc_least_period.nd rfl (by first | exact Or.inl rfl | exact Or.inr rfl) (pe_lst (StX.pa_star (pe_slice sl_list (pv 0) (po_some (pv 1)) po_none) (StX.pa_star (pe_lc (own := [("number", 5)]) rfl sc_least_period.nd (pi_list (pe_slice sl_list (pv 0) (po_some (pv 1)) po_none)) (blkOk_by (own := [("number", 5)]) (N := N_least_period) (sc := defScope s_least_period) (by decide +kernel)) (fun _ _ _ _ _ => (pg_name (i := 5) sc_least_period.nd rfl (by first | exact Or.inl rfl | exact Or.inr rfl))) (fun _ _ _ _ _ => pts_nil) (fun _ _ _ _ _ => (pe_op op_add (pv 5) (pv 3)))) pa_nil))))
      (pss_cons (ps_for PassesOwn.never rfl (pi_range2 rfl (T.bn _ (by decide +kernel)) (pa_cons pe_int (pa_cons (pv 2) pa_nil))) (pg_name (i := 6) sc_least_period.nd rfl (by first | exact Or.inl rfl | exact Or.inr rfl))
      (pss_one (ps_if ((pw_and (pt_cmpR op_eq (pe_op op_mod (pv 2) (pv 6)) pe_int (nomark _)) (pw_and (pt_cmpR op_eq (pe_op op_mod (pe_op op_mul (pv 3) (pv 6)) (pv 2)) pe_int (nomark _)) (pw_and1 (pt_val (pe_cal c_goes_on (hr.mono (by decide)) (by rfl) pass0 (pa_cons (pv 4) (pa_cons pe_int (pa_cons (pv 6) (pa_cons (pe_op op_fdiv (pe_op op_mul (pv 3) (pv 6)) (pv 2)) pa_nil)))))))))).pt (pss_one (ps_ret (pe_tup (pa_cons (pv 6) (pa_cons (pe_op op_fdiv (pe_op op_mul (pv 3) (pv 6)) (pv 2)) pa_nil))))) pss_nil)))
      (pss_one (ps_ret (pe_tup (pa_cons (pv 2) (pa_cons (pv 3) pa_nil))))))), ?_⟩
    refine ⟨_, rfl, _, rfl, s, rfl, l, _, rfl, SqL.of hl, fun c1 nc1 => ?_⟩
    rw [cutV_from _ (Int.natCast_nonneg s), Int.toNat_natCast, fl_drop, Nat.add_sub_cancel_left]
    have e1 : Ext H (upd H c1 (.lst (fl (fun n => f (s + n)) p))) := Ext.upd nc1
    have f1 : (upd H c1 (.lst (fl (fun n => f (s + n)) p))) c1 = some (.lst (fl (fun n => f (s + n)) p)) := upd_same
    generalize (upd H c1 (.lst (fl (fun n => f (s + n)) p))) = H1 at e1 f1
    refine ⟨c1, _, rfl, .inr (SqL.of f1), ?_⟩
    refine ⟨_, rfl, _, rfl, s, rfl, l, _, rfl, SqL.of (e1 _ _ hl), fun c2 nc2 => ?_⟩
    rw [cutV_from _ (Int.natCast_nonneg s), Int.toNat_natCast, fl_drop, Nat.add_sub_cancel_left]
    have e2 : Ext H1 (upd H1 c2 (.lst (fl (fun n => f (s + n)) p))) := Ext.upd nc2
    have f2 : (upd H1 c2 (.lst (fl (fun n => f (s + n)) p))) c2 = some (.lst (fl (fun n => f (s + n)) p)) := upd_same
    generalize (upd H1 c2 (.lst (fl (fun n => f (s + n)) p))) = H2 at e2 f2
    refine ⟨c2, rfl, ⟨_, SqL.of f2⟩, fun D hD => ?_⟩
    have nDc : c2 ≠ D := ne_of_none f2 hD
    refine lc_it (walk_list (xs := fl (fun n => f (s + n)) p)) (fun i Hx => Hx = upd H2 D (.lst ((List.range i).map fun j => V.int (f (s + j) + d)))) rfl (fun i Hx _ e => by rw [e]; exact SqL.of (by rw [upd_ne nDc]; exact f2)) ?_ ?_
    · rintro i x Hx H' hi rfl ⟨rfl, hx⟩
      have hi : i < p := by rw [fl_len] at hi; exact hi
      rw [fl_at hi] at hx
      cases hx
      refine ⟨rfl, _, rfl, _, rfl, _, _, rfl, rfl, _, upd_same, ?_, ?_⟩
      · rw [List.length_map, List.length_range]
        omega
      · rw [upd_upd, List.range_succ, List.map_append]
        rfl
    · rintro Hx rfl
      rw [fl_len]
      refine ⟨D, _, rfl, .inr (SqL.of upd_same), ?_⟩
      have e3 : Ext H2 (upd H2 D (.lst ((List.range p).map fun j => V.int (f (s + j) + d)))) := Ext.upd hD
      generalize (upd H2 D (.lst ((List.range p).map fun j => V.int (f (s + j) + d)))) = H3 at e3
      dsimp only [tNil]
      rw [List.append_nil, fl_plus f s p d hq]
      refine ⟨by rw [fl_len]; omega, fun tt ntt => ?_⟩
      have e4 : Ext H3 (upd H3 tt (.lst (fl (fun n => f (s + n)) (2 * p)))) := Ext.upd ntt
      have f4 : (upd H3 tt (.lst (fl (fun n => f (s + n)) (2 * p)))) tt = some (.lst (fl (fun n => f (s + n)) (2 * p))) := upd_same
      generalize (upd H3 tt (.lst (fl (fun n => f (s + n)) (2 * p)))) = H4 at e4 f4
      have e04 : Ext H H4 := e1.trans (e2.trans (e3.trans e4))
      refine ⟨_, rfl, _, _, rfl, ⟨by omega, by omega, by omega, by omega⟩, ?_⟩
      rw [show ((p : Int) - 1).toNat = p - 1 by omega]
      refine for_range (n := p - 1) (fun i σ H' => ∃ x6, σ = [some (.ref l), some (.int s), some (.int p), some (.int d), some (.ref tt), none, x6] ∧ H' = H4 ∧ ∀ r, 1 ≤ r → r < 1 + i → ¬ Fits f s p d r) ⟨_, rfl, rfl, fun r h1 h2 => by omega⟩ ?_ ?_
      · rintro i σ H' hi ⟨x6, rfl, rfl, ih⟩
        have hi : i < p - 1 := hi
        have hqp : 1 + i < p := by omega
        have next : ¬ Fits f s p d (1 + i) → ∀ r, 1 ≤ r → r < 1 + (i + 1) → ¬ Fits f s p d r := fun no r h1 h2 => by
          by_cases h : r = 1 + i
          · rw [h]; exact no
          · exact ih r h1 (by omega)
        refine ⟨_, rfl, _, rfl, _, _, rfl, rfl, (by show (0 : Int) < 1 + (i : Int); omega), rfl, _, rfl, ?_⟩
        by_cases c1 : (1 + i) ∣ p
        case neg =>
          refine iteNo (decide_eq_false fun z => c1 ?_) ⟨_, rfl, rfl, next fun ft => c1 ft.1⟩
          have := Int.dvd_of_emod_eq_zero (V.int.inj z)
          exact Int.natCast_dvd_natCast.mp (by push_cast; exact this)
        refine iteYes (decide_eq_true (congrArg V.int (Int.emod_eq_zero_of_dvd (by have := Int.natCast_dvd_natCast.mpr c1; push_cast at this; exact this)))) ?_
        refine ⟨_, rfl, _, rfl, _, _, rfl, rfl, .inr ⟨by omega, by omega⟩, _, rfl, _, _, rfl, rfl, (by show (0 : Int) < (p : Int); omega), rfl, _, rfl, ?_⟩
        by_cases c2 : (p : Int) ∣ d * (1 + i : Nat)
        case neg =>
          refine iteNo (decide_eq_false fun z => c2 ?_) ⟨_, rfl, rfl, next fun ft => c2 ft.2.1⟩
          have := Int.dvd_of_emod_eq_zero (V.int.inj z)
          push_cast
          exact this
        refine iteYes (decide_eq_true (congrArg V.int (Int.emod_eq_zero_of_dvd (by push_cast at c2; exact c2)))) ?_
        refine ⟨_, rfl, _, rfl, _, rfl, _, rfl, _, _, rfl, rfl, .inr ⟨by omega, by omega⟩, _, rfl, _, _, rfl, rfl, ⟨by omega, by omega⟩, ?_⟩
        refine ⟨tt, fun n => f (s + n), 0, 2 * p, 1 + i, d * (1 + i : Nat) / p, rfl, f4, by omega, by omega, by omega, fun go => ⟨_, rfl, iteT ?_⟩, fun no => ⟨_, rfl, iteF ⟨_, rfl, rfl, next fun ft => no ft.2.2⟩⟩⟩
        refine ⟨_, rfl, _, rfl, _, rfl, _, _, rfl, rfl, .inr ⟨by omega, by omega⟩, _, rfl, _, _, rfl, rfl, ⟨by omega, by omega⟩, (by show 2 ≤ sizeLine; decide), fun t nt => ?_⟩
        exact k t (1 + i) (d * (1 + i : Nat) / p) _ (e04.trans (Ext.upd nt)) upd_same (leastP_first hq (by omega) hqp ⟨c1, c2, go⟩ fun r h1 h2 => ih r h1 (by omega)) (by omega)
      · rintro σ H' ⟨x6, rfl, rfl, ih⟩
        refine ⟨_, rfl, _, rfl, (by show 2 ≤ sizeLine; decide), fun t nt => ?_⟩
        exact k t p d _ (e04.trans (Ext.upd nt)) upd_same (leastP_none hq fun r h1 h2 => ih r h1 (by omega)) (Nat.le_refl _)
end
end K10
end
section
set_option Elab.async false
set_option autoImplicit false
set_option linter.all false
set_option maxRecDepth 100000
set_option maxHeartbeats 1000000
set_option pp.maxSteps 1500
namespace K10
open PySem PySem.Spec PyProof.Rows L2 Ls RowM
open C8 (pss_cut tCut)
open TL
section
variable {P : Program} {w : World} {K : PySem.W.Frag} {mg : Str → Option Value} {base : Heap} {CE CN CT CB CR : Addr} {tM tP tF : Tok}
def spSet : Sp := fun vs H Q _ => ∃ (l : Addr) (f : Nat → Int) (L p : Nat) (d : Int), vs = [.ref l, .int p, .int d] ∧ H l = some (.lst (fl f L)) ∧ EQ f (L - p) p d ∧ p ≤ L ∧ L ≤ 100000 ∧
  ∀ (t x : Addr) (s q : Nat) (e : Int) (H' : Hp), Ext H H' → Can f s q e → s + q ≤ L → H' t = some (.tup [.ref x, .int q, .int e]) → H' x = some (.lst (fl f (s + q))) → Q (.ref t) H'
abbrev s_settled : Stmt := top 18
abbrev N_settled : List Str := ["numbers", "period", "step", "start"]
theorem sc_settled : FnScope N_settled ["numbers", "period", "step"] (defScope s_settled) := ⟨rfl, rfl, rfl, by decide +kernel, rfl, by decide +kernel, by decide +kernel⟩
theorem ok_settled {fa : Addr} {fd : FuncData} (F : Fun K "settled" "settled" s_settled fa fd) (T : Tx K mg CE CN CT CB CR tM tP tF) (c_least_period : Cal P w K mg base CX0 2 "least_period" (spLP K)) : FnOk P w K mg base CX0 3 fa fd ["numbers", "period", "step"] spSet := by
  refine F.ok sc_settled (fun vs H Q E h => ?_) (fun cdv A outer s0 H vs Q E hr h => ?_)
  · obtain ⟨l, f, L, p, d, rfl, _⟩ := h
    rfl
  · obtain ⟨l, f, L, p, d, rfl, hl, hq, hpL, hL, k⟩ := h
    have h4 : sizeLine = 16777216 := sizeLine_eq
    have hp1 := hq.pos
    refine ⟨_, (pss_cons (ps_set (i := 3) sc_settled.nd rfl (by first | exact Or.inl rfl | exact Or.inr rfl) (pe_op op_sub (pe_callB call_len_seq (by rfl) (T.bn _ (by decide +kernel)) (by decide +kernel) (pa_cons (pv 0) pa_nil)) (pv 1)))
      (pss_cons (ps_asg (pe_cal c_least_period (hr.mono (by decide)) (by rfl) pass0 (pa_cons (pv 0) (pa_cons (pv 3) (pa_cons (pv 1) (pa_cons (pv 2) pa_nil))))) (pg_tup rfl (pgs_cons (pg_name (i := 1) sc_settled.nd rfl (by first | exact Or.inl rfl | exact Or.inr rfl)) (pgs_cons (pg_name (i := 2) sc_settled.nd rfl (by first | exact Or.inl rfl | exact Or.inr rfl)) pgs_nil))))
      (pss_cons (ps_while PassesOwn.never ((pw_and (pt_cmpR op_gt (pv 3) pe_int (nomark _)) (pw_and1 (pt_cmpR op_eq (pe_ix ix_list (pv 0) (pe_op op_add (pe_op op_sub (pv 3) pe_int) (pv 1)) (fun _ _ => rfl)) (pe_op op_add (pe_ix ix_list (pv 0) (pe_op op_sub (pv 3) pe_int) (fun _ _ => rfl)) (pv 2)) (nomark _))))).pt
      (pss_one (ps_set (i := 3) sc_settled.nd rfl (by first | exact Or.inl rfl | exact Or.inr rfl) (pe_op op_sub (pv 3) pe_int))))
      (pss_one (ps_ret (pe_tup (pa_cons (pe_slice sl_list (pv 0) po_none (po_some (pe_op op_add (pv 3) (pv 1)))) (pa_cons (pv 1) (pa_cons (pv 2) pa_nil))))))))), ?_⟩
    refine ⟨_, rfl, l, _, rfl, .inl (SqL.of hl), _, rfl, _, _, rfl, rfl, ?_⟩
    rw [fl_len]
    refine ⟨_, rfl, _, rfl, _, rfl, _, rfl, l, f, L - p, p, d, by show [V.ref l, V.int ((L : Int) - p), V.int p, V.int d] = _; rw [show ((L : Int) - p) = ((L - p : Nat) : Int) by omega], by rw [Nat.sub_add_cancel hpL]; exact hl, hq, by omega, fun t q e H1 e1 f1 lp hqp => ?_⟩
    refine ⟨t, _, rfl, SqT.of f1, rfl, _, _, rfl, _, _, rfl, rfl, ?_⟩
    have hl1 := e1 _ _ hl
    refine ⟨fun m σ H' => σ = [some (.ref l), some (.int q), some (.int e), some (.int m)] ∧ H' = H1 ∧ m + p ≤ L ∧ LeastP f m q e, ⟨L - p, by rw [show ((L - p : Nat) : Int) = (L : Int) - p by omega]; rfl, rfl, by omega, lp⟩, ?_⟩
    rintro m σ H' ⟨rfl, rfl, hm, lpm⟩
    have fin : Can f m q e → ∀ c : Addr, H' c = none → ∀ t : Addr, (upd H' c (.lst (fl f (m + q)))) t = none → Q (.ref t) (upd (upd H' c (.lst (fl f (m + q)))) t (.tup [.ref c, .int q, .int e])) := fun can c nc t nt =>
      k t c m q e _ (e1.trans ((Ext.upd nc).trans (Ext.upd nt))) can (by omega) upd_same (by rw [upd_ne (ne_of_none upd_same nt)]; exact upd_same)
    have out : Can f m q e → tRet (tTup (tCons (tSl (rSlL K) (tVar 0) tNoPart (tPart (tOp (rI0 fun i j => V.int (i + j)) (tVar 3) (tVar 1)))) (tCons (tVar 1) (tCons (tVar 2) tNil)))) { nx := fun x H' => Q V.non H', rt := Q } [some (.ref l), some (.int q), some (.int e), some (.int m)] H' := fun can => by
      refine ⟨_, rfl, _, rfl, _, rfl, _, _, rfl, rfl, _, rfl, l, _, rfl, SqL.of hl1, fun c nc => ?_⟩
      rw [cutV_to _ (by omega), show ((m : Int) + (q : Int)).toNat = m + q by omega, fl_take f (m + q) L (by omega)]
      exact ⟨_, rfl, _, rfl, (by show 3 ≤ sizeLine; decide), fun t nt => fin can c nc t nt⟩
    refine ⟨_, rfl, _, _, rfl, rfl, _, rfl, ?_⟩
    by_cases h0 : 0 < m
    case neg => exact iteNo (decide_eq_false (by omega)) (out (lpm.can (.inl (by omega))))
    refine iteYes (decide_eq_true (by omega)) ?_
    obtain ⟨m, rfl⟩ : ∃ m', m = m' + 1 := ⟨m - 1, by omega⟩
    refine ⟨_, rfl, _, rfl, _, _, rfl, rfl, _, rfl, _, _, rfl, rfl, l, _, _, .int (f (m + q)), rfl, rfl, SqL.of hl1, atI_at (j := m + q) (by omega) (fl_at (by omega)), ?_⟩
    refine ⟨_, rfl, _, rfl, _, _, rfl, rfl, l, _, _, .int (f m), rfl, rfl, SqL.of hl1, atI_at (j := m) (by omega) (fl_at (by omega)), _, rfl, _, _, rfl, rfl, rfl, _, rfl, ?_⟩
    by_cases he : f (m + q) = f m + e
    case neg => exact iteNo (decide_eq_false fun z => he (V.int.inj z)) (out (lpm.can (.inr he)))
    refine iteYes (decide_eq_true (congrArg V.int he)) ?_
    refine ⟨fun σ' H'' => σ' = [some (.ref l), some (.int q), some (.int e), some (.int m)] ∧ H'' = H' ∧ m + p ≤ L ∧ LeastP f m q e, fun σ' H'' h => ⟨m, by omega, h⟩, ?_⟩
    refine ⟨_, rfl, _, _, rfl, rfl, ?_⟩
    exact ⟨by show [some (V.ref l), some (V.int q), some (V.int e), some (V.int (((m + 1 : Nat) : Int) - 1))] = _; rw [show ((m + 1 : Nat) : Int) - 1 = (m : Int) by omega], rfl, by omega, lpm.back he⟩
end
end K10
end
section
set_option Elab.async false
set_option autoImplicit false
set_option linter.all false
set_option maxRecDepth 100000
set_option maxHeartbeats 1000000
set_option pp.maxSteps 1500
namespace K10
open PySem PySem.Spec PyProof.Rows L2 Ls RowM
open C8 (pss_cut tCut)
open TL
/-! ### rows -/
def Errs (C : Addr) (f : Str) (v : V) (H : Hp) (E : XK) : Prop := ∀ dd H', Ext H H' → nw H H' dd = some (.xd [(f, v)]) → E (.ref C) (some dd) H'
theorem Errs.ext {C : Addr} {f : Str} {v : V} {H H1 : Hp} {E : XK} (h : Errs C f v H E) (e : Ext H H1) : Errs C f v H1 E := fun dd H' e' q => h dd H' (e.trans e') (nw_back e _ _ q)
theorem Errs.at {C : Addr} {f : Str} {v : V} {H H1 : Hp} {E : XK} (h : Errs C f v H E) (e : Ext H H1) {dd : Addr} (nd : H1 dd = none) : E (.ref C) (some dd) (upd H1 dd (.xd [(f, v)])) :=
  h dd _ (e.trans (Ext.upd nd)) (by rw [nw_at (ext_free e nd)]; exact upd_same)
/-- all stays but the object at x -/
def KeepX (x : Addr) (H H' : Hp) : Prop := ∀ b o, H b = some o → b ≠ x → H' b = some o
abbrev rowFs (t : Addr) (p : Nat) (d : Int) : List (Str × V) := [("told", .ref t), ("many", .int p), ("gain", .int d)]
/-- a row stands at a: its numbers f, from the start s on by the period p and the step d -/
structure RowAt (CR : Addr) (H : Hp) (a : Addr) (f : Nat → Int) (s p : Nat) (d : Int) : Prop where
  ex : ∃ dx t, H a = some (.ins CR dx (rowFs t p d)) ∧ H t = some (.tup (fl f (s + p)))
  can : Can f s p d
  le : s + p ≤ 2000
theorem RowAt.ext {CR : Addr} {H H' : Hp} {a : Addr} {f : Nat → Int} {s p : Nat} {d : Int} (h : RowAt CR H a f s p d) (e : Ext H H') : RowAt CR H' a f s p d := by
  obtain ⟨dx, t, h1, h2⟩ := h.ex
  exact ⟨⟨dx, t, e _ _ h1, e _ _ h2⟩, h.can, h.le⟩
theorem RowAt.extN {CR : Addr} {H H' : Hp} {a : Addr} {f : Nat → Int} {s p : Nat} {d : Int} (h : RowAt CR H a f s p d) (e : LamX.ExtN H H') : RowAt CR H' a f s p d := by
  obtain ⟨dx, t, h1, h2⟩ := h.ex
  exact ⟨⟨dx, t, e _ _ h1 fun ps z => (by cases z), e _ _ h2 fun ps z => (by cases z)⟩, h.can, h.le⟩
/-- what the top says of the class -/
structure ClR (K : PySem.W.Frag) (CR : Addr) : Prop where
  cl : Cls K CR
  nT : NoAttr K CR "told"
  nM : NoAttr K CR "many"
  nG : NoAttr K CR "gain"
theorem kit_seqL {K : PySem.W.Frag} : PySem.W.kitAny K (.type "list") [.type "list", .type "tuple"] = some true := by
  have k1 : PySem.W.kitOne K (.type "list") (.type "list") = some true := kit_ty (by decide +kernel)
  have k2 : PySem.W.kitOne K (.type "list") (.type "tuple") = some false := kit_ty (by decide +kernel)
  unfold PySem.W.kitAny
  simp [k1, k2]
theorem kit_seqT {K : PySem.W.Frag} : PySem.W.kitAny K (.type "tuple") [.type "list", .type "tuple"] = some true := by
  have k1 : PySem.W.kitOne K (.type "tuple") (.type "list") = some false := kit_ty (by decide +kernel)
  have k2 : PySem.W.kitOne K (.type "tuple") (.type "tuple") = some true := kit_ty (by decide +kernel)
  exact kitAny_cons k1 (fun _ => kitAny_cons k2 (fun z => nomatch z) fun _ => rfl) (fun z => nomatch z)
section
variable {P : Program} {w : World} {K : PySem.W.Frag} {mg : Str → Option Value} {base : Heap} {CE CN CT CB CR : Addr} {tM tP tF : Tok}
/-! ### Row(..) of numbers -/
def spRow0 (CT CR : Addr) : Sp := fun vs H Q E => ∃ (x dx l : Addr) (f : Nat → Int) (L p : Nat) (d : Int), vs = [.ref x, .ref l, .int p, .int d] ∧ H x = some (.ins CR dx []) ∧ (H l = some (.lst (fl f L)) ∨ H l = some (.tup (fl f L))) ∧ EQ f (L - p) p d ∧ p ≤ L ∧ L ≤ 100000 ∧
  ∀ s q e, Can f s q e → s + q ≤ L → (s + q ≤ 2000 → ∀ H', KeepX x H H' → RowAt CR H' x f s q e → Q .non H') ∧ (2000 < s + q → ∀ H1, KeepX x H H1 → Errs CT "most" (.int 2000) H1 E)
abbrev s_Row_init : Stmt := inClass (top 31) 1
abbrev N_Row_init : List Str := ["self", "numbers", "period", "step", "value", "first", "many", "gain"]
theorem sc_Row_init : FnScope N_Row_init ["self", "numbers", "period", "step"] (defScope s_Row_init) := ⟨rfl, rfl, rfl, by decide +kernel, rfl, by decide +kernel, by decide +kernel⟩
theorem ok_Row_init {fa : Addr} {fd : FuncData} (F : Fun K "__init__" "Row.__init__" s_Row_init fa fd) (T : Tx K mg CE CN CT CB CR tM tP tF) (hC : ClR K CR) (c_is_integer : Cal P w K mg base CX0 1 "is_integer" spInt) (c_settled : Cal P w K mg base CX0 3 "settled" spSet)
    (x_BadNumber : Xer P w K mg base CN "BadNumber" ["value"]) (x_TooMany : Xer P w K mg base CT "TooMany" ["most"]) : FnOk P w K mg base (L2.CX P w) 4 fa fd ["self", "numbers", "period", "step"] (spRow0 CT CR) := by
  refine F.okX sc_Row_init (fun vs H Q E h => ?_) (fun cdv A outer s0 H vs Q E hr h => ?_)
  · obtain ⟨x, dx, l, f, L, p, d, rfl, _⟩ := h
    rfl
  · obtain ⟨x, dx, l, f, L, p, d, rfl, hx, hl, hq, hpL, hL, k⟩ := h
    have h4 : sizeLine = 16777216 := sizeLine_eq
    have hp1 := hq.pos
    refine ⟨_, (pss_cons (ps_if ((pw_or (pt_not (pt_val (pe_callB call_isiT (by rfl) (T.bn _ (by decide +kernel)) (by decide +kernel) (pa_cons (pv 1) (pa_cons (pe_tup (pa_cons (pe_gty (T := "list") (by rfl) (T.bn _ (by decide +kernel)) (by decide +kernel)) (pa_cons (pe_gty (T := "tuple") (by rfl) (T.bn _ (by decide +kernel)) (by decide +kernel)) pa_nil))) pa_nil))))) (pw_or1 (pt_cmpR op_eq (pe_callB call_len_seq (by rfl) (T.bn _ (by decide +kernel)) (by decide +kernel) (pa_cons (pv 1) pa_nil)) pe_int (nomark _))))).pt (pss_one (ps_raise rfl tkC (pmk_err x_BadNumber (hr.mono (by decide)) (by rfl) (pa_cons (pv 1) pa_nil)))) pss_nil)
      (pss_cons (ps_if ((pw_or (pt_not (pt_val (pe_cal c_is_integer (hr.mono (by decide)) (by rfl) pass0 (pa_cons (pv 2) pa_nil)))) (pw_or1 (pt_not (pt_chain op_le op_le pe_int (pv 2) (pe_callB call_len_seq (by rfl) (T.bn _ (by decide +kernel)) (by decide +kernel) (pa_cons (pv 1) pa_nil))))))).pt (pss_one (ps_raise rfl tkC (pmk_err x_BadNumber (hr.mono (by decide)) (by rfl) (pa_cons (pv 2) pa_nil)))) pss_nil)
      (pss_cons (ps_for (passes_of rfl) rfl (pi_tup (pe_tup (pa_cons (pv 3) (StX.pa_star (pv 1) pa_nil)))) (pg_name (i := 4) sc_Row_init.nd rfl (by first | exact Or.inl rfl | exact Or.inr rfl))
      (pss_one (ps_if (pt_not (pt_val (pe_cal c_is_integer (hr.mono (by decide)) (by rfl) pass0 (pa_cons (pv 4) pa_nil)))) (pss_one (ps_raise rfl tkC (pmk_err x_BadNumber (hr.mono (by decide)) (by rfl) (pa_cons (pv 4) pa_nil)))) pss_nil)))
      (pss_cons (ps_asg (pe_cal c_settled (hr.mono (by decide)) (by rfl) pass0 (pa_cons (pe_callTy call_list_of (by rfl) (T.bn _ (by decide +kernel)) (by decide +kernel) (pa_cons (pv 1) pa_nil)) (pa_cons (pv 2) (pa_cons (pv 3) pa_nil)))) (pg_tup rfl (pgs_cons (pg_name (i := 5) sc_Row_init.nd rfl (by first | exact Or.inl rfl | exact Or.inr rfl)) (pgs_cons (pg_name (i := 6) sc_Row_init.nd rfl (by first | exact Or.inl rfl | exact Or.inr rfl)) (pgs_cons (pg_name (i := 7) sc_Row_init.nd rfl (by first | exact Or.inl rfl | exact Or.inr rfl)) pgs_nil)))))
      (pss_cons (ps_if (pt_cmpR op_gt (pe_callB call_len_seq (by rfl) (T.bn _ (by decide +kernel)) (by decide +kernel) (pa_cons (pv 5) pa_nil)) (pe_gint (by rfl) T.m_MOST_NUMBERS) (nomark _)) (pss_one (ps_raise rfl tkC (pmk_err x_TooMany (hr.mono (by decide)) (by rfl) (pa_cons (pe_gint (by rfl) T.m_MOST_NUMBERS) pa_nil)))) pss_nil)
      (pss_cons (ps_fld (pv 0) (pe_callTy call_tuple_of (by rfl) (T.bn _ (by decide +kernel)) (by decide +kernel) (pa_cons (pv 5) pa_nil)) rfl)
      (pss_cons (ps_fld (pv 0) (pv 6) rfl)
      (pss_one (ps_fld (pv 0) (pv 7) rfl))))))))), ?_⟩
    obtain ⟨ty, hty, kty⟩ : ∃ ty, (∀ H', Ext H H' → TyX K H' (.ref l) ty) ∧ PySem.W.kitAny K ty [.type "list", .type "tuple"] = some true := by
      rcases hl with h | h
      · exact ⟨_, fun H' e => .base (.lst (e _ _ h)), kit_seqL⟩
      · exact ⟨_, fun H' e => .base (.tup (e _ _ h)), kit_seqT⟩
    have sq : ∀ {H' : Hp}, Ext H H' → SqL K H' l (fl f L) ∨ SqT K H' l (fl f L) := fun {H'} e => hl.elim (fun h => .inl (SqL.of (e _ _ h))) fun h => .inr (SqT.of (e _ _ h))
    refine ⟨_, rfl, (by show 2 ≤ sizeLine; decide), fun tp ntp => ?_⟩
    have e1 : Ext H (upd H tp (.tup [.ty "list", .ty "tuple"])) := Ext.upd ntp
    have f1 : (upd H tp (.tup [.ty "list", .ty "tuple"])) tp = some (.tup [.ty "list", .ty "tuple"]) := upd_same
    refine ⟨.ref l, tp, [.ty "list", .ty "tuple"], ty, _, true, rfl, f1, .cons (.ty _) (.cons (.ty _) .nil), hty _ e1, kty, ?_⟩
    generalize (upd H tp (.tup [.ty "list", .ty "tuple"])) = H1 at e1 f1
    refine ⟨_, rfl, iteF ?_⟩
    refine ⟨_, rfl, l, _, rfl, sq e1, rfl, _, rfl, ?_⟩
    rw [fl_len]
    refine iteNo (decide_eq_false fun z => by have := V.int.inj z; omega) ?_
    refine ⟨_, rfl, _, .int p, rfl, .int _, _, rfl, iteF ?_⟩
    refine ⟨_, rfl, _, _, rfl, rfl, true, congrArg V.bl (decide_eq_true (by omega)), iteT ?_⟩
    refine ⟨_, rfl, l, _, rfl, sq e1, _, _, rfl, rfl, ?_⟩
    rw [fl_len]
    refine ⟨_, rfl, iteNo (by rw [decide_eq_true (show (p : Int) ≤ L by omega)]; rfl) ?_⟩
    refine ⟨_, rfl, _, rfl, l, _, rfl, (sq e1).symm, ?_⟩
    refine ⟨(by show (V.int d :: (fl f L ++ [])).length ≤ sizeLine; rw [List.append_nil, List.length_cons, fl_len]; omega), fun tt ntt => ?_⟩
    have e2 : Ext H1 (upd H1 tt (.tup (V.int d :: (fl f L ++ [])))) := Ext.upd ntt
    have f2 : (upd H1 tt (.tup (V.int d :: (fl f L ++ [])))) tt = some (.tup (V.int d :: (fl f L ++ []))) := upd_same
    generalize (upd H1 tt (.tup (V.int d :: (fl f L ++ [])))) = H2 at e2 f2
    rw [List.append_nil] at f2
    have e02 := e1.trans e2
    have numI : ∀ (i : Nat) (v : V), (V.int d :: fl f L)[i]? = some v → ∃ j, v = .int j := fun i v hv => by
      cases i with
      | zero => exact ⟨d, by simpa using hv.symm⟩
      | succ i =>
        rw [List.getElem?_cons_succ] at hv
        have hi : i < L := by
          have := (List.getElem?_eq_some_iff.mp hv).1
          rw [fl_len] at this
          exact this
        rw [fl_at hi] at hv
        exact ⟨_, (Option.some.inj hv).symm⟩
    refine ⟨tt, rfl, ⟨_, SqT.of f2⟩, for_it (walk_tup (K := K) (xs := V.int d :: fl f L)) (fun i σ H' => ∃ x4, σ = [some (.ref x), some (.ref l), some (.int p), some (.int d), x4, none, none, none] ∧ H' = H2) ⟨_, rfl, rfl⟩ (fun i σ H' _ ⟨_, _, e⟩ => SqT.of (by rw [e]; exact f2)) ?_ ?_⟩
    · rintro i v σ H' _ hi ⟨x4, rfl, rfl⟩ ⟨rfl, hv⟩
      obtain ⟨j, rfl⟩ := numI i v hv
      refine ⟨_, rfl, _, .int j, rfl, .int _, _, rfl, iteF ?_⟩
      exact ⟨_, rfl, rfl⟩
    · rintro σ H' ⟨x4, rfl, rfl⟩
      refine ⟨_, rfl, l, _, rfl, sq e02, fun N nN => ?_⟩
      have e3 : Ext H' (upd H' N (.lst (fl f L))) := Ext.upd nN
      refine ⟨_, rfl, _, rfl, N, f, L, p, d, rfl, upd_same, hq, hpL, hL, fun t y s q e H4 e4 can hsq f4 g4 => ?_⟩
      have e04 := e02.trans (e3.trans e4)
      obtain ⟨kOk, kErr⟩ := k s q e can hsq
      refine ⟨t, _, rfl, SqT.of f4, rfl, _, _, rfl, _, _, rfl, _, _, rfl, rfl, ?_⟩
      refine ⟨_, rfl, y, _, rfl, .inl (SqL.of g4), _, _, rfl, rfl, _, rfl, ?_⟩
      rw [fl_len]
      by_cases hm : 2000 < s + q
      · refine iteYes (decide_eq_true (by omega)) ?_
        exact ⟨rfl, (by show 1 ≤ 1000; decide), fun dd nd => (kErr hm H4 fun b o q _ => e04 b o q).at Ext.rfl' nd⟩
      refine iteNo (decide_eq_false (by omega)) ?_
      refine ⟨_, rfl, y, _, rfl, .inl ⟨SqL.of g4, fun u nu => ?_⟩⟩
      have hx4 := e04 _ _ hx
      have nux : u ≠ x := (ne_of_none hx4 nu).symm
      refine ⟨_, rfl, x, CR, dx, _, rfl, by rw [upd_ne nux.symm]; exact hx4, hC.cl, hC.nT, (by show 0 < 1000; decide), ?_⟩
      refine ⟨_, rfl, _, rfl, x, CR, dx, _, rfl, upd_same, hC.cl, hC.nM, (by show 1 < 1000; decide), ?_⟩
      refine ⟨_, rfl, _, rfl, x, CR, dx, _, rfl, upd_same, hC.cl, hC.nG, (by show 2 < 1000; decide), ?_⟩
      refine kOk (by omega) _ (fun b o hb hbx => ?_) ⟨⟨dx, u, upd_same, ?_⟩, can, by omega⟩
      · have h5 := e04 _ _ hb
        rw [upd_ne hbx, upd_ne hbx, upd_ne hbx, upd_ne (ne_of_none h5 nu)]
        exact h5
      · rw [upd_ne nux, upd_ne nux, upd_ne nux]
        exact upd_same
end
end K10
end
section
set_option Elab.async false
set_option autoImplicit false
set_option linter.all false
set_option maxRecDepth 100000
set_option maxHeartbeats 1000000
set_option pp.maxSteps 1500
namespace K10
open PySem PySem.Spec PyProof.Rows L2 Ls RowM
open C8 (pss_cut tCut)
open TL
/-! ### what a row tells -/
def big : Nat := 2 ^ 900
section
variable {P : Program} {w : World} {K : PySem.W.Frag} {mg : Str → Option Value} {base : Heap} {CE CN CT CB CR : Addr} {tM tP tF : Tok}
def spNeed (CN : Addr) : Sp := fun vs H Q E => ∃ (v : V) (d : PyData) (m : Int), vs = [v, .int m] ∧ TV H v d ∧ (∀ i, d = .int i → m ≤ i → Q .non H) ∧ ((∀ i, d = .int i → i < m) → Errs CN "value" v H E)
abbrev s_need_from : Stmt := top 12
abbrev N_need_from : List Str := ["value", "least"]
theorem sc_need_from : FnScope N_need_from ["value", "least"] (defScope s_need_from) := ⟨rfl, rfl, rfl, by decide +kernel, rfl, by decide +kernel, by decide +kernel⟩
theorem ok_need {fa : Addr} {fd : FuncData} (F : Fun K "need_from" "need_from" s_need_from fa fd) (T : Tx K mg CE CN CT CB CR tM tP tF) (c_is_integer : Cal P w K mg base CX0 1 "is_integer" spInt) (x_BadNumber : Xer P w K mg base CN "BadNumber" ["value"]) :
    FnOk P w K mg base (L2.CX P w) 3 fa fd ["value", "least"] (spNeed CN) := by
  refine F.okX sc_need_from (fun vs H Q E h => ?_) (fun cdv A outer s0 H vs Q E hr h => ?_)
  · obtain ⟨v, d, m, rfl, _⟩ := h
    rfl
  · obtain ⟨v, d, m, rfl, hv, k1, k2⟩ := h
    refine ⟨_, (pss_one (ps_if ((pw_or (pt_not (pt_val (pe_cal c_is_integer (hr.mono (by decide)) (by rfl) pass0 (pa_cons (pv 0) pa_nil)))) (pw_or1 (pt_cmpR op_lt (pv 0) (pv 1) (nomark _))))).pt (pss_one (ps_raise rfl tkC (pmk_err x_BadNumber (hr.mono (by decide)) (by rfl) (pa_cons (pv 0) pa_nil)))) pss_nil)), ?_⟩
    have bad : (∀ i, d = .int i → i < m) → ∀ dd, H dd = none → E (.ref CN) (some dd) (upd H dd (.xd [("value", v)])) := fun h dd nd => (k2 h).at Ext.rfl' nd
    refine ⟨_, rfl, v, d, rfl, hv, _, rfl, ?_⟩
    cases hi : isIntD d with
    | false =>
      refine iteT ?_
      exact ⟨_, rfl, rfl, (by show 1 ≤ 1000; decide), bad fun i e => by rw [e] at hi; cases hi⟩
    | true =>
      obtain ⟨i, rfl⟩ := intD hi
      cases tv_int hv
      refine iteF ?_
      refine ⟨_, rfl, _, rfl, _, _, rfl, rfl, _, rfl, ?_⟩
      by_cases hm : i < m
      · refine iteYes (decide_eq_true hm) ?_
        exact ⟨_, rfl, rfl, (by show 1 ≤ 1000; decide), bad fun j e => by cases e; exact hm⟩
      · exact iteNo (decide_eq_false hm) (k1 i rfl (by omega))
def spStart (CR : Addr) : Sp := fun vs H Q _ => ∃ (a : Addr) (f : Nat → Int) (s p : Nat) (d : Int), vs = [.ref a] ∧ RowAt CR H a f s p d ∧ Q (.int s) H
def spPeriod (CR : Addr) : Sp := fun vs H Q _ => ∃ (a : Addr) (f : Nat → Int) (s p : Nat) (d : Int), vs = [.ref a] ∧ RowAt CR H a f s p d ∧ Q (.int p) H
def spStep (CR : Addr) : Sp := fun vs H Q _ => ∃ (a : Addr) (f : Nat → Int) (s p : Nat) (d : Int), vs = [.ref a] ∧ RowAt CR H a f s p d ∧ Q (.int d) H
def spFirst (CR : Addr) : Sp := fun vs H Q _ => ∃ (a : Addr) (f : Nat → Int) (s p : Nat) (d : Int), vs = [.ref a] ∧ RowAt CR H a f s p d ∧ ∀ t, H t = some (.tup (fl f (s + p))) → Q (.ref t) H
abbrev s_Row_start : Stmt := inClass (top 31) 4
abbrev N_Row_start : List Str := ["self"]
theorem sc_Row_start : FnScope N_Row_start ["self"] (defScope s_Row_start) := ⟨rfl, rfl, rfl, by decide +kernel, rfl, by decide +kernel, by decide +kernel⟩
theorem ok_start {fa : Addr} {fd : FuncData} (F : Fun K "start" "Row.start" s_Row_start fa fd) (T : Tx K mg CE CN CT CB CR tM tP tF) (hC : ClR K CR) : FnOk P w K mg base CX0 1 fa fd ["self"] (spStart CR) := by
  refine F.ok sc_Row_start (fun vs H Q E h => ?_) (fun cdv A outer s0 H vs Q E hr h => ?_)
  · obtain ⟨a, f, s, p, d, rfl, _⟩ := h
    rfl
  · obtain ⟨a, f, s, p, d, rfl, h, k⟩ := h
    obtain ⟨dx, t, h1, h2⟩ := h.ex
    refine ⟨_, (pss_one (ps_ret (pe_op op_sub (pe_callB call_len_seq (by rfl) (T.bn _ (by decide +kernel)) (by decide +kernel) (pa_cons (pe_fld (pv 0) rfl) pa_nil)) (pe_fld (pv 0) rfl)))), ?_⟩
    refine ⟨_, rfl, a, CR, dx, _, _, rfl, h1, hC.cl, hC.nT, rfl, t, _, rfl, .inr (SqT.of h2), ?_⟩
    rw [fl_len]
    refine ⟨_, rfl, a, CR, dx, _, _, rfl, h1, hC.cl, hC.nM, rfl, _, _, rfl, rfl, ?_⟩
    have e : ((s + p : Nat) : Int) - p = s := by omega
    show Q (.int (((s + p : Nat) : Int) - p)) H
    rw [e]
    exact k
abbrev s_Row_period : Stmt := inClass (top 31) 5
abbrev N_Row_period : List Str := ["self"]
theorem sc_Row_period : FnScope N_Row_period ["self"] (defScope s_Row_period) := ⟨rfl, rfl, rfl, by decide +kernel, rfl, by decide +kernel, by decide +kernel⟩
theorem ok_period {fa : Addr} {fd : FuncData} (F : Fun K "period" "Row.period" s_Row_period fa fd) (T : Tx K mg CE CN CT CB CR tM tP tF) (hC : ClR K CR) : FnOk P w K mg base CX0 1 fa fd ["self"] (spPeriod CR) := by
  refine F.ok sc_Row_period (fun vs H Q E h => ?_) (fun cdv A outer s0 H vs Q E hr h => ?_)
  · obtain ⟨a, f, s, p, d, rfl, _⟩ := h
    rfl
  · obtain ⟨a, f, s, p, d, rfl, h, k⟩ := h
    obtain ⟨dx, t, h1, h2⟩ := h.ex
    refine ⟨_, (pss_one (ps_ret (pe_fld (pv 0) rfl))), ?_⟩
    exact ⟨_, rfl, a, CR, dx, _, _, rfl, h1, hC.cl, hC.nM, rfl, k⟩
abbrev s_Row_step : Stmt := inClass (top 31) 6
abbrev N_Row_step : List Str := ["self"]
theorem sc_Row_step : FnScope N_Row_step ["self"] (defScope s_Row_step) := ⟨rfl, rfl, rfl, by decide +kernel, rfl, by decide +kernel, by decide +kernel⟩
theorem ok_step {fa : Addr} {fd : FuncData} (F : Fun K "step" "Row.step" s_Row_step fa fd) (T : Tx K mg CE CN CT CB CR tM tP tF) (hC : ClR K CR) : FnOk P w K mg base CX0 1 fa fd ["self"] (spStep CR) := by
  refine F.ok sc_Row_step (fun vs H Q E h => ?_) (fun cdv A outer s0 H vs Q E hr h => ?_)
  · obtain ⟨a, f, s, p, d, rfl, _⟩ := h
    rfl
  · obtain ⟨a, f, s, p, d, rfl, h, k⟩ := h
    obtain ⟨dx, t, h1, h2⟩ := h.ex
    refine ⟨_, (pss_one (ps_ret (pe_fld (pv 0) rfl))), ?_⟩
    exact ⟨_, rfl, a, CR, dx, _, _, rfl, h1, hC.cl, hC.nG, rfl, k⟩
abbrev s_Row_first : Stmt := inClass (top 31) 7
abbrev N_Row_first : List Str := ["self"]
theorem sc_Row_first : FnScope N_Row_first ["self"] (defScope s_Row_first) := ⟨rfl, rfl, rfl, by decide +kernel, rfl, by decide +kernel, by decide +kernel⟩
theorem ok_first {fa : Addr} {fd : FuncData} (F : Fun K "first" "Row.first" s_Row_first fa fd) (T : Tx K mg CE CN CT CB CR tM tP tF) (hC : ClR K CR) : FnOk P w K mg base CX0 1 fa fd ["self"] (spFirst CR) := by
  refine F.ok sc_Row_first (fun vs H Q E h => ?_) (fun cdv A outer s0 H vs Q E hr h => ?_)
  · obtain ⟨a, f, s, p, d, rfl, _⟩ := h
    rfl
  · obtain ⟨a, f, s, p, d, rfl, h, k⟩ := h
    obtain ⟨dx, t, h1, h2⟩ := h.ex
    refine ⟨_, (pss_one (ps_ret (pe_fld (pv 0) rfl))), ?_⟩
    exact ⟨_, rfl, a, CR, dx, _, _, rfl, h1, hC.cl, hC.nT, rfl, k t h2⟩
/-- the number at n, n not too great for a product -/
def spNum (CR : Addr) : Sp := fun vs H Q _ => ∃ (a : Addr) (f : Nat → Int) (s p : Nat) (d : Int) (n : Nat), vs = [.ref a, .int n] ∧ RowAt CR H a f s p d ∧ d.natAbs < big ∧ n < big ∧ Q (.int (f n)) H
abbrev s_Row_number : Stmt := inClass (top 31) 9
abbrev N_Row_number : List Str := ["self", "n", "rounds", "rest"]
theorem sc_Row_number : FnScope N_Row_number ["self", "n"] (defScope s_Row_number) := ⟨rfl, rfl, rfl, by decide +kernel, rfl, by decide +kernel, by decide +kernel⟩
theorem ok_number {fa : Addr} {fd : FuncData} (F : Fun K "number" "Row.number" s_Row_number fa fd) (T : Tx K mg CE CN CT CB CR tM tP tF) (hC : ClR K CR) (c_start : Prp P w K mg base CX0 1 (· = CR) "start" (spStart CR)) : FnOk P w K mg base CX0 3 fa fd ["self", "n"] (spNum CR) := by
  refine F.ok sc_Row_number (fun vs H Q E h => ?_) (fun cdv A outer s0 H vs Q E hr h => ?_)
  · obtain ⟨a, f, s, p, d, n, rfl, _⟩ := h
    rfl
  · obtain ⟨a, f, s, p, d, n, rfl, h, hd, hn, k⟩ := h
    obtain ⟨dx, t, h1, h2⟩ := h.ex
    have hp := h.can.eq.pos
    have hle := h.le
    refine ⟨_, (pss_cons (ps_if (pt_cmpR op_lt (pv 1) (pe_callB call_len_seq (by rfl) (T.bn _ (by decide +kernel)) (by decide +kernel) (pa_cons (pe_fld (pv 0) rfl) pa_nil)) (nomark _)) (pss_one (ps_ret (pe_ix ix_tup (pe_fld (pv 0) rfl) (pv 1) (fun _ _ => rfl)))) pss_nil)
      (pss_cons (ps_par (i := 2) (j := 3) rfl sc_Row_number.nd rfl rfl (by decide) rfl rfl (pa_cons (pe_op op_fdiv (pe_op op_sub (pv 1) ((pe_prp c_start (hr.mono (by decide)) pass0) (pv 0))) (pe_fld (pv 0) rfl)) (pa_cons (pe_op op_mod (pe_op op_sub (pv 1) ((pe_prp c_start (hr.mono (by decide)) pass0) (pv 0))) (pe_fld (pv 0) rfl)) pa_nil)) (by rfl))
      (pss_one (ps_ret (pe_op op_add (pe_ix ix_tup (pe_fld (pv 0) rfl) (pe_op op_add ((pe_prp c_start (hr.mono (by decide)) pass0) (pv 0)) (pv 3)) (fun _ _ => rfl)) (pe_op op_mulW (pv 2) (pe_fld (pv 0) rfl))))))), ?_⟩
    refine ⟨_, rfl, _, rfl, a, CR, dx, _, _, rfl, h1, hC.cl, hC.nT, rfl, t, _, rfl, .inr (SqT.of h2), ?_⟩
    rw [fl_len]
    refine ⟨_, _, rfl, rfl, _, rfl, ?_⟩
    by_cases hl : n < s + p
    · refine iteYes (decide_eq_true (by omega)) ?_
      exact ⟨_, rfl, a, CR, dx, _, _, rfl, h1, hC.cl, hC.nT, rfl, _, rfl, t, _, _, .int (f n), rfl, rfl, SqT.of h2, atI_at (j := n) (by omega) (fl_at hl), k⟩
    refine iteNo (decide_eq_false (by omega)) ?_
    have e1 : (n : Int) - s = ((n - s : Nat) : Int) := by omega
    have e2 : ((n : Int) - s) / p = (((n - s) / p : Nat) : Int) := by rw [e1, Int.natCast_ediv]
    have e3 : ((n : Int) - s) % p = (((n - s) % p : Nat) : Int) := by rw [e1, Int.natCast_emod]
    have hm := Nat.mod_lt (n - s) hp
    refine ⟨_, rfl, _, rfl, a, CR, dx, _, rfl, h1, rfl, a, f, s, p, d, rfl, h, _, _, rfl, rfl, _, rfl, a, CR, dx, _, _, rfl, h1, hC.cl, hC.nM, rfl, _, _, rfl, rfl, ⟨by omega, by omega⟩, ?_⟩
    refine ⟨_, rfl, _, rfl, a, CR, dx, _, rfl, h1, rfl, a, f, s, p, d, rfl, h, _, _, rfl, rfl, _, rfl, a, CR, dx, _, _, rfl, h1, hC.cl, hC.nM, rfl, _, _, rfl, rfl, (by show (0 : Int) < (p : Int); omega), ?_⟩
    refine ⟨_, _, rfl, ?_⟩
    refine ⟨_, rfl, a, CR, dx, _, _, rfl, h1, hC.cl, hC.nT, rfl, _, rfl, a, CR, dx, _, rfl, h1, rfl, a, f, s, p, d, rfl, h, _, rfl, _, _, rfl, rfl, t, _, _, .int (f (s + (n - s) % p)), rfl, rfl, SqT.of h2, atI_at (j := s + (n - s) % p) ?_ (fl_at (by omega)), ?_⟩
    · show (s : Int) + ((n : Int) - s) % p = _
      rw [e3]
      omega
    refine ⟨_, rfl, _, rfl, a, CR, dx, _, _, rfl, h1, hC.cl, hC.nG, rfl, _, _, rfl, rfl, ?_, _, _, rfl, rfl, ?_⟩
    · show CMulW (((n : Int) - s) / p) d
      rw [e2]
      have : (n - s) / p ≤ n := Nat.le_trans (Nat.div_le_self _ _) (Nat.sub_le _ _)
      exact wide_mul (a := 900) (b := 900) (show ((n - s) / p : Nat) < 2 ^ 900 from Nat.lt_of_le_of_lt this hn) hd (by decide) (by decide) (by decide)
    · show Q (.int (f (s + (n - s) % p) + ((n : Int) - s) / p * d)) H
      rw [e2, ← h.can.eq.all n (by omega)]
      exact k
/-! ### row[n], == -/
def spGet (CN CR : Addr) : Sp := fun vs H Q E => ∃ (a : Addr) (f : Nat → Int) (s p : Nat) (d : Int) (v : V) (D : PyData), vs = [.ref a, v] ∧ RowAt CR H a f s p d ∧ TV H v D ∧ d.natAbs < big ∧ (∀ n : Nat, D = .int n → n < big ∧ Q (.int (f n)) H) ∧ ((∀ i, D = .int i → i < 0) → Errs CN "value" v H E)
abbrev s_Row_getitem : Stmt := inClass (top 31) 10
abbrev N_Row_getitem : List Str := ["self", "n"]
theorem sc_Row_getitem : FnScope N_Row_getitem ["self", "n"] (defScope s_Row_getitem) := ⟨rfl, rfl, rfl, by decide +kernel, rfl, by decide +kernel, by decide +kernel⟩
theorem ok_get {fa : Addr} {fd : FuncData} (F : Fun K "__getitem__" "Row.__getitem__" s_Row_getitem fa fd) (T : Tx K mg CE CN CT CB CR tM tP tF) (c_need_from : Cal P w K mg base (L2.CX P w) 3 "need_from" (spNeed CN)) (o_number : OwnM P w K mg base CX0 3 CR "number" (spNum CR)) : FnOk P w K mg base (L2.CX P w) 4 fa fd ["self", "n"] (spGet CN CR) := by
  refine F.okX sc_Row_getitem (fun vs H Q E h => ?_) (fun cdv A outer s0 H vs Q E hr h => ?_)
  · obtain ⟨a, f, s, p, d, v, D, rfl, _⟩ := h
    rfl
  · obtain ⟨a, f, s, p, d, v, D, rfl, h, hv, hd, k, ke⟩ := h
    obtain ⟨dx, t, h1, h2⟩ := h.ex
    refine ⟨_, (pss_cons (ps_expr (pe_cal c_need_from (hr.mono (by decide)) (by rfl) passC (pa_cons (pv 1) (pa_cons pe_int pa_nil))))
      (pss_one (ps_ret (pe_om o_number (hr.mono (by decide)) (pv 0) pass0 (pa_cons (pv 1) pa_nil))))), ?_⟩
    refine ⟨_, rfl, v, D, 0, rfl, hv, fun i e hi => ?_, fun hb => ke hb⟩
    subst e
    cases tv_int hv
    obtain ⟨n, rfl⟩ : ∃ n : Nat, i = n := ⟨i.toNat, by omega⟩
    obtain ⟨hn, q⟩ := k n rfl
    exact ⟨_, rfl, a, dx, _, rfl, h1, rfl, _, rfl, a, f, s, p, d, n, rfl, h, hd, hn, q⟩
/-- what the top says of the class, for == -/
structure RowK (K : PySem.W.Frag) (CR fE : Addr) : Prop where
  ha : PySem.W.findIn K (.ref CR) "__class__" = some (some (.builtin "object.__class__"))
  hn : PySem.W.specialIn K (.builtin "object.__class__") "__get__" = some (some (.builtin "getset_descriptor.__get__"))
  htk : PySem.W.takesIn K (.builtin "object.__class__") = some true
  hm : PySem.W.mroIn K CR (.type "object") = some true
  kR : PySem.W.kitOne K (.ref CR) (.ref CR) = some true
  kI : PySem.W.kitOne K (.type "int") (.ref CR) = some false
  eq : PySem.W.findIn K (.ref CR) "__eq__" = some (some (.ref fE))
  ne : PySem.W.findIn K (.ref CR) "__ne__" = some (some (.builtin "object.__ne__"))
  nfR : PySem.W.notFirst K CR (.ref CR) = true
  fn : PySem.W.isFn K (.ref fE) = true
theorem RowAt.tyX {K : PySem.W.Frag} {CR fE : Addr} (hC : ClR K CR) (C : RowK K CR fE) {H : Hp} {a : Addr} {f : Nat → Int} {s p : Nat} {d : Int} (h : RowAt CR H a f s p d) : TyX K H (.ref a) (.ref CR) := by
  obtain ⟨dx, t, h1, h2⟩ := h.ex
  exact .base (.ins h1 hC.cl C.ha C.hn C.htk C.hm)
/-- the same numbers: both answers -/
def spEq (CR : Addr) : Sp := fun vs H Q _ => ∃ (a b : Addr) (f g : Nat → Int) (s p : Nat) (d : Int) (s' p' : Nat) (d' : Int), vs = [.ref a, .ref b] ∧ RowAt CR H a f s p d ∧ RowAt CR H b g s' p' d' ∧ (f = g → Q (.bl true) H) ∧ (f ≠ g → Q (.bl false) H)
theorem dp_fl {K : PySem.W.Frag} {H : Hp} (f : Nat → Int) (L : Nat) : DpAll K H (fl f L) (((List.range L).map f).map .int) := by
  unfold fl
  rw [List.map_map]
  generalize List.range L = l
  induction l with
  | nil => exact .nil
  | cons a r ih => exact .cons (.int _) ih
theorem eqv_ints : ∀ (xs ys : List Int), PyData.eqvAll (xs.map .int) (ys.map .int) = decide (xs = ys)
  | [], [] => rfl
  | [], _ :: _ => rfl
  | _ :: _, [] => rfl
  | x :: xs, y :: ys => by
    have ih := eqv_ints xs ys
    show (PyData.eqv (.int x) (.int y) && PyData.eqvAll (xs.map .int) (ys.map .int)) = _
    rw [ih]
    have h : PyData.eqv (.int x) (.int y) = decide (x = y) := by
      show (x == y) = _
      rfl
    rw [h]
    by_cases h1 : x = y <;> by_cases h2 : xs = ys <;> simp [h1, h2]
theorem lay_ints : ∀ xs : List Int, PyData.canLayAll0 (xs.map .int) = true
  | [] => rfl
  | x :: r => by
    show (PyData.canLay0 (.int x) && PyData.canLayAll0 (r.map .int)) = true
    rw [lay_ints r]
    rfl
theorem shaped_ints (xs : List Int) : SeqAt.shaped (.tuple (xs.map .int)) = true := by
  have h : (PyData.tuple (xs.map .int)).depth ≤ 1 := depth_tup fun d hd => by
    obtain ⟨z, _, rfl⟩ := List.mem_map.mp hd
    exact Nat.le_refl _
  show (PyData.canLay0 (.tuple (xs.map .int)) && decide ((PyData.tuple (xs.map .int)).depth ≤ 64)) = true
  rw [decide_eq_true (Nat.le_trans h (by decide)), Bool.and_true]
  exact lay_ints xs
abbrev s_Row_eq : Stmt := inClass (top 31) 29
abbrev N_Row_eq : List Str := ["self", "other"]
theorem sc_Row_eq : FnScope N_Row_eq ["self", "other"] (defScope s_Row_eq) := ⟨rfl, rfl, rfl, by decide +kernel, rfl, by decide +kernel, by decide +kernel⟩
theorem ok_eq {fa fE : Addr} {fd : FuncData} (F : Fun K "__eq__" "Row.__eq__" s_Row_eq fa fd) (T : Tx K mg CE CN CT CB CR tM tP tF) (hC : ClR K CR) (C : RowK K CR fE) : FnOk P w K mg base CX0 2 fa fd ["self", "other"] (spEq CR) := by
  refine F.ok sc_Row_eq (fun vs H Q E h => ?_) (fun cdv A outer s0 H vs Q E hr h => ?_)
  · obtain ⟨a, b, f, g, s, p, d, s', p', d', rfl, _⟩ := h
    rfl
  · obtain ⟨a, b, f, g, s, p, d, s', p', d', rfl, h, h', k1, k2⟩ := h
    obtain ⟨dx, t, h1, h2⟩ := h.ex
    obtain ⟨dy, t', h1', h2'⟩ := h'.ex
    refine ⟨_, (pss_cons (ps_if (pt_not (pt_val (pe_callB call_isi (by rfl) (T.bn _ (by decide +kernel)) (by decide +kernel) (pa_cons (pv 1) (pa_cons (pe_gref (by rfl) T.m_Row) pa_nil))))) (pss_one (ps_ret pe_bl)) pss_nil)
      (pss_one (ps_ret (pe_and (pe_cmpR (op_eqD hr.units) (pe_fld (pv 0) rfl) (pe_fld (pv 1) rfl) (nomark _)) (pe_and (pe_cmpR op_eq (pe_fld (pv 0) rfl) (pe_fld (pv 1) rfl) (nomark _)) (pe_one (pe_cmpR op_eq (pe_fld (pv 0) rfl) (pe_fld (pv 1) rfl) (nomark _)))))))), ?_⟩
    refine ⟨_, rfl, _, _, _, _, true, rfl, .own CR, h'.tyX hC C, C.kR, _, rfl, ?_⟩
    refine iteF ?_
    refine ⟨_, rfl, a, CR, dx, _, _, rfl, h1, hC.cl, hC.nT, rfl, _, rfl, b, CR, dy, _, _, rfl, h1', hC.cl, hC.nT, rfl, ?_⟩
    refine ⟨_, _, .tup (SqT.of h2) (dp_fl _ _), .tup (SqT.of h2') (dp_fl _ _), shaped_ints _, shaped_ints _, ?_⟩
    have ev : PyData.eqv (.tuple (((List.range (s + p)).map f).map .int)) (.tuple (((List.range (s' + p')).map g).map .int)) = decide ((List.range (s + p)).map f = (List.range (s' + p')).map g) := eqv_ints _ _
    rw [ev]
    have all : (List.range (s + p)).map f = (List.range (s' + p')).map g → p = p' → d = d' → f = g := fun e1 e2 e3 => by
      subst e2 e3
      have hl := congrArg List.length e1
      rw [List.length_map, List.length_map, List.length_range, List.length_range] at hl
      have hs : s = s' := by omega
      subst hs
      refine h.can.eq.same_fun h'.can.eq fun n hn => ?_
      have := congrArg (fun l : List Int => l[n]?) e1
      simp only [List.getElem?_map, List.getElem?_range hn] at this
      simpa using this
    by_cases c1 : (List.range (s + p)).map f = (List.range (s' + p')).map g
    case neg =>
      refine ⟨_, rfl, iteNo (decide_eq_false c1) ?_⟩
      refine k2 fun e => c1 ?_
      subst e
      obtain ⟨rfl, rfl, rfl⟩ := h.can.uniq h'.can
      rfl
    refine ⟨_, rfl, iteYes (decide_eq_true c1) ?_⟩
    refine ⟨_, rfl, a, CR, dx, _, _, rfl, h1, hC.cl, hC.nM, rfl, _, rfl, b, CR, dy, _, _, rfl, h1', hC.cl, hC.nM, rfl, rfl, ?_⟩
    by_cases c2 : p = p'
    case neg =>
      have n2 : ¬ V.int (p : Int) = V.int (p' : Int) := fun z => c2 (by have := V.int.inj z; omega)
      refine ⟨_, rfl, iteNo (decide_eq_false n2) ?_⟩
      refine k2 fun e => c2 ?_
      subst e
      exact (h.can.uniq h'.can).2.1
    refine ⟨_, rfl, iteYes (decide_eq_true (by rw [c2])) ?_⟩
    refine ⟨_, rfl, a, CR, dx, _, _, rfl, h1, hC.cl, hC.nG, rfl, _, rfl, b, CR, dy, _, _, rfl, h1', hC.cl, hC.nG, rfl, rfl, ?_⟩
    by_cases c3 : d = d'
    · rw [decide_eq_true (by rw [c3])]
      exact k1 (all c1 c2 c3)
    · rw [decide_eq_false fun z => c3 (V.int.inj z)]
      refine k2 fun e => c3 ?_
      subst e
      exact (h.can.uniq h'.can).2.2
end
end K10
end
section
set_option Elab.async false
set_option autoImplicit false
set_option linter.all false
set_option maxRecDepth 100000
set_option maxHeartbeats 1000000
set_option pp.maxSteps 1500
namespace K10
open PySem PySem.Spec PyProof.Rows L2 Ls RowM
open C8 (pss_cut tCut)
open TL
/-! ### whole numbers reckoned with -/
section
variable {P : Program} {w : World} {K : PySem.W.Frag} {mg : Str → Option Value} {base : Heap} {CE CN CT CB CR : Addr} {tM tP tF : Tok}
def spDivr : Sp := fun vs H Q _ => ∃ i j : Int, vs = [.int i, .int j] ∧ Q (.int (Nat.gcd i.natAbs j.natAbs : Nat)) H
theorem abs_nat (i : Int) : (if i < 0 then -i else i) = (i.natAbs : Int) := by split <;> omega
abbrev s_divisor : Stmt := top 14
abbrev N_divisor : List Str := ["one", "other", "first", "second"]
theorem sc_divisor : FnScope N_divisor ["one", "other"] (defScope s_divisor) := ⟨rfl, rfl, rfl, by decide +kernel, rfl, by decide +kernel, by decide +kernel⟩
theorem ok_divr {fa : Addr} {fd : FuncData} (F : Fun K "divisor" "divisor" s_divisor fa fd) (T : Tx K mg CE CN CT CB CR tM tP tF) : FnOk P w K mg base CX0 1 fa fd ["one", "other"] spDivr := by
  refine F.ok sc_divisor (fun vs H Q E h => ?_) (fun cdv A outer s0 H vs Q E hr h => ?_)
  · obtain ⟨i, j, rfl, _⟩ := h
    rfl
  · obtain ⟨i, j, rfl, k⟩ := h
    refine ⟨_, (pss_cons (ps_par (i := 2) (j := 3) rfl sc_divisor.nd rfl rfl (by decide) rfl rfl (pa_cons (pe_callB call_abs (by rfl) (T.bn _ (by decide +kernel)) (by decide +kernel) (pa_cons (pv 0) pa_nil)) (pa_cons (pe_callB call_abs (by rfl) (T.bn _ (by decide +kernel)) (by decide +kernel) (pa_cons (pv 1) pa_nil)) pa_nil)) (by rfl))
      (pss_cons (ps_while PassesOwn.never (pt_cmpR op_gt (pv 3) pe_int (nomark _))
      (pss_one (ps_par (i := 2) (j := 3) rfl sc_divisor.nd rfl rfl (by decide) rfl rfl (pa_cons (pv 3) (pa_cons (pe_op op_mod (pv 2) (pv 3)) pa_nil)) (by rfl))))
      (pss_one (ps_ret (pv 2))))), ?_⟩
    refine ⟨_, rfl, i, rfl, _, rfl, j, rfl, _, _, rfl, ?_⟩
    refine ⟨fun m σ H' => ∃ a : Nat, σ = [some (.int i), some (.int j), some (.int a), some (.int m)] ∧ H' = H ∧ Nat.gcd a m = Nat.gcd i.natAbs j.natAbs, ⟨j.natAbs, i.natAbs, by rw [abs_nat, abs_nat]; rfl, rfl, rfl⟩, ?_⟩
    rintro m σ H' ⟨a, rfl, rfl, hg⟩
    refine ⟨_, rfl, _, _, rfl, rfl, _, rfl, ?_⟩
    by_cases hm : 0 < m
    · refine iteYes (decide_eq_true (by omega)) ?_
      refine ⟨fun σ' H'' => σ' = [some (.int i), some (.int j), some (.int m), some (.int (a % m : Nat))] ∧ H'' = H', fun σ' H'' h => ⟨a % m, Nat.mod_lt a hm, m, h.1, h.2, ?_⟩, ?_⟩
      · rw [← hg, Nat.gcd_comm a m, Nat.gcd_rec m a, Nat.gcd_comm]
      · refine ⟨_, rfl, _, rfl, _, rfl, _, _, rfl, rfl, (by show (0 : Int) < (m : Int); omega), _, _, rfl, ?_⟩
        exact ⟨rfl, rfl⟩
    · refine iteNo (decide_eq_false (by omega)) ?_
      have h0 : m = 0 := by omega
      subst h0
      rw [Nat.gcd_zero_right] at hg
      exact ⟨_, rfl, by rw [hg]; exact k⟩
def spGr : Sp := fun vs H Q _ => ∃ i j : Int, vs = [.int i, .int j] ∧ Q (.int (max i j)) H
abbrev s_greater : Stmt := top 30
abbrev N_greater : List Str := ["one", "other"]
theorem sc_greater : FnScope N_greater ["one", "other"] (defScope s_greater) := ⟨rfl, rfl, rfl, by decide +kernel, rfl, by decide +kernel, by decide +kernel⟩
theorem ok_gr {fa : Addr} {fd : FuncData} (F : Fun K "greater" "greater" s_greater fa fd) (T : Tx K mg CE CN CT CB CR tM tP tF) : FnOk P w K mg base CX0 1 fa fd ["one", "other"] spGr := by
  refine F.ok sc_greater (fun vs H Q E h => ?_) (fun cdv A outer s0 H vs Q E hr h => ?_)
  · obtain ⟨i, j, rfl, _⟩ := h
    rfl
  · obtain ⟨i, j, rfl, k⟩ := h
    refine ⟨_, (pss_one (ps_ret (pe_ifExp (pt_cmpR op_ge (pv 0) (pv 1) (nomark _)) (pv 0) (pv 1)))), ?_⟩
    refine ⟨_, rfl, _, rfl, _, _, rfl, rfl, _, rfl, ?_⟩
    by_cases h : j ≤ i
    · exact iteYes (decide_eq_true h) ⟨_, rfl, by rw [show max i j = i by omega] at k; exact k⟩
    · exact iteNo (decide_eq_false h) ⟨_, rfl, by rw [show max i j = j by omega] at k; exact k⟩
def spMult : Sp := fun vs H Q _ => ∃ p q : Nat, vs = [.int p, .int q] ∧ 1 ≤ p ∧ 1 ≤ q ∧ p ≤ 100000 ∧ q ≤ 100000 ∧ Q (.int (Nat.lcm p q : Nat)) H
abbrev s_multiple : Stmt := top 15
abbrev N_multiple : List Str := ["one", "other"]
theorem sc_multiple : FnScope N_multiple ["one", "other"] (defScope s_multiple) := ⟨rfl, rfl, rfl, by decide +kernel, rfl, by decide +kernel, by decide +kernel⟩
theorem ok_mult {fa : Addr} {fd : FuncData} (F : Fun K "multiple" "multiple" s_multiple fa fd) (T : Tx K mg CE CN CT CB CR tM tP tF) (c_divisor : Cal P w K mg base CX0 1 "divisor" spDivr) : FnOk P w K mg base CX0 2 fa fd ["one", "other"] spMult := by
  refine F.ok sc_multiple (fun vs H Q E h => ?_) (fun cdv A outer s0 H vs Q E hr h => ?_)
  · obtain ⟨p, q, rfl, _⟩ := h
    rfl
  · obtain ⟨p, q, rfl, h1, h2, h3, h4, k⟩ := h
    refine ⟨_, (pss_one (ps_ret (pe_op op_mul (pe_op op_fdiv (pv 0) (pe_cal c_divisor (hr.mono (by decide)) (by rfl) pass0 (pa_cons (pv 0) (pa_cons (pv 1) pa_nil)))) (pv 1)))), ?_⟩
    have g1 : 1 ≤ Nat.gcd p q := Nat.gcd_pos_of_pos_left q h1
    have g2 : Nat.gcd p q ≤ p := Nat.gcd_le_left q h1
    refine ⟨_, rfl, _, rfl, _, rfl, p, q, rfl, _, _, rfl, rfl, ⟨by show (0 : Int) < (Nat.gcd p q : Nat); omega, by show ((Nat.gcd p q : Nat) : Int) < 1073741824; omega⟩, _, rfl, _, _, rfl, rfl, .inr ⟨by omega, by omega⟩, ?_⟩
    have e : ((p : Int) / (Nat.gcd p q : Nat)) * q = (Nat.lcm p q : Nat) := by
      rw [← Int.natCast_ediv, ← Int.natCast_mul, Nat.lcm, Nat.div_mul_right_comm (Nat.gcd_dvd_left p q)]
    show Q (.int (((p : Int) / (Nat.gcd p q : Nat)) * q)) H
    rw [e]
    exact k
def spSO (CR : Addr) : Sp := fun vs H Q _ => ∃ (a : Addr) (f : Nat → Int) (s p : Nat) (d : Int) (m : Nat), vs = [.ref a, .int m] ∧ RowAt CR H a f s p d ∧ m ≤ 10000000000 ∧ Q (.int (d * (m / p : Nat))) H
abbrev s_step_over : Stmt := top 23
abbrev N_step_over : List Str := ["row", "period"]
theorem sc_step_over : FnScope N_step_over ["row", "period"] (defScope s_step_over) := ⟨rfl, rfl, rfl, by decide +kernel, rfl, by decide +kernel, by decide +kernel⟩
theorem ok_so {fa : Addr} {fd : FuncData} (F : Fun K "step_over" "step_over" s_step_over fa fd) (T : Tx K mg CE CN CT CB CR tM tP tF) (c_step : Prp P w K mg base CX0 1 (· = CR) "step" (spStep CR)) (c_period : Prp P w K mg base CX0 1 (· = CR) "period" (spPeriod CR)) : FnOk P w K mg base CX0 3 fa fd ["row", "period"] (spSO CR) := by
  refine F.ok sc_step_over (fun vs H Q E h => ?_) (fun cdv A outer s0 H vs Q E hr h => ?_)
  · obtain ⟨a, f, s, p, d, m, rfl, _⟩ := h
    rfl
  · obtain ⟨a, f, s, p, d, m, rfl, h, hm, k⟩ := h
    obtain ⟨dx, t, h1, h2⟩ := h.ex
    have hp := h.can.eq.pos
    have hle := h.le
    refine ⟨_, (pss_one (ps_ret (pe_op op_mul ((pe_prp c_step (hr.mono (by decide)) pass0) (pv 0)) (pe_op op_fdiv (pv 1) ((pe_prp c_period (hr.mono (by decide)) pass0) (pv 0)))))), ?_⟩
    have hd : m / p ≤ m := Nat.div_le_self _ _
    refine ⟨_, rfl, a, CR, dx, _, rfl, h1, rfl, a, f, s, p, d, rfl, h, _, rfl, _, rfl, a, CR, dx, _, rfl, h1, rfl, a, f, s, p, d, rfl, h, _, _, rfl, rfl, ⟨by omega, by omega⟩, _, _, rfl, rfl, .inr ⟨?_, ?_⟩, ?_⟩
    · have := Int.natCast_nonneg (m / p); rw [← Int.natCast_ediv]; omega
    · rw [← Int.natCast_ediv]; omega
    · show Q (.int (d * ((m : Int) / p))) H
      rw [← Int.natCast_ediv]
      exact k
def spFrame (CR : Addr) : Sp := fun vs H Q _ => ∃ (a b : Addr) (f g : Nat → Int) (s p : Nat) (d : Int) (s' p' : Nat) (d' : Int), vs = [.ref a, .ref b] ∧ RowAt CR H a f s p d ∧ RowAt CR H b g s' p' d' ∧ ∀ t, H t = none → Q (.ref t) (upd H t (.tup [.int (max s s' : Nat), .int (Nat.lcm p p' : Nat)]))
abbrev s_frame : Stmt := top 22
abbrev N_frame : List Str := ["one", "other"]
theorem sc_frame : FnScope N_frame ["one", "other"] (defScope s_frame) := ⟨rfl, rfl, rfl, by decide +kernel, rfl, by decide +kernel, by decide +kernel⟩
theorem ok_frame {fa : Addr} {fd : FuncData} (F : Fun K "frame" "frame" s_frame fa fd) (T : Tx K mg CE CN CT CB CR tM tP tF) (c_start : Prp P w K mg base CX0 1 (· = CR) "start" (spStart CR)) (c_period : Prp P w K mg base CX0 1 (· = CR) "period" (spPeriod CR)) (c_greater : Cal P w K mg base CX0 1 "greater" spGr) (c_multiple : Cal P w K mg base CX0 2 "multiple" spMult) : FnOk P w K mg base CX0 3 fa fd ["one", "other"] (spFrame CR) := by
  refine F.ok sc_frame (fun vs H Q E h => ?_) (fun cdv A outer s0 H vs Q E hr h => ?_)
  · obtain ⟨a, b, f, g, s, p, d, s', p', d', rfl, _⟩ := h
    rfl
  · obtain ⟨a, b, f, g, s, p, d, s', p', d', rfl, h, h', k⟩ := h
    obtain ⟨dx, t, h1, h2⟩ := h.ex
    obtain ⟨dy, t', h1', h2'⟩ := h'.ex
    have hp := h.can.eq.pos
    have hle := h.le
    have hp' := h'.can.eq.pos
    have hle' := h'.le
    refine ⟨_, (pss_one (ps_ret (pe_tup (pa_cons (pe_cal c_greater (hr.mono (by decide)) (by rfl) pass0 (pa_cons ((pe_prp c_start (hr.mono (by decide)) pass0) (pv 0)) (pa_cons ((pe_prp c_start (hr.mono (by decide)) pass0) (pv 1)) pa_nil))) (pa_cons (pe_cal c_multiple (hr.mono (by decide)) (by rfl) pass0 (pa_cons ((pe_prp c_period (hr.mono (by decide)) pass0) (pv 0)) (pa_cons ((pe_prp c_period (hr.mono (by decide)) pass0) (pv 1)) pa_nil))) pa_nil))))), ?_⟩
    refine ⟨_, rfl, a, CR, dx, _, rfl, h1, rfl, a, f, s, p, d, rfl, h, _, rfl, b, CR, dy, _, rfl, h1', rfl, b, g, s', p', d', rfl, h', s, s', rfl, ?_⟩
    refine ⟨_, rfl, a, CR, dx, _, rfl, h1, rfl, a, f, s, p, d, rfl, h, _, rfl, b, CR, dy, _, rfl, h1', rfl, b, g, s', p', d', rfl, h', p, p', rfl, hp, hp', by omega, by omega, ?_⟩
    refine ⟨(by show 2 ≤ sizeLine; decide), fun t nt => ?_⟩
    have := k t nt
    rw [show ((max s s' : Nat) : Int) = max (s : Int) s' by omega] at this
    exact this
end
end K10
end
section
set_option Elab.async false
set_option autoImplicit false
set_option linter.all false
set_option maxRecDepth 100000
set_option maxHeartbeats 1000000
set_option pp.maxSteps 1500
namespace K10
open PySem PySem.Spec PyProof.Rows L2 Ls RowM
open C8 (pss_cut tCut)
open TL
/-! ### new rows out of rows -/
theorem keep_new {H H' : Hp} {x dx : Addr} {o1 o2 : HO} (nx : H x = none) (nd : H dx = none) (hk : KeepX x (upd (upd H dx o1) x o2) H') (ne : dx ≠ x) : Ext H H' := fun b o q => by
  have h1 := ne_of_none q nx
  have h2 := ne_of_none q nd
  exact hk b o (by rw [upd_ne h1, upd_ne h2]; exact q) h1
theorem eq_to {f : Nat → Int} {s p m : Nat} {d : Int} (h : EQ f s p d) (hm : p ∣ m) (h1 : 1 ≤ m) : EQ f s m (d * (m / p : Nat)) := by
  have hk : 1 ≤ m / p := Nat.div_pos (Nat.le_of_dvd h1 hm) h.pos
  have := h.times hk
  rw [Nat.div_mul_cancel hm] at this
  rw [Int.mul_comm]
  exact this
theorem eq_lin {f g : Nat → Int} {s p : Nat} {d e c : Int} (h : EQ f s p d) (k : EQ g s p e) : EQ (fun n => f n + c * g n) s p (d + c * e) := ⟨h.pos, fun n hn => by
  show f (n + p) + c * g (n + p) = f n + c * g n + (d + c * e)
  rw [h.per n hn, k.per n hn, Int.mul_add]
  omega⟩
theorem can_small {f : Nat → Int} {s p s' q : Nat} {d e : Int} (h : Can f s p d) (g : EQ f s' q e) : d.natAbs ≤ e.natAbs := by
  obtain ⟨h1, h2⟩ := h.dvd g
  rw [h2, Int.natAbs_mul]
  have : 1 ≤ q / p := Nat.div_pos (Nat.le_of_dvd g.pos h1) h.eq.pos
  exact Nat.le_mul_of_pos_left _ (by omega)
section
variable {P : Program} {w : World} {K : PySem.W.Frag} {mg : Str → Option Value} {base : Heap} {CE CN CT CB CR : Addr} {tM tP tF : Tok}
/-- what a new row comes to: it stands, or there are too many numbers -/
def NewRow (CT CR : Addr) (H : Hp) (f : Nat → Int) (Q : VK) (E : XK) : Prop := ∀ s q e, Can f s q e → (s + q ≤ 2000 → ∀ x H', Ext H H' → RowAt CR H' x f s q e → Q (.ref x) H') ∧ (2000 < s + q → ∀ H', Ext H H' → Errs CT "most" (.int 2000) H' E)
theorem NewRow.ext {CT CR : Addr} {H H1 : Hp} {f : Nat → Int} {Q : VK} {E : XK} (h : NewRow CT CR H f Q E) (e : Ext H H1) : NewRow CT CR H1 f Q E := fun s q d c => ⟨fun hm x H' e' r => (h s q d c).1 hm x H' (e.trans e') r, fun hm H' e' => (h s q d c).2 hm H' (e.trans e')⟩
theorem mk_row {H : Hp} {l : Addr} {h : Nat → Int} {L p : Nat} {d : Int} {Q : VK} {E : XK} (hl : H l = some (.lst (fl h L)) ∨ H l = some (.tup (fl h L))) (hq : EQ h (L - p) p d) (hp : p ≤ L) (hL : L ≤ 100000) (k : NewRow CT CR H h Q E) :
    ∀ x dx, H x = none → H dx = none → dx ≠ x → spRow0 CT CR [.ref x, .ref l, .int p, .int d] (upd (upd H dx (.own x)) x (.ins CR dx [])) (fun y H3 => y = .non ∧ Q (.ref x) H3) E := fun x dx nx nd ne => by
  have up : ∀ {o : HO}, H l = some o → (upd (upd H dx (.own x)) x (.ins CR dx [])) l = some o := fun {o} q => by
    rw [upd_ne (ne_of_none q nx), upd_ne (ne_of_none q nd)]
    exact q
  refine ⟨x, dx, l, h, L, p, d, rfl, upd_same, hl.elim (fun q => .inl (up q)) (fun q => .inr (up q)), hq, hp, hL, fun s q e c _ => ⟨fun hm H' hk r => ⟨rfl, (k s q e c).1 hm x H' (keep_new nx nd hk ne) r⟩, fun hm H' hk => (k s q e c).2 hm H' (keep_new nx nd hk ne)⟩⟩
def spJoin (CT CR : Addr) : Sp := fun vs H Q E => ∃ (a b : Addr) (f g : Nat → Int) (s p : Nat) (d : Int) (s' p' : Nat) (d' sg : Int), vs = [.ref a, .ref b, .int sg] ∧ (sg = 1 ∨ sg = -1) ∧ RowAt CR H a f s p d ∧ RowAt CR H b g s' p' d' ∧ d.natAbs < big ∧ d'.natAbs < big ∧ max s s' + Nat.lcm p p' ≤ 100000 ∧
  NewRow CT CR H (fun n => f n + sg * g n) Q E
abbrev s_joined : Stmt := top 24
abbrev N_joined : List Str := ["one", "other", "sign", "start", "period", "numbers", "n"]
theorem sc_joined : FnScope N_joined ["one", "other", "sign"] (defScope s_joined) := ⟨rfl, rfl, rfl, by decide +kernel, rfl, by decide +kernel, by decide +kernel⟩
theorem ok_join {fa : Addr} {fd : FuncData} (F : Fun K "joined" "joined" s_joined fa fd) (T : Tx K mg CE CN CT CB CR tM tP tF) (c_frame : Cal P w K mg base CX0 3 "frame" (spFrame CR)) (c_step_over : Cal P w K mg base CX0 3 "step_over" (spSO CR)) (o_number : OwnM P w K mg base CX0 3 CR "number" (spNum CR)) (c_Row : Mkc P w K mg base (L2.CX P w) 4 CR "Row" (spRow0 CT CR)) :
    FnOk P w K mg base (L2.CX P w) 6 fa fd ["one", "other", "sign"] (spJoin CT CR) := by
  refine F.okX sc_joined (fun vs H Q E h => ?_) (fun cdv A outer s0 H vs Q E hr h => ?_)
  · obtain ⟨a, b, f, g, s, p, d, s', p', d', sg, rfl, _⟩ := h
    rfl
  · obtain ⟨a, b, f, g, s, p, d, s', p', d', sg, rfl, hsg, h, h', hd, hd', hL, k⟩ := h
    have hbig : (100000 : Nat) < big := by decide
    have hp := h.can.eq.pos
    have hp' := h'.can.eq.pos
    have hle := h.le
    have hle' := h'.le
    have hm1 : 1 ≤ Nat.lcm p p' := Nat.lcm_pos hp hp'
    refine ⟨_, (pss_cons (ps_asg (pe_cal c_frame (hr.mono (by decide)) (by rfl) pass0 (pa_cons (pv 0) (pa_cons (pv 1) pa_nil))) (pg_tup rfl (pgs_cons (pg_name (i := 3) sc_joined.nd rfl (by first | exact Or.inl rfl | exact Or.inr rfl)) (pgs_cons (pg_name (i := 4) sc_joined.nd rfl (by first | exact Or.inl rfl | exact Or.inr rfl)) pgs_nil))))
      (pss_cons (ps_setLc (i := 5) (own := [("n", 6)]) rfl sc_joined.nd rfl rfl (sw_true rfl rfl rfl (by decide +kernel)) (pi_range1 rfl (T.bn _ (by decide +kernel)) (pa_cons (pe_op op_add (pv 3) (pv 4)) pa_nil)) (blkOk_by (own := [("n", 6)]) (N := N_joined) (sc := defScope s_joined) (by decide +kernel)) (fun _ _ _ _ _ => (pg_name (i := 6) sc_joined.nd rfl (by first | exact Or.inl rfl | exact Or.inr rfl))) (fun _ _ _ _ _ => pts_nil) (fun _ _ _ _ _ => (pe_op op_add (pe_om o_number (hr.mono (by decide)) (pv 0) pass0 (pa_cons (pv 6) pa_nil)) (pe_op op_mul (pv 2) (pe_om o_number (hr.mono (by decide)) (pv 1) pass0 (pa_cons (pv 6) pa_nil))))))
      (pss_one (ps_ret (pe_mkc c_Row (hr.mono (by decide)) (by rfl) passC (pa_cons (pv 5) (pa_cons (pv 4) (pa_cons (pe_op op_add (pe_cal c_step_over (hr.mono (by decide)) (by rfl) pass0 (pa_cons (pv 0) (pa_cons (pv 4) pa_nil))) (pe_op op_mul (pv 2) (pe_cal c_step_over (hr.mono (by decide)) (by rfl) pass0 (pa_cons (pv 1) (pa_cons (pv 4) pa_nil))))) pa_nil)))))))), ?_⟩
    refine ⟨_, rfl, _, rfl, a, b, f, g, s, p, d, s', p', d', rfl, h, h', fun t nt => ?_⟩
    have e1 : Ext H (upd H t (.tup [.int (max s s' : Nat), .int (Nat.lcm p p' : Nat)])) := Ext.upd nt
    have f1 : (upd H t (.tup [.int (max s s' : Nat), .int (Nat.lcm p p' : Nat)])) t = some (.tup [.int (max s s' : Nat), .int (Nat.lcm p p' : Nat)]) := upd_same
    generalize (upd H t (.tup [.int (max s s' : Nat), .int (Nat.lcm p p' : Nat)])) = H1 at e1 f1
    refine ⟨t, _, rfl, SqT.of f1, rfl, _, _, rfl, _, _, rfl, rfl, ?_⟩
    have r1 := h.ext e1
    have r1' := h'.ext e1
    refine ⟨_, rfl, _, rfl, _, _, rfl, rfl, _, rfl, by omega, by omega, fun D hD => ?_⟩
    obtain ⟨dx, t1, q1, _⟩ := r1.ex
    obtain ⟨dy, t2, q2, _⟩ := r1'.ex
    rw [show (((max s s' : Nat) : Int) + (Nat.lcm p p' : Nat)).toNat = max s s' + Nat.lcm p p' by omega]
    refine lc_it walk_range (fun i Hx => Hx = upd H1 D (.lst (fl (fun n => f n + sg * g n) i))) rfl (fun _ _ _ _ => trivial) ?_ ?_
    · rintro i x Hx H' hi rfl ⟨rfl, rfl⟩
      have hi : i < max s s' + Nat.lcm p p' := hi
      have ed : Ext H1 (upd H1 D (.lst (fl (fun n => f n + sg * g n) i))) := Ext.upd hD
      refine ⟨rfl, _, rfl, a, dx, _, rfl, ed _ _ q1, rfl, _, rfl, a, f, s, p, d, 0 + i, rfl, r1.ext ed, hd, by omega, ?_⟩
      refine ⟨_, rfl, _, rfl, b, dy, _, rfl, ed _ _ q2, rfl, _, rfl, b, g, s', p', d', 0 + i, rfl, r1'.ext ed, hd', by omega, ?_⟩
      refine ⟨_, _, rfl, rfl, .inl (by rcases hsg with rfl | rfl <;> exact ⟨by decide, by decide⟩), _, _, rfl, rfl, _, upd_same, by rw [fl_len]; show i < 16777216; omega, ?_⟩
      show upd (upd H1 D _) D _ = _
      rw [upd_upd, Nat.zero_add, fl_snoc (fun n => f n + sg * g n)]
    · rintro Hx rfl
      have ed : Ext H1 (upd H1 D (.lst (fl (fun n => f n + sg * g n) (max s s' + Nat.lcm p p')))) := Ext.upd hD
      have fd : (upd H1 D (.lst (fl (fun n => f n + sg * g n) (max s s' + Nat.lcm p p')))) D = some (.lst (fl (fun n => f n + sg * g n) (max s s' + Nat.lcm p p'))) := upd_same
      generalize (upd H1 D (.lst (fl (fun n => f n + sg * g n) (max s s' + Nat.lcm p p')))) = H2 at ed fd
      refine ⟨_, rfl, _, rfl, _, rfl, _, rfl, a, f, s, p, d, Nat.lcm p p', rfl, r1.ext ed, by omega, _, rfl, _, rfl, _, rfl, b, g, s', p', d', Nat.lcm p p', rfl, r1'.ext ed, by omega, ?_⟩
      refine ⟨_, _, rfl, rfl, .inl (by rcases hsg with rfl | rfl <;> exact ⟨by decide, by decide⟩), _, _, rfl, rfl, ?_⟩
      refine mk_row (.inl fd) ?_ (by omega) hL (k.ext (e1.trans ed))
      rw [Nat.add_sub_cancel]
      exact eq_lin (eq_to (h.can.eq.up (Nat.le_max_left s s')) (Nat.dvd_lcm_left p p') hm1) (eq_to (h'.can.eq.up (Nat.le_max_right s s')) (Nat.dvd_lcm_right p p') hm1)
end
end K10
end
section
set_option Elab.async false
set_option autoImplicit false
set_option linter.all false
set_option maxRecDepth 100000
set_option maxHeartbeats 1000000
set_option pp.maxSteps 1500
namespace K10
open PySem PySem.Spec PyProof.Rows L2 Ls RowM
open C8 (pss_cut tCut)
open TL
theorem eq_add {f : Nat → Int} {s p : Nat} {d : Int} (h : EQ f s p d) (j : Int) : EQ (fun n => f n + j) s p d := ⟨h.pos, fun n hn => by
  show f (n + p) + j = f n + j + d
  rw [h.per n hn]
  omega⟩
theorem eq_shift {f : Nat → Int} {s p : Nat} {d : Int} (h : EQ f s p d) (j : Nat) : EQ (fun n => f (n + j)) (s - j) p d := ⟨h.pos, fun n hn => by
  show f (n + p + j) = f (n + j) + d
  rw [show n + p + j = n + j + p by omega]
  exact h.per (n + j) (by omega)⟩
theorem can_shift {f : Nat → Int} {s p : Nat} {d : Int} (h : Can f s p d) (j : Nat) : Can (fun n => f (n + j)) (s - j) p d := by
  have back : ∀ s' p' d', EQ (fun n => f (n + j)) s' p' d' → EQ f (s' + j) p' d' := fun s' p' d' k => ⟨k.pos, fun n hn => by
    have := k.per (n - j) (by omega)
    have this : f (n - j + p' + j) = f (n - j + j) + d' := this
    rw [show n - j + p' + j = n + p' by omega, show n - j + j = n by omega] at this
    exact this⟩
  exact ⟨eq_shift h.eq j, fun s' p' d' k => by
    have := h.low _ _ _ (back s' p' d' k)
    omega, fun s' p' d' k => h.few _ _ _ (back s' p' d' k)⟩
theorem eq_every {f : Nat → Int} {s p : Nat} {d : Int} (h : EQ f s p d) {j : Nat} (hj : 1 ≤ j) : EQ (fun n => f (n * j)) ((s + j - 1) / j) (p / Nat.gcd j p) (d * (j / Nat.gcd j p : Nat)) := by
  have g1 : 1 ≤ Nat.gcd j p := Nat.gcd_pos_of_pos_left p hj
  have g2 := Nat.div_mul_cancel (Nat.gcd_dvd_left j p)
  have g3 := Nat.div_mul_cancel (Nat.gcd_dvd_right j p)
  refine ⟨Nat.div_pos (Nat.le_of_dvd h.pos (Nat.gcd_dvd_right j p)) g1, fun n hn => ?_⟩
  show f ((n + p / Nat.gcd j p) * j) = f (n * j) + d * (j / Nat.gcd j p : Nat)
  have e : (n + p / Nat.gcd j p) * j = n * j + j / Nat.gcd j p * p := by
    rw [Nat.add_mul]
    refine congrArg (n * j + ·) ?_
    generalize hk : Nat.gcd j p = k at g1 g2 g3
    generalize j / k = a at g2
    generalize p / k = b at g3
    rw [← g2, ← g3, Nat.mul_comm a k, ← Nat.mul_assoc, Nat.mul_assoc b k, Nat.mul_comm k a, ← Nat.mul_assoc, Nat.mul_comm b]
    simp [Nat.mul_assoc, Nat.mul_comm, Nat.mul_left_comm]
  have hs : s ≤ n * j := by
    have h1 : s + j - 1 < (n + 1) * j := by
      have := Nat.lt_mul_of_div_lt (show (s + j - 1) / j < n + 1 by omega) hj
      exact this
    rw [Nat.add_mul, Nat.one_mul] at h1
    omega
  rw [e, h.per.mul _ _ hs, Int.mul_comm d]
section
variable {P : Program} {w : World} {K : PySem.W.Frag} {mg : Str → Option Value} {base : Heap} {CE CN CT CB CR : Addr} {tM tP tF : Tok}
/-! ### row + row, row + j -/
def spAdd (CT CR : Addr) : Sp := fun vs H Q E => ∃ (a : Addr) (f : Nat → Int) (s p : Nat) (d : Int) (v : V), vs = [.ref a, v] ∧ RowAt CR H a f s p d ∧ d.natAbs < big ∧
  ((∃ (b : Addr) (g : Nat → Int) (s' p' : Nat) (d' : Int), v = .ref b ∧ RowAt CR H b g s' p' d' ∧ d'.natAbs < big ∧ max s s' + Nat.lcm p p' ≤ 100000 ∧ NewRow CT CR H (fun n => f n + 1 * g n) Q E) ∨ ∃ j : Int, v = .int j ∧ NewRow CT CR H (fun n => f n + j) Q E)
abbrev s_Row_add : Stmt := inClass (top 31) 14
abbrev N_Row_add : List Str := ["self", "other", "number"]
theorem sc_Row_add : FnScope N_Row_add ["self", "other"] (defScope s_Row_add) := ⟨rfl, rfl, rfl, by decide +kernel, rfl, by decide +kernel, by decide +kernel⟩
theorem ok_add {fa fE : Addr} {fd : FuncData} (F : Fun K "__add__" "Row.__add__" s_Row_add fa fd) (T : Tx K mg CE CN CT CB CR tM tP tF) (hC : ClR K CR) (C : RowK K CR fE) (c_is_integer : Cal P w K mg base CX0 1 "is_integer" spInt) (c_joined : Cal P w K mg base (L2.CX P w) 6 "joined" (spJoin CT CR)) (c_Row : Mkc P w K mg base (L2.CX P w) 4 CR "Row" (spRow0 CT CR)) :
    FnOk P w K mg base (L2.CX P w) 7 fa fd ["self", "other"] (spAdd CT CR) := by
  refine F.okX sc_Row_add (fun vs H Q E h => ?_) (fun cdv A outer s0 H vs Q E hr h => ?_)
  · obtain ⟨a, f, s, p, d, v, rfl, _⟩ := h
    rfl
  · obtain ⟨a, f, s, p, d, v, rfl, h, hd, hv⟩ := h
    obtain ⟨dx, t, h1, h2⟩ := h.ex
    have hp := h.can.eq.pos
    have hle := h.le
    refine ⟨_, (pss_cons (ps_if (pt_val (pe_callB call_isi (by rfl) (T.bn _ (by decide +kernel)) (by decide +kernel) (pa_cons (pv 1) (pa_cons (pe_gref (by rfl) T.m_Row) pa_nil)))) (pss_one (ps_ret (pe_cal c_joined (hr.mono (by decide)) (by rfl) passC (pa_cons (pv 0) (pa_cons (pv 1) (pa_cons pe_int pa_nil)))))) pss_nil)
      (pss_cons (ps_if (pt_not (pt_val (pe_cal c_is_integer (hr.mono (by decide)) (by rfl) pass0 (pa_cons (pv 1) pa_nil)))) (pss_one ps_never) pss_nil)
      (pss_one (ps_ret (pe_mkc c_Row (hr.mono (by decide)) (by rfl) passC (pa_cons (pe_lc (own := [("number", 2)]) rfl sc_Row_add.nd (pi_tupK (K := K) rfl (pe_fld (pv 0) rfl)) (blkOk_by (own := [("number", 2)]) (N := N_Row_add) (sc := defScope s_Row_add) (by decide +kernel)) (fun _ _ _ _ _ => (pg_name (i := 2) sc_Row_add.nd rfl (by first | exact Or.inl rfl | exact Or.inr rfl))) (fun _ _ _ _ _ => pts_nil) (fun _ _ _ _ _ => (pe_op op_add (pv 2) (pv 1)))) (pa_cons (pe_fld (pv 0) rfl) (pa_cons (pe_fld (pv 0) rfl) pa_nil)))))))), ?_⟩
    rcases hv with ⟨b, g, s', p', d', rfl, h', hd', hL, k⟩ | ⟨j, rfl, k⟩
    · refine ⟨_, rfl, _, _, _, _, true, rfl, .own CR, h'.tyX hC C, C.kR, _, rfl, ?_⟩
      refine iteT ?_
      exact ⟨_, rfl, _, rfl, a, b, f, g, s, p, d, s', p', d', 1, rfl, .inl rfl, h, h', hd, hd', hL, k⟩
    · refine ⟨_, rfl, _, _, _, _, false, rfl, .own CR, .base (.int j), C.kI, _, rfl, ?_⟩
      refine iteF ?_
      refine ⟨_, rfl, _, .int j, rfl, .int j, _, rfl, iteF ?_⟩
      refine ⟨_, rfl, a, CR, dx, _, _, rfl, h1, hC.cl, hC.nT, rfl, t, rfl, ⟨_, SqT.of h2⟩, fun D hD => ?_⟩
      have nt : t ≠ D := ne_of_none h2 hD
      refine lc_it (walk_tup (K := K) (xs := fl f (s + p))) (fun i Hx => Hx = upd H D (.lst (fl (fun n => f n + j) i))) rfl (fun i Hx _ e => SqT.of (by rw [e, upd_ne nt]; exact h2)) ?_ ?_
      · rintro i x Hx H' hi rfl ⟨rfl, hx⟩
        have hi : i < s + p := by rw [fl_len] at hi; exact hi
        rw [fl_at hi] at hx
        cases hx
        refine ⟨rfl, _, rfl, _, rfl, _, _, rfl, rfl, _, upd_same, by rw [fl_len]; show i < 16777216; omega, ?_⟩
        show upd (upd H D _) D _ = _
        rw [upd_upd, fl_snoc (fun n => f n + j)]
      · rintro Hx rfl
        rw [fl_len]
        have ed : Ext H (upd H D (.lst (fl (fun n => f n + j) (s + p)))) := Ext.upd hD
        have fd : (upd H D (.lst (fl (fun n => f n + j) (s + p)))) D = some (.lst (fl (fun n => f n + j) (s + p))) := upd_same
        generalize (upd H D (.lst (fl (fun n => f n + j) (s + p)))) = H2 at ed fd
        refine ⟨_, rfl, a, CR, dx, _, _, rfl, ed _ _ h1, hC.cl, hC.nM, rfl, _, rfl, a, CR, dx, _, _, rfl, ed _ _ h1, hC.cl, hC.nG, rfl, ?_⟩
        refine mk_row (.inl fd) ?_ (by omega) (by omega) (k.ext ed)
        rw [Nat.add_sub_cancel]
        exact eq_add h.can.eq j
end
end K10
end
section
set_option Elab.async false
set_option autoImplicit false
set_option linter.all false
set_option maxRecDepth 100000
set_option maxHeartbeats 1000000
set_option pp.maxSteps 1500
namespace K10
open PySem PySem.Spec PyProof.Rows L2 Ls RowM
open C8 (pss_cut tCut)
open TL
section
variable {P : Program} {w : World} {K : PySem.W.Frag} {mg : Str → Option Value} {base : Heap} {CE CN CT CB CR : Addr} {tM tP tF : Tok}
/-! ### row.every(j) -/
def spEvery (CN CT CR : Addr) : Sp := fun vs H Q E => ∃ (a : Addr) (f : Nat → Int) (s p : Nat) (d : Int) (v : V) (D : PyData), vs = [.ref a, v] ∧ RowAt CR H a f s p d ∧ d.natAbs < big ∧ TV H v D ∧ (∀ j : Nat, 1 ≤ j → D = .int j → j < 2 ^ 800 ∧ NewRow CT CR H (fun n => f (n * j)) Q E) ∧ ((∀ i, D = .int i → i < 1) → Errs CN "value" v H E)
abbrev s_Row_every : Stmt := inClass (top 31) 23
abbrev N_Row_every : List Str := ["self", "j", "begin", "period", "numbers", "n"]
theorem sc_Row_every : FnScope N_Row_every ["self", "j"] (defScope s_Row_every) := ⟨rfl, rfl, rfl, by decide +kernel, rfl, by decide +kernel, by decide +kernel⟩
theorem ok_every {fa : Addr} {fd : FuncData} (F : Fun K "every" "Row.every" s_Row_every fa fd) (T : Tx K mg CE CN CT CB CR tM tP tF) (hC : ClR K CR) (c_need_from : Cal P w K mg base (L2.CX P w) 3 "need_from" (spNeed CN)) (c_start : Prp P w K mg base CX0 1 (· = CR) "start" (spStart CR)) (c_divisor : Cal P w K mg base CX0 1 "divisor" spDivr) (o_number : OwnM P w K mg base CX0 3 CR "number" (spNum CR)) (c_Row : Mkc P w K mg base (L2.CX P w) 4 CR "Row" (spRow0 CT CR)) :
    FnOk P w K mg base (L2.CX P w) 6 fa fd ["self", "j"] (spEvery CN CT CR) := by
  refine F.okX sc_Row_every (fun vs H Q E h => ?_) (fun cdv A outer s0 H vs Q E hr h => ?_)
  · obtain ⟨a, f, s, p, d, v, D, rfl, _⟩ := h
    rfl
  · obtain ⟨a, f, s, p, d, v, D, rfl, h, hd, hv, k, ke⟩ := h
    obtain ⟨dx, t, h1, h2⟩ := h.ex
    have hp := h.can.eq.pos
    have hle := h.le
    refine ⟨_, (pss_cons (ps_expr (pe_cal c_need_from (hr.mono (by decide)) (by rfl) passC (pa_cons (pv 1) (pa_cons pe_int pa_nil))))
      (pss_cons (ps_set (i := 2) sc_Row_every.nd rfl (by first | exact Or.inl rfl | exact Or.inr rfl) (pe_op op_fdivW (pe_op op_sub (pe_op op_add ((pe_prp c_start (hr.mono (by decide)) pass0) (pv 0)) (pv 1)) pe_int) (pv 1)))
      (pss_cons (ps_set (i := 3) sc_Row_every.nd rfl (by first | exact Or.inl rfl | exact Or.inr rfl) (pe_op op_fdiv (pe_fld (pv 0) rfl) (pe_cal c_divisor (hr.mono (by decide)) (by rfl) pass0 (pa_cons (pv 1) (pa_cons (pe_fld (pv 0) rfl) pa_nil)))))
      (pss_cons (ps_setLc (i := 4) (own := [("n", 5)]) rfl sc_Row_every.nd rfl rfl (sw_true rfl rfl rfl (by decide +kernel)) (pi_range1 rfl (T.bn _ (by decide +kernel)) (pa_cons (pe_op op_add (pv 2) (pv 3)) pa_nil)) (blkOk_by (own := [("n", 5)]) (N := N_Row_every) (sc := defScope s_Row_every) (by decide +kernel)) (fun _ _ _ _ _ => (pg_name (i := 5) sc_Row_every.nd rfl (by first | exact Or.inl rfl | exact Or.inr rfl))) (fun _ _ _ _ _ => pts_nil) (fun _ _ _ _ _ => (pe_om o_number (hr.mono (by decide)) (pv 0) pass0 (pa_cons (pe_op op_mul (pv 5) (pv 1)) pa_nil))))
      (pss_one (ps_ret (pe_mkc c_Row (hr.mono (by decide)) (by rfl) passC (pa_cons (pv 4) (pa_cons (pv 3) (pa_cons (pe_op op_mulW (pe_fld (pv 0) rfl) (pe_op op_fdiv (pe_op op_mul (pv 3) (pv 1)) (pe_fld (pv 0) rfl))) pa_nil)))))))))), ?_⟩
    refine ⟨_, rfl, v, D, 1, rfl, hv, fun i e hi => ?_, fun hb => ke hb⟩
    subst e
    cases tv_int hv
    obtain ⟨j, rfl⟩ : ∃ n : Nat, i = n := ⟨i.toNat, by omega⟩
    have hj1 : 1 ≤ j := by omega
    obtain ⟨hj, q⟩ := k j hj1 rfl
    have hb : (2 : Nat) ^ 800 * 3000 < big := by decide
    have g1 : 1 ≤ Nat.gcd j p := Nat.gcd_pos_of_pos_left p hj1
    have g2 : Nat.gcd j p ≤ p := Nat.gcd_le_right j hp
    have lg : (j : Int).natAbs.log2 < 9000 := (wide_div (j := (j : Int)) (b := 800) (i := 0) (by omega) hj (by decide) (by decide)).2
    refine ⟨_, rfl, a, CR, dx, _, rfl, h1, rfl, a, f, s, p, d, rfl, h, _, rfl, _, _, rfl, rfl, _, _, rfl, rfl, _, rfl, _, _, rfl, rfl, ⟨by omega, lg⟩, ?_⟩
    have hB : (s + j - 1) / j ≤ s := by
      have h1 : s + j - 1 < j * (s + 1) := by
        have := Nat.le_mul_of_pos_left s hj1
        rw [Nat.mul_add, Nat.mul_one]
        omega
      have := Nat.div_lt_of_lt_mul h1
      omega
    have hP : p / Nat.gcd j p ≤ p := Nat.div_le_self _ _
    have eB : ((s : Int) + j - 1) / j = (((s + j - 1) / j : Nat) : Int) := by
      rw [Int.natCast_ediv]
      congr 1
      omega
    have eP : (p : Int) / (Nat.gcd j p : Nat) = ((p / Nat.gcd j p : Nat) : Int) := by rw [Int.natCast_ediv]
    have eq := eq_every h.can.eq hj1
    show gName 2 (V.int (((s : Int) + j - 1) / j)) _ _ _
    rw [eB]
    refine ⟨_, rfl, a, CR, dx, _, _, rfl, h1, hC.cl, hC.nM, rfl, _, rfl, _, rfl, a, CR, dx, _, _, rfl, h1, hC.cl, hC.nM, rfl, j, p, rfl, _, _, rfl, rfl, ⟨by show (0 : Int) < (Nat.gcd j p : Nat); omega, by show ((Nat.gcd j p : Nat) : Int) < 1073741824; omega⟩, ?_⟩
    show gName 3 (V.int ((p : Int) / (Nat.gcd j p : Nat))) _ _ _
    rw [eP]
    generalize hb' : (s + j - 1) / j = B at hB eq
    generalize hp' : p / Nat.gcd j p = P at hP eq
    have eg2 := Nat.div_mul_cancel (Nat.gcd_dvd_right j p)
    have eg1 := Nat.div_mul_cancel (Nat.gcd_dvd_left j p)
    have ePj : P * j = j / Nat.gcd j p * p := by
      rw [← hp']
      generalize hk : Nat.gcd j p = k at g1 g2 eg1 eg2
      generalize j / k = x at eg1
      generalize p / k = y at eg2
      rw [← eg1, ← eg2]
      simp [Nat.mul_assoc, Nat.mul_comm, Nat.mul_left_comm]
    have eJ : ((P : Int) * j) / p = ((j / Nat.gcd j p : Nat) : Int) := by
      rw [← Int.natCast_mul, ePj, ← Int.natCast_ediv, Nat.mul_div_cancel _ hp]
    have hJ : j / Nat.gcd j p ≤ j := Nat.div_le_self _ _
    refine ⟨_, rfl, _, rfl, _, _, rfl, rfl, _, rfl, by omega, by omega, fun D hD => ?_⟩
    rw [show ((B : Int) + (P : Int)).toNat = B + P by omega]
    refine lc_it walk_range (fun i Hx => Hx = upd H D (.lst (fl (fun n => f (n * j)) i))) rfl (fun _ _ _ _ => trivial) ?_ ?_
    · rintro i x Hx H' hi rfl ⟨rfl, rfl⟩
      have hi : i < B + P := hi
      have ed : Ext H (upd H D (.lst (fl (fun n => f (n * j)) i))) := Ext.upd hD
      have hij : (0 + i) * j < big := by
        have : (0 + i) * j ≤ 3000 * j := Nat.mul_le_mul_right j (by omega)
        have h2 : 3000 * j ≤ 3000 * 2 ^ 800 := Nat.mul_le_mul_left _ (Nat.le_of_lt hj)
        rw [Nat.mul_comm 3000 (2 ^ 800)] at h2
        omega
      refine ⟨rfl, _, rfl, a, dx, _, rfl, ed _ _ h1, rfl, _, rfl, _, rfl, _, _, rfl, rfl, .inl ⟨by omega, by omega⟩, a, f, s, p, d, (0 + i) * j, rfl, h.ext ed, hd, hij, _, upd_same, by rw [fl_len]; show i < 16777216; omega, ?_⟩
      show upd (upd H D _) D _ = _
      rw [upd_upd, Nat.zero_add, fl_snoc (fun n => f (n * j))]
    · rintro Hx rfl
      have ed : Ext H (upd H D (.lst (fl (fun n => f (n * j)) (B + P)))) := Ext.upd hD
      have fd : (upd H D (.lst (fl (fun n => f (n * j)) (B + P)))) D = some (.lst (fl (fun n => f (n * j)) (B + P))) := upd_same
      generalize (upd H D (.lst (fl (fun n => f (n * j)) (B + P)))) = H2 at ed fd
      refine ⟨_, rfl, _, rfl, _, rfl, a, CR, dx, _, _, rfl, ed _ _ h1, hC.cl, hC.nG, rfl, _, rfl, _, rfl, _, _, rfl, rfl, .inl ⟨by omega, by omega⟩, _, rfl, a, CR, dx, _, _, rfl, ed _ _ h1, hC.cl, hC.nM, rfl, _, _, rfl, rfl, ⟨by omega, by omega⟩, _, _, rfl, rfl, ?_, ?_⟩
      · show CMulW d (((P : Int) * j) / p)
        rw [eJ]
        exact wide_mul (a := 900) (b := 900) hd (show (j / Nat.gcd j p : Nat) < 2 ^ 900 from Nat.lt_of_le_of_lt hJ (Nat.lt_trans hj (by decide))) (by decide) (by decide) (by decide)
      · show ∀ x dx, H2 x = none → H2 dx = none → dx ≠ x → spRow0 CT CR [.ref x, .ref D, .int P, .int (d * (((P : Int) * j) / p))] _ _ _
        rw [eJ]
        refine mk_row (.inl fd) ?_ (by omega) (by omega) (q.ext ed)
        rw [Nat.add_sub_cancel]
        exact eq
end
end K10
end
section
set_option Elab.async false
set_option autoImplicit false
set_option linter.all false
set_option maxRecDepth 100000
set_option maxHeartbeats 1000000
set_option pp.maxSteps 1500
namespace K10
open PySem PySem.Spec PyProof.Rows L2 Ls RowM
open C8 (pss_cut tCut)
open TL
/-- no lesser period within one period -/
theorem odd_one {f : Nat → Int} {s p : Nat} {d : Int} (h : Can f s p d) {q : Nat} (h1 : 1 ≤ q) (h2 : q < p) : ∃ n, s ≤ n ∧ n < s + p ∧ f (n + q) - f n ≠ f (s + q) - f s := by
  refine Classical.byContradiction fun no => ?_
  have all : ∀ n, s ≤ n → n < s + p → f (n + q) = f n + (f (s + q) - f s) := fun n a b => by
    have : f (n + q) - f n = f (s + q) - f s := Classical.byContradiction fun z => no ⟨n, a, b, z⟩
    omega
  have e : EQ f s q (f (s + q) - f s) := ⟨h1, fun n hn => by
    have m1 := Nat.mod_lt (n - s) h.eq.pos
    have m2 := Nat.mod_add_div' (n - s) p
    have a1 := h.eq.per.mul ((n - s) / p) (s + (n - s) % p) (by omega)
    have a2 := h.eq.per.mul ((n - s) / p) (s + (n - s) % p + q) (by omega)
    have a3 := all (s + (n - s) % p) (by omega) (by omega)
    rw [show s + (n - s) % p + (n - s) / p * p = n by omega] at a1
    rw [show s + (n - s) % p + q + (n - s) / p * p = n + q by omega] at a2
    omega⟩
  have := h.few _ _ _ e
  omega
theorem RowAt.keep {CR : Addr} {H H' : Hp} {a pn c : Addr} {n : Nat} {f : Nat → Int} {s p : Nat} {d : Int} (h : RowAt CR H a f s p d) (hp : PenAt H pn c n) (k : Keep pn c H H') : RowAt CR H' a f s p d := by
  obtain ⟨dx, t, h1, h2⟩ := h.ex
  obtain ⟨ns, x1, x2, y1, y2, _⟩ := hp
  have up : ∀ {b : Addr} {o : HO}, H b = some o → (∀ zs, o ≠ .lst zs) → H' b = some o := fun {b o} e n =>
    k b o e (fun z => by rw [z, y1] at e; exact n _ (Option.some.inj e).symm) (fun z => by rw [z, y2] at e; exact n _ (Option.some.inj e).symm)
  exact ⟨⟨dx, t, up h1 (fun zs z => by cases z), up h2 (fun zs z => by cases z)⟩, h.can, h.le⟩
/-- a row that stands for sure -/
theorem new_ok {CT CR : Addr} {H : Hp} {h : Nat → Int} {s p : Nat} {d : Int} {Q : VK} {E : XK} (hq : EQ h s p d) (hb : s + p ≤ 2000) (k : ∀ s' p' d' x H', s' ≤ s → p' ≤ p → d'.natAbs ≤ d.natAbs → Ext H H' → RowAt CR H' x h s' p' d' → Q (.ref x) H') : NewRow CT CR H h Q E := fun s' p' d' c => by
  have h1 := c.low _ _ _ hq
  have h2 := c.few _ _ _ hq
  exact ⟨fun _ x H' e r => k s' p' d' x H' h1 h2 (can_small c hq) e r, fun hm => absurd hm (by omega)⟩
theorem mk_row2 {CT CR : Addr} {H : Hp} {l : Addr} {h : Nat → Int} {L p : Nat} {d : Int} {Qf : Addr → VK} {E : XK} (hl : H l = some (.lst (fl h L)) ∨ H l = some (.tup (fl h L))) (hq : EQ h (L - p) p d) (hp : p ≤ L) (hL : L ≤ 2000)
    (k : ∀ s' p' d' x H', s' ≤ L - p → p' ≤ p → d'.natAbs ≤ d.natAbs → Ext H H' → RowAt CR H' x h s' p' d' → Qf x .non H') :
    ∀ x dx, H x = none → H dx = none → dx ≠ x → spRow0 CT CR [.ref x, .ref l, .int p, .int d] (upd (upd H dx (.own x)) x (.ins CR dx [])) (Qf x) E := fun x dx nx nd ne => by
  have up : ∀ {o : HO}, H l = some o → (upd (upd H dx (.own x)) x (.ins CR dx [])) l = some o := fun {o} q => by
    rw [upd_ne (ne_of_none q nx), upd_ne (ne_of_none q nd)]
    exact q
  refine ⟨x, dx, l, h, L, p, d, rfl, upd_same, hl.elim (fun q => .inl (up q)) (fun q => .inr (up q)), hq, hp, by omega, fun s q e c hsq => ⟨fun _ H' hk r => k s q e x H' (c.low _ _ _ hq) (c.few _ _ _ hq) (can_small c hq) (keep_new nx nd hk ne) r, fun hm => absurd hm (by omega)⟩⟩
section
variable {P : Program} {w : World} {K : PySem.W.Frag} {mg : Str → Option Value} {base : Heap} {CE CN CT CB CR : Addr} {tM tP tF : Tok}
theorem add_ok {rA a b : Addr} {H : Hp} {f g : Nat → Int} {s p : Nat} {d : Int} {s' p' : Nat} {d' : Int} {Q : VK} {E : XK} (r : RowAt CR H a f s p d) (r' : RowAt CR H b g s' p' d') (hd : d.natAbs < big) (hd' : d'.natAbs < big) (hb : max s s' + Nat.lcm p p' ≤ 2000)
    (k : ∀ s1 p1 d1 x H', d1.natAbs ≤ (d * (Nat.lcm p p' / p : Nat) + 1 * (d' * (Nat.lcm p p' / p' : Nat))).natAbs → Ext H H' → RowAt CR H' x (fun n => f n + 1 * g n) s1 p1 d1 → Q (.ref x) H') : rBinO K "add" CR rA (spAdd CT CR) E (.ref a) (.ref b) H Q := by
  obtain ⟨dx, t, h1, h2⟩ := r.ex
  obtain ⟨dy, t', h1', h2'⟩ := r'.ex
  have hm1 : 1 ≤ Nat.lcm p p' := Nat.lcm_pos r.can.eq.pos r'.can.eq.pos
  refine ⟨a, dx, _, rfl, h1, .inl ⟨b, dy, _, rfl, h1'⟩, a, f, s, p, d, .ref b, rfl, r, hd, .inl ⟨b, g, s', p', d', rfl, r', hd', by omega, new_ok (eq_lin (eq_to (r.can.eq.up (Nat.le_max_left s s')) (Nat.dvd_lcm_left p p') hm1) (eq_to (r'.can.eq.up (Nat.le_max_right s s')) (Nat.dvd_lcm_right p p') hm1)) (by omega) fun s1 p1 d1 x H' _ _ hd1 e r1 => k s1 p1 d1 x H' hd1 e r1⟩⟩
theorem eq_row {a b fE : Addr} {H : Hp} {f g : Nat → Int} {s p : Nat} {d : Int} {s' p' : Nat} {d' : Int} {Q : VK} {E : XK} (hC : ClR K CR) (C : RowK K CR fE) (r : RowAt CR H a f s p d) (r' : RowAt CR H b g s' p' d') (e : f = g) (q : Q (.bl true) H) : rEqO K fE (spEq CR) E (.ref a) (.ref b) H Q := by
  obtain ⟨dx, t, h1, h2⟩ := r.ex
  exact ⟨a, CR, dx, _, .ref CR, rfl, h1, C.eq, r'.tyX hC C, C.nfR, a, b, f, g, s, p, d, s', p', d', rfl, r, r', fun _ => ⟨_, rfl, q⟩, fun n => absurd e n⟩
theorem ne_row {a b fE : Addr} {H : Hp} {f g : Nat → Int} {s p : Nat} {d : Int} {s' p' : Nat} {d' : Int} {Q : VK} {E : XK} (hC : ClR K CR) (C : RowK K CR fE) (r : RowAt CR H a f s p d) (r' : RowAt CR H b g s' p' d') (e : f = g) (q : Q (.bl false) H) : rNeO K fE (spEq CR) E (.ref a) (.ref b) H Q := by
  obtain ⟨dx, t, h1, h2⟩ := r.ex
  exact ⟨a, CR, dx, _, .ref CR, rfl, h1, C.eq, C.ne, C.hm, r'.tyX hC C, C.nfR, a, b, f, g, s, p, d, s', p', d', rfl, r, r', fun _ => ⟨_, rfl, q⟩, fun n => absurd e n⟩
theorem st_ok {a : Addr} {H : Hp} {f : Nat → Int} {s p : Nat} {d : Int} {Q : VK} (r : RowAt CR H a f s p d) (q : Q (.int s) H) : ∃ a_1 C dx fs, V.ref a = V.ref a_1 ∧ H a_1 = some (.ins C dx fs) ∧ (C = CR) ∧ spStart CR [.ref a_1] H Q E0 := by
  obtain ⟨dx, t, h1, h2⟩ := r.ex
  exact ⟨a, CR, dx, _, rfl, h1, rfl, a, f, s, p, d, rfl, r, q⟩
theorem pr_ok {a : Addr} {H : Hp} {f : Nat → Int} {s p : Nat} {d : Int} {Q : VK} (r : RowAt CR H a f s p d) (q : Q (.int p) H) : ∃ a_1 C dx fs, V.ref a = V.ref a_1 ∧ H a_1 = some (.ins C dx fs) ∧ (C = CR) ∧ spPeriod CR [.ref a_1] H Q E0 := by
  obtain ⟨dx, t, h1, h2⟩ := r.ex
  exact ⟨a, CR, dx, _, rfl, h1, rfl, a, f, s, p, d, rfl, r, q⟩
theorem sp_ok {a : Addr} {H : Hp} {f : Nat → Int} {s p : Nat} {d : Int} {Q : VK} (r : RowAt CR H a f s p d) (q : Q (.int d) H) : ∃ a_1 C dx fs, V.ref a = V.ref a_1 ∧ H a_1 = some (.ins C dx fs) ∧ (C = CR) ∧ spStep CR [.ref a_1] H Q E0 := by
  obtain ⟨dx, t, h1, h2⟩ := r.ex
  exact ⟨a, CR, dx, _, rfl, h1, rfl, a, f, s, p, d, rfl, r, q⟩
/-- a row that stands for sure; its period divides the one that is told -/
theorem new_okd {H : Hp} {h : Nat → Int} {s p : Nat} {d : Int} {Q : VK} {E : XK} (hq : EQ h s p d) (hb : s + p ≤ 2000) (k : ∀ s' p' d' x H', s' ≤ s → p' ∣ p → d'.natAbs ≤ d.natAbs → Ext H H' → RowAt CR H' x h s' p' d' → Q (.ref x) H') : NewRow CT CR H h Q E := fun s' p' d' c => by
  have h1 := c.low _ _ _ hq
  have h2 := c.few _ _ _ hq
  exact ⟨fun _ x H' e r => k s' p' d' x H' h1 (c.dvd hq).1 (can_small c hq) e r, fun hm => absurd hm (by omega)⟩
/-- a row whose numbers are known to go on so -/
theorem new_can {H : Hp} {h : Nat → Int} {s p : Nat} {d : Int} {Q : VK} {E : XK} (hc : Can h s p d) (hb : s + p ≤ 2000) (k : ∀ x H', Ext H H' → RowAt CR H' x h s p d → Q (.ref x) H') : NewRow CT CR H h Q E := fun s' p' d' c => by
  obtain ⟨rfl, rfl, rfl⟩ := hc.uniq c
  exact ⟨fun _ x H' e r => k x H' e r, fun hm => absurd hm (by omega)⟩
/-- too many numbers -/
theorem new_many {H : Hp} {h : Nat → Int} {Q : VK} {E : XK} (hb : ∀ s p d, Can h s p d → 2000 < p) (k : ∀ H', Ext H H' → Errs CT "most" (.int 2000) H' E) : NewRow CT CR H h Q E := fun s' p' d' c => by
  have := hb _ _ _ c
  exact ⟨fun hm => absurd hm (by omega), fun _ H' e => k H' e⟩
end
end K10
end
section
set_option Elab.async false
set_option autoImplicit false
set_option linter.all false
set_option maxRecDepth 100000
set_option maxHeartbeats 1000000
set_option pp.maxSteps 1500
namespace K10
open PySem PySem.Spec PyProof.Rows L2 Ls RowM
open C8 (pss_cut tCut)
open TL
section
variable {P : Program} {w : World} {K : PySem.W.Frag} {mg : Str → Option Value} {base : Heap} {CE CN CT CB CR : Addr} {tM tP tF : Tok}
/-! ### Row(..) of any values -/
/-- what is refused, and with what -/
def BadRow (K : PySem.W.Frag) (H : Hp) (N P S bad : V) : Prop :=
  (bad = N ∧ ∃ ty, (∀ H', LamX.ExtN H H' → TyX K H' N ty) ∧ PySem.W.kitAny K ty [.type "list", .type "tuple"] = some false) ∨
  (∃ (l : Addr) (xs : List V) (ty : Value), N = .ref l ∧ (∀ H', LamX.ExtN H H' → (SqL K H' l xs ∨ SqT K H' l xs) ∧ TyX K H' N ty) ∧ PySem.W.kitAny K ty [.type "list", .type "tuple"] = some true ∧ xs.length ≤ 1000 ∧
    ((xs = [] ∧ bad = N) ∨ (xs ≠ [] ∧ bad = P ∧ ∃ D : PyData, TV (vis [] H) P D ∧ ∀ i : Int, D = .int i → ¬ (1 ≤ i ∧ i ≤ xs.length)) ∨
     (xs ≠ [] ∧ (∃ p : Int, P = .int p ∧ 1 ≤ p ∧ p ≤ xs.length) ∧ ∃ (i : Nat) (D : PyData), (S :: xs)[i]? = some bad ∧ (∀ j, j < i → ∃ z : Int, (S :: xs)[j]? = some (V.int z)) ∧ TV (vis [] H) bad D ∧ isIntD D = false)))
def spRowX (CN CT CR : Addr) (K : PySem.W.Frag) : Sp := fun vs H Q E => spRow0 CT CR vs H Q E ∨
  ∃ (x dx : Addr) (N P S bad : V), vs = [.ref x, N, P, S] ∧ H x = some (.ins CR dx []) ∧ BadRow K H N P S bad ∧ Errs CN "value" bad H E
theorem isInt_no {D : PyData} (h : isIntD D = false) (i : Int) : D ≠ .int i := fun z => by
  rw [z] at h
  cases h
theorem ok_RowX {fa : Addr} {fd : FuncData} (F : Fun K "__init__" "Row.__init__" s_Row_init fa fd) (T : Tx K mg CE CN CT CB CR tM tP tF) (hC : ClR K CR) (c_is_integer : Cal P w K mg base CX0 1 "is_integer" spInt) (c_settled : Cal P w K mg base CX0 3 "settled" spSet)
    (x_BadNumber : Xer P w K mg base CN "BadNumber" ["value"]) (x_TooMany : Xer P w K mg base CT "TooMany" ["most"]) : FnOk P w K mg base (L2.CX P w) 4 fa fd ["self", "numbers", "period", "step"] (spRowX CN CT CR K) := by
  have good := ok_Row_init F T hC c_is_integer c_settled x_BadNumber x_TooMany
  refine ⟨fun vs H Q E h => ?_, ?_⟩
  · rcases h with h | ⟨x, dx, N, P, S, bad, rfl, _⟩
    · exact good.len vs H Q E h
    · rfl
  have bad : FnOk P w K mg base (L2.CX P w) 4 fa fd ["self", "numbers", "period", "step"] (fun vs H Q E => ∃ (x dx : Addr) (N P S bad : V), vs = [.ref x, N, P, S] ∧ H x = some (.ins CR dx []) ∧ BadRow K H N P S bad ∧ Errs CN "value" bad H E) := by
    refine F.okX sc_Row_init (fun vs H Q E h => ?_) (fun cdv A outer s0 H vs Q E hr h => ?_)
    · obtain ⟨x, dx, N, P, S, bad, rfl, _⟩ := h
      rfl
    · obtain ⟨x, dx, N, P', S, bad, rfl, hx, hb, k⟩ := h
      have h4 : sizeLine = 16777216 := sizeLine_eq
      refine ⟨_, (pss_cons (ps_if ((pw_or (pt_not (pt_val (pe_callB call_isiT (by rfl) (T.bn _ (by decide +kernel)) (by decide +kernel) (pa_cons (pv 1) (pa_cons (pe_tup (pa_cons (pe_gty (T := "list") (by rfl) (T.bn _ (by decide +kernel)) (by decide +kernel)) (pa_cons (pe_gty (T := "tuple") (by rfl) (T.bn _ (by decide +kernel)) (by decide +kernel)) pa_nil))) pa_nil))))) (pw_or1 (pt_cmpR op_eq (pe_callB call_len_seq (by rfl) (T.bn _ (by decide +kernel)) (by decide +kernel) (pa_cons (pv 1) pa_nil)) pe_int (nomark _))))).pt (pss_one (ps_raise rfl tkC (pmk_err x_BadNumber (hr.mono (by decide)) (by rfl) (pa_cons (pv 1) pa_nil)))) pss_nil)
      (pss_cons (ps_if ((pw_or (pt_not (pt_val (pe_cal c_is_integer (hr.mono (by decide)) (by rfl) pass0 (pa_cons (pv 2) pa_nil)))) (pw_or1 (pt_not (pt_chain op_le op_le pe_int (pv 2) (pe_callB call_len_seq (by rfl) (T.bn _ (by decide +kernel)) (by decide +kernel) (pa_cons (pv 1) pa_nil))))))).pt (pss_one (ps_raise rfl tkC (pmk_err x_BadNumber (hr.mono (by decide)) (by rfl) (pa_cons (pv 2) pa_nil)))) pss_nil)
      (pss_cons (ps_for (passes_of rfl) rfl (pi_tup (pe_tup (pa_cons (pv 3) (StX.pa_star (pv 1) pa_nil)))) (pg_name (i := 4) sc_Row_init.nd rfl (by first | exact Or.inl rfl | exact Or.inr rfl))
      (pss_one (ps_if (pt_not (pt_val (pe_cal c_is_integer (hr.mono (by decide)) (by rfl) pass0 (pa_cons (pv 4) pa_nil)))) (pss_one (ps_raise rfl tkC (pmk_err x_BadNumber (hr.mono (by decide)) (by rfl) (pa_cons (pv 4) pa_nil)))) pss_nil)))
      (pss_cons (ps_asg (pe_cal c_settled (hr.mono (by decide)) (by rfl) pass0 (pa_cons (pe_callTy call_list_of (by rfl) (T.bn _ (by decide +kernel)) (by decide +kernel) (pa_cons (pv 1) pa_nil)) (pa_cons (pv 2) (pa_cons (pv 3) pa_nil)))) (pg_tup rfl (pgs_cons (pg_name (i := 5) sc_Row_init.nd rfl (by first | exact Or.inl rfl | exact Or.inr rfl)) (pgs_cons (pg_name (i := 6) sc_Row_init.nd rfl (by first | exact Or.inl rfl | exact Or.inr rfl)) (pgs_cons (pg_name (i := 7) sc_Row_init.nd rfl (by first | exact Or.inl rfl | exact Or.inr rfl)) pgs_nil)))))
      (pss_cons (ps_if (pt_cmpR op_gt (pe_callB call_len_seq (by rfl) (T.bn _ (by decide +kernel)) (by decide +kernel) (pa_cons (pv 5) pa_nil)) (pe_gint (by rfl) T.m_MOST_NUMBERS) (nomark _)) (pss_one (ps_raise rfl tkC (pmk_err x_TooMany (hr.mono (by decide)) (by rfl) (pa_cons (pe_gint (by rfl) T.m_MOST_NUMBERS) pa_nil)))) pss_nil)
      (pss_cons (ps_fld (pv 0) (pe_callTy call_tuple_of (by rfl) (T.bn _ (by decide +kernel)) (by decide +kernel) (pa_cons (pv 5) pa_nil)) rfl)
      (pss_cons (ps_fld (pv 0) (pv 6) rfl)
      (pss_one (ps_fld (pv 0) (pv 7) rfl))))))))), ?_⟩
      refine ⟨_, rfl, (by show 2 ≤ sizeLine; decide), fun tp ntp => ?_⟩
      have e1 : Ext H (upd H tp (.tup [.ty "list", .ty "tuple"])) := Ext.upd ntp
      have f1 : (upd H tp (.tup [.ty "list", .ty "tuple"])) tp = some (.tup [.ty "list", .ty "tuple"]) := upd_same
      generalize (upd H tp (.tup [.ty "list", .ty "tuple"])) = H1 at e1 f1
      rcases hb with ⟨rfl, ty, hty, kty⟩ | ⟨l, xs, ty, rfl, hsq, kty, hl, hb⟩
      · refine ⟨bad, tp, [.ty "list", .ty "tuple"], ty, _, false, rfl, f1, .cons (.ty _) (.cons (.ty _) .nil), hty _ (.of e1), kty, ?_⟩
        refine ⟨_, rfl, iteT ?_⟩
        exact ⟨_, rfl, rfl, (by show 1 ≤ 1000; decide), fun dd nd => k.at e1 nd⟩
      refine ⟨.ref l, tp, [.ty "list", .ty "tuple"], ty, _, true, rfl, f1, .cons (.ty _) (.cons (.ty _) .nil), (hsq _ (.of e1)).2, kty, ?_⟩
      have sq : ∀ {H' : Hp}, Ext H H' → SqL K H' l xs ∨ SqT K H' l xs := fun {H'} e => (hsq H' (.of e)).1
      refine ⟨_, rfl, iteF ?_⟩
      refine ⟨_, rfl, l, _, rfl, sq e1, rfl, _, rfl, ?_⟩
      rcases hb with ⟨rfl, rfl⟩ | ⟨ne, rfl, D, hD, nD⟩ | ⟨ne, ⟨p, rfl, p1, p2⟩, i, D, hi, hlow, hD, nD⟩
      all_goals try replace hD := TV.ext vis_ext hD
      · refine iteYes (decide_eq_true rfl) ?_
        exact ⟨_, rfl, rfl, (by show 1 ≤ 1000; decide), fun dd nd => k.at e1 nd⟩
      · have l1 : 1 ≤ xs.length := List.length_pos_iff.mpr ne
        refine iteNo (decide_eq_false fun z => by have := V.int.inj z; omega) ?_
        refine ⟨_, rfl, bad, D, rfl, hD.ext e1, _, rfl, ?_⟩
        cases hI : isIntD D with
        | false => exact iteT ⟨_, rfl, rfl, (by show 1 ≤ 1000; decide), fun dd nd => k.at e1 nd⟩
        | true =>
          obtain ⟨i, rfl⟩ := intD hI
          cases tv_int hD
          have hi := nD i rfl
          refine iteF ?_
          by_cases h1 : 1 ≤ i
          · refine ⟨_, rfl, _, _, rfl, rfl, true, congrArg V.bl (decide_eq_true (by omega)), iteT ?_⟩
            refine ⟨_, rfl, l, _, rfl, sq e1, _, _, rfl, rfl, ?_⟩
            refine ⟨_, rfl, iteYes (by rw [decide_eq_false (show ¬ i ≤ (xs.length : Int) by omega)]; rfl) ?_⟩
            exact ⟨_, rfl, rfl, (by show 1 ≤ 1000; decide), fun dd nd => k.at e1 nd⟩
          · refine ⟨_, rfl, _, _, rfl, rfl, false, congrArg V.bl (decide_eq_false (by omega)), iteF ?_⟩
            refine ⟨_, rfl, iteYes rfl ?_⟩
            exact ⟨_, rfl, rfl, (by show 1 ≤ 1000; decide), fun dd nd => k.at e1 nd⟩
      · have l1 : 1 ≤ xs.length := List.length_pos_iff.mpr ne
        refine iteNo (decide_eq_false fun z => by have := V.int.inj z; omega) ?_
        refine ⟨_, rfl, _, .int p, rfl, .int _, _, rfl, iteF ?_⟩
        refine ⟨_, rfl, _, _, rfl, rfl, true, congrArg V.bl (decide_eq_true (by omega)), iteT ?_⟩
        refine ⟨_, rfl, l, _, rfl, sq e1, _, _, rfl, rfl, ?_⟩
        refine ⟨_, rfl, iteNo (by rw [decide_eq_true (show p ≤ (xs.length : Int) by omega)]; rfl) ?_⟩
        refine ⟨_, rfl, _, rfl, l, _, rfl, (sq e1).symm, ?_⟩
        refine ⟨(by show (S :: (xs ++ [])).length ≤ sizeLine; rw [List.append_nil, List.length_cons]; omega), fun tt ntt => ?_⟩
        have e2 : Ext H1 (upd H1 tt (.tup (S :: (xs ++ [])))) := Ext.upd ntt
        have f2 : (upd H1 tt (.tup (S :: (xs ++ [])))) tt = some (.tup (S :: (xs ++ []))) := upd_same
        generalize (upd H1 tt (.tup (S :: (xs ++ [])))) = H2 at e2 f2
        rw [List.append_nil] at f2
        have e02 := e1.trans e2
        have il : i < (S :: xs).length := (List.getElem?_eq_some_iff.mp hi).1
        refine ⟨tt, rfl, ⟨_, SqT.of f2⟩, for_it (walk_tup (K := K) (xs := S :: xs)) (fun j σ H' => ∃ x4, σ = [some (.ref x), some (.ref l), some (.int p), some S, x4, none, none, none] ∧ H' = H2 ∧ j ≤ i) ⟨_, rfl, rfl, Nat.zero_le _⟩ (fun j σ H' _ ⟨_, _, e, _⟩ => SqT.of (by rw [e]; exact f2)) ?_ ?_⟩
        · rintro j v σ H' _ hj ⟨x4, rfl, rfl, ji⟩ ⟨rfl, hv⟩
          by_cases hji : j < i
          · obtain ⟨z, hz⟩ := hlow j hji
            rw [hz] at hv
            cases hv
            refine ⟨_, rfl, _, .int z, rfl, .int _, _, rfl, iteF ?_⟩
            exact ⟨_, rfl, rfl, by omega⟩
          · have : j = i := by omega
            subst this
            rw [hi] at hv
            cases hv
            refine ⟨_, rfl, bad, D, rfl, hD.ext e02, _, rfl, ?_⟩
            rw [nD]
            refine iteT ?_
            exact ⟨_, rfl, rfl, (by show 1 ≤ 1000; decide), fun dd nd => k.at e02 nd⟩
        · rintro σ H' ⟨x4, rfl, rfl, ji⟩
          omega
  intro A outer s H args us vs Q E a b c d h
  rcases h with h | h
  · exact good.run A outer s H args us vs Q E a b c d h
  · exact bad.run A outer s H args us vs Q E a b c d h
end
end K10
end
section
set_option Elab.async false
set_option autoImplicit false
set_option linter.all false
set_option maxRecDepth 100000
set_option maxHeartbeats 1000000
set_option pp.maxSteps 1500
namespace K10
open PySem PySem.Spec PyProof.Rows L2 Ls RowM
open C8 (pss_cut tCut)
open TL
/-- the heap with a new bare instance -/
theorem BadRow.extN {K : PySem.W.Frag} {H H1 : Hp} {N P S bad : V} (h : BadRow K H N P S bad) (e : LamX.ExtN H H1) : BadRow K H1 N P S bad := by
  rcases h with ⟨rfl, ty, h1, h2⟩ | ⟨l, xs, ty, rfl, h1, h2, h3, h4⟩
  · exact .inl ⟨rfl, ty, fun H' e' => h1 H' (e.trans e'), h2⟩
  · refine .inr ⟨l, xs, ty, rfl, fun H' e' => h1 H' (e.trans e'), h2, h3, ?_⟩
    rcases h4 with h | ⟨h, h', D, hD, n⟩ | ⟨h, h', i, D, a, b, hD, n⟩
    · exact .inl h
    · exact .inr (.inl ⟨h, h', D, hD.ext (vis_extN e), n⟩)
    · exact .inr (.inr ⟨h, h', i, D, a, b, hD.ext (vis_extN e), n⟩)
theorem BadRow.ext {K : PySem.W.Frag} {H H1 : Hp} {N P S bad : V} (h : BadRow K H N P S bad) (e : Ext H H1) : BadRow K H1 N P S bad := h.extN (.of e)
theorem mk_bad {K : PySem.W.Frag} {CN CT CR : Addr} {H : Hp} {N P S bad : V} {Qf : Addr → VK} {E : XK} (hb : BadRow K H N P S bad) (k : Errs CN "value" bad H E) :
    ∀ x dx, H x = none → H dx = none → dx ≠ x → spRowX CN CT CR K [.ref x, N, P, S] (upd (upd H dx (.own x)) x (.ins CR dx [])) (Qf x) E := fun x dx nx nd ne => by
  have e : Ext H (upd (upd H dx (.own x)) x (.ins CR dx [])) := (Ext.upd nd).trans (Ext.upd (by rw [upd_ne ne.symm]; exact nx))
  exact .inr ⟨x, dx, N, P, S, bad, rfl, upd_same, hb.ext e, k.ext e⟩
theorem mk_good {K : PySem.W.Frag} {CN CT CR : Addr} {H : Hp} {l : Addr} {h : Nat → Int} {L p : Nat} {d : Int} {Qf : Addr → VK} {E : XK} (hl : H l = some (.lst (fl h L)) ∨ H l = some (.tup (fl h L))) (hq : EQ h (L - p) p d) (hp : p ≤ L) (hL : L ≤ 100000)
    (k : ∀ s q e, Can h s q e → (s + q ≤ 2000 → ∀ x H', Ext H H' → RowAt CR H' x h s q e → Qf x .non H') ∧ (2000 < s + q → Errs CT "most" (.int 2000) H E)) :
    ∀ x dx, H x = none → H dx = none → dx ≠ x → spRowX CN CT CR K [.ref x, .ref l, .int p, .int d] (upd (upd H dx (.own x)) x (.ins CR dx [])) (Qf x) E := fun x dx nx nd ne => by
  have e : Ext H (upd (upd H dx (.own x)) x (.ins CR dx [])) := (Ext.upd nd).trans (Ext.upd (by rw [upd_ne ne.symm]; exact nx))
  refine .inl ⟨x, dx, l, h, L, p, d, rfl, upd_same, hl.elim (fun q => .inl (e _ _ q)) (fun q => .inr (e _ _ q)), hq, hp, hL, fun s q e' c hsq => ?_⟩
  obtain ⟨k1, k2⟩ := k s q e' c
  refine ⟨fun hm H' hk r => k1 hm x H' (keep_new nx nd hk ne) r, fun hm H1 hk => (k2 hm).ext (keep_new nx nd hk ne)⟩
def lin (b e : Int) (n : Nat) : Int := b + n * e
theorem lin_eq (b e : Int) : EQ (lin b e) 0 1 e := ⟨Nat.le_refl _, fun n _ => by
  show b + ((n + 1 : Nat) : Int) * e = b + n * e + e
  push_cast
  rw [Int.add_mul]
  omega⟩
theorem lin_can (b e : Int) : Can (lin b e) 0 1 e := ⟨lin_eq b e, fun _ _ _ _ => Nat.zero_le _, fun _ _ _ k => k.pos⟩
section
variable {P : Program} {w : World} {K : PySem.W.Frag} {mg : Str → Option Value} {base : Heap} {CE CN CT CB CR : Addr} {tM tP tF : Tok}
/-! ### Row.even(..) of any values -/
def spEvenX (CN CR : Addr) : Sp := fun vs H Q E => (∃ (b e : Int), vs = [.int b, .int e] ∧ ∀ x H', Ext H H' → RowAt CR H' x (lin b e) 0 1 e → Q (.ref x) H') ∨
  ∃ (b e bad : V) (D : PyData), vs = [b, e] ∧ TV H bad D ∧ isIntD D = false ∧ Errs CN "value" bad H E ∧ (bad = e ∨ ((∃ i : Int, e = .int i) ∧ bad = b))
abbrev s_Row_even : Stmt := inClass (top 31) 2
abbrev N_Row_even : List Str := ["first", "step"]
theorem sc_Row_even : FnScope N_Row_even ["first", "step"] (defScope s_Row_even) := ⟨rfl, rfl, rfl, by decide +kernel, rfl, by decide +kernel, by decide +kernel⟩
theorem ok_evenX {fa : Addr} {fd : FuncData} (F : Fun K "even" "Row.even" s_Row_even fa fd) (T : Tx K mg CE CN CT CB CR tM tP tF) (c_Row : Mkc P w K mg base (L2.CX P w) 4 CR "Row" (spRowX CN CT CR K)) :
    FnOk P w K mg base (L2.CX P w) 6 fa fd ["first", "step"] (spEvenX CN CR) := by
  refine F.okX sc_Row_even (fun vs H Q E h => ?_) (fun cdv A outer s0 H vs Q E hr h => ?_)
  · rcases h with ⟨b, e, rfl, _⟩ | ⟨b, e, bad, D, rfl, _⟩ <;> rfl
  · rcases h with ⟨b, e, rfl, k⟩ | ⟨b, e, bad, D, rfl, hD, nD, k, hb⟩
    · refine ⟨_, (pss_one (ps_ret (pe_mkc c_Row (hr.mono (by decide)) (by rfl) passC (pa_cons (pe_lst (pa_cons (pv 0) pa_nil)) (pa_cons pe_int (pa_cons (pv 1) pa_nil)))))), ?_⟩
      refine ⟨_, rfl, (by show 1 ≤ sizeLine; decide), fun l nl => ?_⟩
      have e1 : Ext H (upd H l (.lst [V.int b])) := Ext.upd nl
      have f1 : (upd H l (.lst [V.int b])) l = some (.lst (fl (lin b e) 1)) := by
        rw [upd_same]
        show some (HO.lst [V.int b]) = some (HO.lst [V.int (b + ((0 : Nat) : Int) * e)])
        rw [Int.natCast_zero, Int.zero_mul, Int.add_zero]
      generalize (upd H l (.lst [V.int b])) = H1 at e1 f1
      refine ⟨_, rfl, ?_⟩
      refine mk_good (p := 1) (.inl f1) (lin_eq b e) (by decide) (by decide) fun s q e' c => ?_
      obtain ⟨rfl, rfl, rfl⟩ := (lin_can b e).uniq c
      exact ⟨fun _ x H' e2 r => ⟨rfl, k x H' (e1.trans e2) r⟩, fun hm => absurd hm (by decide)⟩
    · refine ⟨_, (pss_one (ps_ret (pe_mkc c_Row (hr.mono (by decide)) (by rfl) passC (pa_cons (pe_lst (pa_cons (pv 0) pa_nil)) (pa_cons pe_int (pa_cons (pv 1) pa_nil)))))), ?_⟩
      refine ⟨_, rfl, (by show 1 ≤ sizeLine; decide), fun l nl => ?_⟩
      have e1 : Ext H (upd H l (.lst [b])) := Ext.upd nl
      have f1 : (upd H l (.lst [b])) l = some (.lst [b]) := upd_same
      generalize (upd H l (.lst [b])) = H1 at e1 f1
      refine ⟨_, rfl, ?_⟩
      refine mk_bad (bad := bad) (.inr ⟨l, [b], .type "list", rfl, fun H' e' => ⟨.inl (SqL.of (e' _ _ f1 fun ps z => nomatch z)), .base (.lst (e' _ _ f1 fun ps z => nomatch z))⟩, kit_seqL, by show 1 ≤ 1000; decide, .inr (.inr ⟨by simp, ⟨1, rfl, by decide, by show (1 : Int) ≤ ((1 : Nat) : Int); decide⟩, ?_⟩)⟩) (k.ext e1)
      rcases hb with rfl | ⟨⟨i, rfl⟩, rfl⟩
      · exact ⟨0, D, rfl, fun j hj => absurd hj (Nat.not_lt_zero j), (tv_vis hD).ext (vis_mono e1), nD⟩
      · exact ⟨1, D, rfl, fun j hj => ⟨i, by
          have : j = 0 := by omega
          rw [this]
          rfl⟩, (tv_vis hD).ext (vis_mono e1), nD⟩
/-! ### row.numbers(n) -/
def spNumsG (CN CR : Addr) : SpG := fun vs H Q E => ∃ (a : Addr) (f : Nat → Int) (s p : Nat) (d : Int) (v : V) (D : PyData), vs = [.ref a, v] ∧ RowAt CR H a f s p d ∧ d.natAbs < big ∧ TV H v D ∧
  (∀ n : Nat, D = .int n → n < 1000 ∧ Q (fl f n) H) ∧ ((∀ i, D = .int i → i < 0) → Errs CN "value" v H E)
abbrev s_Row_numbers : Stmt := inClass (top 31) 12
abbrev N_Row_numbers : List Str := ["self", "n", "k"]
theorem gsc_Row_numbers : GScope N_Row_numbers ["self", "n"] (defScope s_Row_numbers) := ⟨rfl, rfl, rfl, by decide +kernel, rfl, by decide +kernel, by decide +kernel⟩
theorem ok_numsG {fa : Addr} {fd : FuncData} (F : Fun K "numbers" "Row.numbers" s_Row_numbers fa fd) (T : Tx K mg CE CN CT CB CR tM tP tF) (c_need_from : Cal P w K mg base (L2.CX P w) 3 "need_from" (spNeed CN)) (o_number : OwnM P w K mg base CX0 3 CR "number" (spNum CR)) :
    GFn P w K mg base 6 fa fd ["self", "n"] (spNumsG CN CR) := by
  obtain ⟨_, _, _, _, _, _, _, _, _, rfl, lk, hcd⟩ := F.ex
  refine gfn_of (N := N_Row_numbers) lk hcd gsc_Row_numbers (fun vs H Q E h => ?_) (fun A outer s0 H vs Q E pn hr h => ?_)
  · obtain ⟨a, f, s, p, d, v, D, rfl, _⟩ := h
    rfl
  · obtain ⟨a, f, s, p, d, v, D, rfl, h, hd, hv, k, ke⟩ := h
    obtain ⟨dx, t, h1, h2⟩ := h.ex
    refine ⟨_, (gss_cons (gs_ps (ps_expr (pe_cal c_need_from (hr.mono (by decide)) (by rfl) passG (pa_cons (pv 1) (pa_cons pe_int pa_nil)))))
      (gss_cons (gs_for owns_gcx rfl (pi_range1 rfl (T.bn _ (by decide +kernel)) (pa_cons (pv 1) pa_nil)) (pg_name (i := 2) gsc_Row_numbers.nd rfl (by first | exact Or.inl rfl | exact Or.inr rfl))
        (gss_cons (gs_yield (pe_om o_number (hr.mono (by decide)) (pv 0) pass0 (pa_cons (pv 2) pa_nil))) gss_nil)) gss_nil)), ?_⟩
    refine ⟨_, rfl, v, D, 0, rfl, hv, fun i e hi => ?_, fun hb => ke hb⟩
    subst e
    cases tv_int hv
    obtain ⟨n, rfl⟩ : ∃ n : Nat, i = n := ⟨i.toNat, by omega⟩
    obtain ⟨hn, q⟩ := k n rfl
    refine ⟨_, rfl, n, rfl, by omega, by omega, ?_⟩
    rw [show ((n : Nat) : Int).toNat = n from rfl]
    refine forG_range (n := n) (fun i ys σ H' => ∃ x2, σ = [some (.ref a), some (.int n), x2] ∧ H' = H ∧ ys = fl f i) ⟨_, rfl, rfl, rfl⟩ ?_ ?_
    · rintro i ys σ H' hi ⟨x2, rfl, rfl, rfl⟩
      have hb : (1000 : Nat) < big := by decide +kernel
      have h4 : sizeLine = 16777216 := sizeLine_eq
      refine ⟨by rw [fl_len, h4]; omega, _, rfl, a, dx, _, rfl, h1, rfl, _, rfl, a, f, s, p, d, 0 + i, by rw [Int.zero_add, Nat.zero_add], h, hd, by omega, ?_⟩
      refine ⟨_, rfl, rfl, ?_⟩
      rw [Nat.zero_add]
      exact fl_snoc f i
    · rintro ys σ H' ⟨x2, rfl, rfl, rfl⟩
      exact q
end
end K10
end
section
set_option Elab.async false
set_option autoImplicit false
set_option linter.all false
set_option maxRecDepth 100000
set_option maxHeartbeats 1000000
set_option pp.maxSteps 1500
namespace K10
open PySem PySem.Spec PyProof.Rows L2 Ls RowM
open C8 (pss_cut tCut)
open TL
section
variable {P : Program} {w : World} {K : PySem.W.Frag} {mg : Str → Option Value} {base : Heap} {CE CN CT CB CR : Addr} {tM tP tF : Tok}
/-! ### above, two even rows that cross -/
def spAboveL (CR : Addr) : Sp := fun vs H Q _ => ∃ (a b : Addr), vs = [.ref a, .ref b] ∧ RowAt CR H a (lin 0 2) 0 1 2 ∧ RowAt CR H b (lin 3 1) 0 1 1 ∧ ∀ H', Ext H H' → Q (.int 4) H'
abbrev s_Row_above : Stmt := inClass (top 31) 26
abbrev N_Row_above : List Str := ["self", "other", "start", "period", "loss", "found", "n", "less", "far"]
theorem sc_Row_above : FnScope N_Row_above ["self", "other"] (defScope s_Row_above) := ⟨rfl, rfl, rfl, by decide +kernel, rfl, by decide +kernel, by decide +kernel⟩
theorem ok_aboveL {fa : Addr} {fd : FuncData} (F : Fun K "above" "Row.above" s_Row_above fa fd) (T : Tx K mg CE CN CT CB CR tM tP tF) (c_frame : Cal P w K mg base CX0 3 "frame" (spFrame CR)) (c_step_over : Cal P w K mg base CX0 3 "step_over" (spSO CR)) (o_number : OwnM P w K mg base CX0 3 CR "number" (spNum CR)) :
    FnOk P w K mg base CX0 5 fa fd ["self", "other"] (spAboveL CR) := by
  refine F.ok sc_Row_above (fun vs H Q E h => ?_) (fun cdv A outer s0 H vs Q E hr h => ?_)
  · obtain ⟨a, b, rfl, _⟩ := h
    rfl
  · obtain ⟨a, b, rfl, h, h', k⟩ := h
    refine ⟨_, (pss_cons (ps_asg (pe_cal c_frame (hr.mono (by decide)) (by rfl) pass0 (pa_cons (pv 0) (pa_cons (pv 1) pa_nil))) (pg_tup rfl (pgs_cons (pg_name (i := 2) sc_Row_above.nd rfl (by first | exact Or.inl rfl | exact Or.inr rfl)) (pgs_cons (pg_name (i := 3) sc_Row_above.nd rfl (by first | exact Or.inl rfl | exact Or.inr rfl)) pgs_nil))))
      (pss_cons (ps_set (i := 4) sc_Row_above.nd rfl (by first | exact Or.inl rfl | exact Or.inr rfl) (pe_op op_sub (pe_cal c_step_over (hr.mono (by decide)) (by rfl) pass0 (pa_cons (pv 0) (pa_cons (pv 3) pa_nil))) (pe_cal c_step_over (hr.mono (by decide)) (by rfl) pass0 (pa_cons (pv 1) (pa_cons (pv 3) pa_nil)))))
      (pss_cons (ps_set (i := 5) sc_Row_above.nd rfl (by first | exact Or.inl rfl | exact Or.inr rfl) pe_non)
      (pss_cons (ps_for PassesOwn.never rfl (pi_range1 rfl (T.bn _ (by decide +kernel)) (pa_cons (pe_op op_add (pv 2) (pv 3)) pa_nil)) (pg_name (i := 6) sc_Row_above.nd rfl (by first | exact Or.inl rfl | exact Or.inr rfl))
      (pss_cons (ps_set (i := 7) sc_Row_above.nd rfl (by first | exact Or.inl rfl | exact Or.inr rfl) (pe_op op_sub (pe_om o_number (hr.mono (by decide)) (pv 1) pass0 (pa_cons (pv 6) pa_nil)) (pe_om o_number (hr.mono (by decide)) (pv 0) pass0 (pa_cons (pv 6) pa_nil))))
      (pss_cons (ps_if (pt_cmpR op_lt (pv 7) pe_int (nomark _)) (pss_one (ps_ret (pe_ifExp ((pw_or (pt_cmpR op_isN (pv 5) pe_non (nomark _)) (pw_or1 (pt_cmpR op_lt (pv 6) (pv 5) (nomark _))))).pt (pv 6) (pv 5)))) pss_nil)
      (pss_one (ps_if ((pw_and (pt_cmpR op_ge (pv 6) (pv 2) (nomark _)) (pw_and1 (pt_cmpR op_gt (pv 4) pe_int (nomark _))))).pt (pss_cons (ps_set (i := 8) sc_Row_above.nd rfl (by first | exact Or.inl rfl | exact Or.inr rfl) (pe_op op_add (pv 6) (pe_op op_mul (pe_op op_add (pe_op op_fdiv (pv 7) (pv 4)) pe_int) (pv 3))))
      (pss_one (ps_set (i := 5) sc_Row_above.nd rfl (by first | exact Or.inl rfl | exact Or.inr rfl) (pe_ifExp ((pw_or (pt_cmpR op_isN (pv 5) pe_non (nomark _)) (pw_or1 (pt_cmpR op_lt (pv 8) (pv 5) (nomark _))))).pt (pv 8) (pv 5))))) pss_nil)))))
      (pss_one (ps_ret (pv 5))))))), ?_⟩
    refine ⟨_, rfl, _, rfl, a, b, _, _, 0, 1, 2, 0, 1, 1, rfl, h, h', fun u nu => ?_⟩
    rw [show Nat.lcm 1 1 = 1 by decide, show max 0 0 = 0 by decide]
    have e1 : Ext H (upd H u (.tup [.int (0 : Nat), .int (1 : Nat)])) := Ext.upd nu
    have f1 : (upd H u (.tup [.int (0 : Nat), .int (1 : Nat)])) u = some (.tup [.int 0, .int 1]) := upd_same
    generalize (upd H u (.tup [.int (0 : Nat), .int (1 : Nat)])) = H1 at e1 f1
    refine ⟨u, _, rfl, SqT.of f1, rfl, _, _, rfl, _, _, rfl, rfl, ?_⟩
    have r1 := h.ext e1
    have r1' := h'.ext e1
    obtain ⟨dx, t1, q1, _⟩ := r1.ex
    obtain ⟨dy, t2, q2, _⟩ := r1'.ex
    refine ⟨_, rfl, _, rfl, a, _, 0, 1, 2, 1, rfl, r1, by decide, _, rfl, _, rfl, b, _, 0, 1, 1, 1, rfl, r1', by decide, _, _, rfl, rfl, ?_⟩
    show gName 4 (V.int 1) _ _ _
    refine ⟨_, rfl, _, rfl, _, _, rfl, rfl, _, rfl, by omega, by omega, ?_⟩
    refine for_range (n := 1) (fun i σ H' => (i = 0 ∧ ∃ x6 x7 x8, σ = [some (.ref a), some (.ref b), some (.int 0), some (.int 1), some (.int 1), some .non, x6, x7, x8] ∧ H' = H1) ∨ (i = 1 ∧ ∃ x6 x7 x8, σ = [some (.ref a), some (.ref b), some (.int 0), some (.int 1), some (.int 1), some (.int 4), x6, x7, x8] ∧ H' = H1)) (.inl ⟨rfl, _, _, _, rfl, rfl⟩) ?_ ?_
    · rintro i σ H' hi (⟨rfl, x6, x7, x8, rfl, rfl⟩ | ⟨rfl, _⟩)
      · refine ⟨_, rfl, b, dy, _, rfl, q2, rfl, _, rfl, b, _, 0, 1, 1, 0, rfl, r1', by decide, by decide, ?_⟩
        refine ⟨_, rfl, a, dx, _, rfl, q1, rfl, _, rfl, a, _, 0, 1, 2, 0, rfl, r1, by decide, by decide, _, _, rfl, rfl, ?_⟩
        refine ⟨_, rfl, _, _, rfl, rfl, _, rfl, iteNo (by decide) ?_⟩
        refine ⟨_, rfl, _, rfl, _, _, rfl, rfl, _, rfl, iteYes (by decide) ?_⟩
        refine ⟨_, rfl, _, _, rfl, rfl, _, rfl, iteYes (by decide) ?_⟩
        refine ⟨_, rfl, _, rfl, _, rfl, _, _, rfl, rfl, ⟨by decide, by decide⟩, _, _, rfl, rfl, _, rfl, _, _, rfl, rfl, .inl ⟨by decide, by decide⟩, _, _, rfl, rfl, ?_⟩
        refine ⟨_, rfl, rfl, _, rfl, iteYes (decide_eq_true rfl) ⟨_, rfl, ?_⟩⟩
        exact .inr ⟨rfl, _, _, _, rfl, rfl⟩
      · exact absurd hi (by decide)
    · rintro σ H' (⟨z, _⟩ | ⟨_, x6, x7, x8, rfl, rfl⟩)
      · cases z
      · exact ⟨_, rfl, k _ e1⟩
end
end K10
end
section
set_option Elab.async false
set_option autoImplicit false
set_option linter.all false
set_option maxRecDepth 100000
set_option maxHeartbeats 1000000
set_option pp.maxSteps 1500
namespace K10
open PySem PySem.Spec PyProof.Rows L2 Ls RowM
open C8 (pss_cut tCut)
open TL
/-! ### str of a row, its numbers below 10 ^ 60 -/
def fg (i : Int) : Str := ((if i < 0 then "-" else "" : Str) ++ Str.ofString (toString (i.natAbs : Int))) ++ ""
theorem str_app_len (a b : Str) : (a ++ b).length = a.length + b.length := by
  exact PySem.strLen_append a b
theorem fg_abs {i : Int} (h : i.natAbs < 10 ^ 60) : (Str.ofString (toString (i.natAbs : Int))).length ≤ 61 := by
  have h1 := PySem.int_text_length_le10 (a := (i.natAbs : Int)) (k := 60) (by decide) h
  have h2 : (Str.ofString (toString (i.natAbs : Int))).length = (toString (i.natAbs : Int)).length := by
    exact PySem.ofString_length _
  omega
theorem fg_len {i : Int} (h : i.natAbs < 10 ^ 60) : (fg i).length ≤ 62 := by
  have h1 := fg_abs h
  unfold fg
  rw [str_app_len, str_app_len]
  have h2 : ((if i < 0 then "-" else "" : Str)).length ≤ 1 := by split <;> decide
  have h3 : ("" : Str).length = 0 := rfl
  omega
section
variable {P : Program} {w : World} {K : PySem.W.Frag} {mg : Str → Option Value} {base : Heap} {CE CN CT CB CR : Addr} {tM tP tF : Tok}
def spFig : Sp := fun vs H Q _ => ∃ i : Int, vs = [.int i] ∧ i.natAbs < 10 ^ 60 ∧ Q (.str (fg i)) H
abbrev s_figures_of : Stmt := top 13
abbrev N_figures_of : List Str := ["number", "rest", "tail"]
theorem sc_figures_of : FnScope N_figures_of ["number"] (defScope s_figures_of) := ⟨rfl, rfl, rfl, by decide +kernel, rfl, by decide +kernel, by decide +kernel⟩
theorem ok_fig {fa : Addr} {fd : FuncData} (F : Fun K "figures_of" "figures_of" s_figures_of fa fd) (T : Tx K mg CE CN CT CB CR tM tP tF) : FnOk P w K mg base CX0 1 fa fd ["number"] spFig := by
  refine F.ok sc_figures_of (fun vs H Q E h => ?_) (fun cdv A outer s0 H vs Q E hr h => ?_)
  · obtain ⟨i, rfl, _⟩ := h
    rfl
  · obtain ⟨i, rfl, h6, k⟩ := h
    have h4 : sizeLine = 16777216 := sizeLine_eq
    refine ⟨_, (pss_cons (ps_par (i := 1) (j := 2) rfl sc_figures_of.nd rfl rfl (by decide) rfl rfl (pa_cons (pe_callB call_abs (by rfl) (T.bn _ (by decide +kernel)) (by decide +kernel) (pa_cons (pv 0) pa_nil)) (pa_cons pe_str pa_nil)) (by rfl))
      (pss_cons (ps_while PassesOwn.never (pt_cmpR op_ge (pv 1) (pe_gint (by rfl) T.m_PIECE) (nomark _))
      (pss_cons (ps_set (i := 2) sc_figures_of.nd rfl (by first | exact Or.inl rfl | exact Or.inr rfl) (pe_op op_add_str (pe_slice sl_str (pe_callTy call_str_int (by rfl) (T.bn _ (by decide +kernel)) (by decide +kernel) (pa_cons (pe_op op_add (pe_gint (by rfl) T.m_PIECE) (pe_op op_mod (pv 1) (pe_gint (by rfl) T.m_PIECE))) pa_nil)) (po_some pe_int) po_none) (pv 2)))
      (pss_one (ps_set (i := 1) sc_figures_of.nd rfl (by first | exact Or.inl rfl | exact Or.inr rfl) (pe_op op_fdiv (pv 1) (pe_gint (by rfl) T.m_PIECE))))))
      (pss_one (ps_ret (pe_op op_add_str (pe_op op_add_str (pe_ifExp (pt_cmpR op_lt (pv 0) pe_int (nomark _)) pe_str pe_str) (pe_callTy call_str_int (by rfl) (T.bn _ (by decide +kernel)) (by decide +kernel) (pa_cons (pv 1) pa_nil))) (pv 2)))))), ?_⟩
    refine ⟨_, rfl, i, rfl, _, _, rfl, ?_⟩
    have ea : (if i < 0 then -i else i) = (i.natAbs : Int) := abs_nat i
    have p60 : (10 : Nat) ^ 60 = 1000000000000000000000000000000000000000000000000000000000000 := by decide +kernel
    have q60 : (10 : Int) ^ 60 = 1000000000000000000000000000000000000000000000000000000000000 := by decide +kernel
    have h6' := h6
    rw [p60] at h6'
    have hl := fg_abs h6
    have hlog : (i.natAbs : Int).natAbs.log2 < 1920 := by
      have : (i.natAbs : Int).natAbs < 2 ^ 200 := Nat.lt_trans h6 (by decide +kernel)
      exact Nat.lt_trans (PySem.Flt.log2_lt_of (by decide) this) (by decide)
    refine ⟨fun m σ H' => σ = [some (.int i), some (.int i.natAbs), some (.str "")] ∧ H' = H, ⟨0, by rw [ea]; rfl, rfl⟩, ?_⟩
    rintro m σ H' ⟨rfl, rfl⟩
    refine ⟨_, rfl, _, _, rfl, rfl, _, rfl, ?_⟩
    refine iteNo (decide_eq_false (by rw [q60]; omega)) ?_
    refine ⟨_, rfl, _, _, rfl, rfl, _, rfl, ?_⟩
    have e0 : ("" : Str).length = 0 := rfl
    have e1 : ("-" : Str).length = 1 := rfl
    by_cases hn : i < 0
    · refine iteYes (decide_eq_true hn) ?_
      rw [show fg i = (("-" : Str) ++ Str.ofString (toString (i.natAbs : Int))) ++ "" by unfold fg; rw [if_pos hn]] at k
      refine ⟨_, rfl, (i.natAbs : Int), rfl, hlog, _, _, rfl, rfl, ?_, _, rfl, _, _, rfl, rfl, ?_, k⟩
      · rw [e1]; omega
      · rw [str_app_len, e1, e0]; omega
    · refine iteNo (decide_eq_false hn) ?_
      rw [show fg i = (("" : Str) ++ Str.ofString (toString (i.natAbs : Int))) ++ "" by unfold fg; rw [if_neg hn]] at k
      refine ⟨_, rfl, (i.natAbs : Int), rfl, hlog, _, _, rfl, rfl, ?_, _, rfl, _, _, rfl, rfl, ?_, k⟩
      · rw [e0]; omega
      · rw [str_app_len, e0]; omega
end
/-! ### str of a row with small numbers, to its end -/
/-- n texts -/
def fs (g : Nat → Str) (n : Nat) : List Str := (List.range n).map g
theorem fs_len (g : Nat → Str) (n : Nat) : (fs g n).length = n := by unfold fs; simp
theorem fs_snoc (g : Nat → Str) (n : Nat) : (fs g n).map V.str ++ [V.str (g n)] = (fs g (n + 1)).map V.str := by
  unfold fs
  rw [List.range_succ, List.map_append, List.map_append]
  rfl
def rowW (f : Nat → Int) (s p : Nat) (d : Int) : List Str := (fs (fun i => fg (f i)) s ++ [("|" : Str)]) ++ (fs (fun i => fg (f (s + i))) p ++ ([("+" : Str), fg d]))
theorem sum_some : ∀ {zs : List Str}, (∀ z ∈ zs, z.length ≤ 62) → (zs.map (·.length)).sum ≤ zs.length * 62
  | [], _ => Nat.zero_le _
  | z :: r, h => by
    have ih := sum_some (zs := r) fun y hy => h y (List.mem_cons_of_mem _ hy)
    have := h z (List.mem_cons_self ..)
    simp only [List.map_cons, List.sum_cons, List.length_cons, Nat.add_mul]
    omega
/-- t[s:] -/
theorem sl_from {K : PySem.W.Frag} {H : Hp} {t : Addr} {f : Nat → Int} {s L : Nat} {Q : VK} (ht : H t = some (.tup (fl f L))) (hs : s ≤ L) (k : ∀ v H', Ext H H' → H' v = some (.tup (fl (fun i => f (s + i)) (L - s))) → Q (.ref v) H') : rSlA K (.ref t) (some (s : Int)) none H Q := by
  refine ⟨t, _, rfl, SqT.of ht, fun w => ?_, fun _ u nu => ?_⟩
  · have h0 := w.1
    rw [fl_len, sIx_pos (by omega)] at h0
    have hz : s = 0 ∨ L = 0 := by omega
    refine k t H Ext.rfl' ?_
    have hz : s = 0 := by omega
    subst hz
    rw [ht]
    simp
  · rw [cutV_from _ (by omega), show ((s : Nat) : Int).toNat = s from rfl, fl_drop]
    exact k u _ (Ext.upd nu) upd_same
section
variable {P : Program} {w : World} {K : PySem.W.Frag} {mg : Str → Option Value} {base : Heap} {CE CN CT CB CR : Addr} {tM tP tF : Tok}
def spStr (CR : Addr) : Sp := fun vs H Q _ => ∃ (a : Addr) (f : Nat → Int) (s p : Nat) (d : Int), vs = [.ref a] ∧ RowAt CR H a f s p d ∧ (∀ n, n < s + p → (f n).natAbs < 10 ^ 60) ∧ d.natAbs < 10 ^ 60 ∧ ∀ H', Ext H H' → Q (.str (Txt.join " " (rowW f s p d))) H'
abbrev s_Row_str : Stmt := inClass (top 31) 30
abbrev N_Row_str : List Str := ["self", "words", "number"]
theorem sc_Row_str : FnScope N_Row_str ["self"] (defScope s_Row_str) := ⟨rfl, rfl, rfl, by decide +kernel, rfl, by decide +kernel, by decide +kernel⟩
theorem ok_str {fa : Addr} {fd : FuncData} (F : Fun K "__str__" "Row.__str__" s_Row_str fa fd) (T : Tx K mg CE CN CT CB CR tM tP tF) (hC : ClR K CR) (c_start : Prp P w K mg base CX0 1 (· = CR) "start" (spStart CR)) (c_figures_of : Cal P w K mg base CX0 1 "figures_of" spFig) : FnOk P w K mg base CX0 3 fa fd ["self"] (spStr CR) := by
  refine F.ok sc_Row_str (fun vs H Q E h => ?_) (fun cdv A outer s0 H vs Q E hr h => ?_)
  · obtain ⟨a, f, s, p, d, rfl, _⟩ := h
    rfl
  · obtain ⟨a, f, s, p, d, rfl, h, hf, hd, k⟩ := h
    obtain ⟨dx, t, h1, h2⟩ := h.ex
    have hp := h.can.eq.pos
    have h4 : sizeLine = 16777216 := sizeLine_eq
    refine ⟨_, (pss_cons (ps_set (i := 1) sc_Row_str.nd rfl (by first | exact Or.inl rfl | exact Or.inr rfl) (pe_lst (StX.pa_star (pe_lc (own := [("number", 2)]) rfl sc_Row_str.nd (pi_tupK (K := K) rfl (pe_slice sl_tupA (pe_fld (pv 0) rfl) po_none (po_some ((pe_prp c_start (hr.mono (by decide)) pass0) (pv 0))))) (blkOk_by (own := [("number", 2)]) (N := N_Row_str) (sc := defScope s_Row_str) (by decide +kernel)) (fun _ _ _ _ _ => (pg_name (i := 2) sc_Row_str.nd rfl (by first | exact Or.inl rfl | exact Or.inr rfl))) (fun _ _ _ _ _ => pts_nil) (fun _ _ _ _ _ => (pe_cal c_figures_of (hr.mono (by decide)) (by rfl) pass0 (pa_cons (pv 2) pa_nil)))) (pa_cons pe_str pa_nil))))
      (pss_cons (ps_set (i := 1) sc_Row_str.nd rfl (by first | exact Or.inl rfl | exact Or.inr rfl) (pe_lst (StX.pa_star (pv 1) (StX.pa_star (pe_lc (own := [("number", 2)]) rfl sc_Row_str.nd (pi_tupK (K := K) rfl (pe_slice sl_tupA (pe_fld (pv 0) rfl) (po_some ((pe_prp c_start (hr.mono (by decide)) pass0) (pv 0))) po_none)) (blkOk_by (own := [("number", 2)]) (N := N_Row_str) (sc := defScope s_Row_str) (by decide +kernel)) (fun _ _ _ _ _ => (pg_name (i := 2) sc_Row_str.nd rfl (by first | exact Or.inl rfl | exact Or.inr rfl))) (fun _ _ _ _ _ => pts_nil) (fun _ _ _ _ _ => (pe_cal c_figures_of (hr.mono (by decide)) (by rfl) pass0 (pa_cons (pv 2) pa_nil)))) (pa_cons pe_str (pa_cons (pe_cal c_figures_of (hr.mono (by decide)) (by rfl) pass0 (pa_cons (pe_fld (pv 0) rfl) pa_nil)) pa_nil))))))
      (pss_one (ps_ret (pe_join pe_str (pv 1)))))), ?_⟩
    have l1 : ∀ n, n < s + p → (fg (f n)).length ≤ 62 := fun n hn => fg_len (hf n hn)
    have ld : (fg d).length ≤ 62 := fg_len hd
    have hl := h.le
    refine ⟨_, rfl, a, CR, dx, _, _, rfl, h1, hC.cl, hC.nT, rfl, _, rfl, a, CR, dx, _, rfl, h1, rfl, a, f, s, p, d, rfl, h, _, rfl, ?_⟩
    refine ⟨t, _, rfl, SqT.of h2, fun w => absurd w.2 (by rw [fl_len, sIx_pos (by omega)]; omega), fun _ u nu => ?_⟩
    rw [cutV_to _ (by omega), show ((s : Nat) : Int).toNat = s from rfl, fl_take _ _ _ (by omega)]
    have e1 : Ext H (upd H u (.tup (fl f s))) := Ext.upd nu
    have f1 : (upd H u (.tup (fl f s))) u = some (.tup (fl f s)) := upd_same
    generalize (upd H u (.tup (fl f s))) = H1 at e1 f1
    refine ⟨u, rfl, ⟨_, SqT.of f1⟩, fun D hD => ?_⟩
    have nt : u ≠ D := ne_of_none f1 hD
    refine lc_it (walk_tup (K := K) (xs := fl f s)) (fun i Hx => Hx = upd H1 D (.lst ((fs (fun i => fg (f i)) i).map V.str))) rfl (fun i Hx _ e => SqT.of (by rw [e, upd_ne nt]; exact f1)) ?_ ?_
    · rintro i x Hx H' hi rfl ⟨rfl, hx⟩
      have hi : i < s := by rw [fl_len] at hi; exact hi
      rw [fl_at hi] at hx
      cases hx
      refine ⟨rfl, _, rfl, f i, rfl, hf i (by omega), _, upd_same, by rw [List.length_map, fs_len]; show i < 16777216; omega, ?_⟩
      show upd (upd H1 D _) D _ = _
      rw [upd_upd, fs_snoc (fun i => fg (f i))]
    · rintro Hx rfl
      rw [fl_len]
      have e2 : Ext H1 (upd H1 D (.lst ((fs (fun i => fg (f i)) s).map V.str))) := Ext.upd hD
      have f2 : (upd H1 D (.lst ((fs (fun i => fg (f i)) s).map V.str))) D = some (.lst ((fs (fun i => fg (f i)) s).map V.str)) := upd_same
      generalize (upd H1 D (.lst ((fs (fun i => fg (f i)) s).map V.str))) = H2 at e2 f2
      refine ⟨D, _, rfl, .inr (SqL.of f2), ?_⟩
      refine ⟨(by show ((fs (fun i => fg (f i)) s).map V.str ++ [V.str "|"]).length ≤ sizeLine; rw [List.length_append, List.length_map, fs_len]; show s + 1 ≤ _; omega), fun L1 nL1 => ?_⟩
      have e3 : Ext H2 (upd H2 L1 (.lst ((fs (fun i => fg (f i)) s).map V.str ++ [V.str "|"]))) := Ext.upd nL1
      have f3 : (upd H2 L1 (.lst ((fs (fun i => fg (f i)) s).map V.str ++ [V.str "|"]))) L1 = some (.lst ((fs (fun i => fg (f i)) s).map V.str ++ [V.str "|"])) := upd_same
      generalize (upd H2 L1 (.lst ((fs (fun i => fg (f i)) s).map V.str ++ [V.str "|"]))) = H3 at e3 f3
      have e03 := e1.trans (e2.trans e3)
      refine ⟨_, rfl, L1, _, rfl, .inr (SqL.of f3), ?_⟩
      refine ⟨_, rfl, a, CR, dx, _, _, rfl, e03 _ _ h1, hC.cl, hC.nT, rfl, _, rfl, a, CR, dx, _, rfl, e03 _ _ h1, rfl, a, f, s, p, d, rfl, h.ext e03, _, rfl, ?_⟩
      dsimp only [tNoPart]
      refine sl_from (K := K) (s := s) (L := s + p) (e03 _ _ h2) (by omega) fun v H4 e4 f4 => ?_
      rw [Nat.add_sub_cancel_left] at f4
      refine ⟨v, rfl, ⟨_, SqT.of f4⟩, fun D2 hD2 => ?_⟩
      have nv : v ≠ D2 := ne_of_none f4 hD2
      refine lc_it (walk_tup (K := K) (xs := fl (fun i => f (s + i)) p)) (fun i Hx => Hx = upd H4 D2 (.lst ((fs (fun i => fg (f (s + i))) i).map V.str))) rfl (fun i Hx _ e => SqT.of (by rw [e, upd_ne nv]; exact f4)) ?_ ?_
      · rintro i x Hx H' hi rfl ⟨rfl, hx⟩
        have hi : i < p := by rw [fl_len] at hi; exact hi
        rw [fl_at hi] at hx
        cases hx
        refine ⟨rfl, _, rfl, f (s + i), rfl, hf (s + i) (by omega), _, upd_same, by rw [List.length_map, fs_len]; show i < 16777216; omega, ?_⟩
        show upd (upd H4 D2 _) D2 _ = _
        rw [upd_upd, fs_snoc (fun i => fg (f (s + i)))]
      · rintro Hx rfl
        rw [fl_len]
        have e5 : Ext H4 (upd H4 D2 (.lst ((fs (fun i => fg (f (s + i))) p).map V.str))) := Ext.upd hD2
        have f5 : (upd H4 D2 (.lst ((fs (fun i => fg (f (s + i))) p).map V.str))) D2 = some (.lst ((fs (fun i => fg (f (s + i))) p).map V.str)) := upd_same
        generalize (upd H4 D2 (.lst ((fs (fun i => fg (f (s + i))) p).map V.str))) = H5 at e5 f5
        have e05 := e03.trans (e4.trans e5)
        refine ⟨D2, _, rfl, .inr (SqL.of f5), ?_⟩
        refine ⟨_, rfl, a, CR, dx, _, _, rfl, e05 _ _ h1, hC.cl, hC.nG, rfl, d, rfl, hd, ?_⟩
        have ew : (fs (fun i => fg (f i)) s).map V.str ++ [V.str "|"] ++ ((fs (fun i => fg (f (s + i))) p).map V.str ++ [V.str "+", V.str (fg d)]) = (rowW f s p d).map V.str := by
          unfold rowW
          simp only [List.map_append, List.map_cons, List.map_nil]
        have lw : (rowW f s p d).length = s + p + 3 := by
          unfold rowW
          simp only [List.length_append, fs_len, List.length_cons, List.length_nil]
          omega
        have sw : ((rowW f s p d).map (·.length)).sum ≤ (s + p + 3) * 62 := by
          rw [← lw]
          refine sum_some (fun z hz => ?_)
          unfold rowW fs at hz
          rcases List.mem_append.mp hz with hz | hz
          · rcases List.mem_append.mp hz with hz | hz
            · obtain ⟨i, hi, rfl⟩ := List.mem_map.mp hz
              exact l1 i (by have := List.mem_range.mp hi; omega)
            · cases List.mem_singleton.mp hz
              decide
          · rcases List.mem_append.mp hz with hz | hz
            · obtain ⟨i, hi, rfl⟩ := List.mem_map.mp hz
              exact l1 (s + i) (by have := List.mem_range.mp hi; omega)
            · rcases List.mem_cons.mp hz with rfl | hz
              · decide
              · cases List.mem_singleton.mp hz
                exact ld
        refine ⟨(by show ((fs (fun i => fg (f i)) s).map V.str ++ [V.str "|"] ++ ((fs (fun i => fg (f (s + i))) p).map V.str ++ [V.str "+", V.str (fg d)])).length ≤ sizeLine; rw [ew, List.length_map, lw]; omega), fun L2 nL2 => ?_⟩
        have e6 : Ext H5 (upd H5 L2 (.lst ((fs (fun i => fg (f i)) s).map V.str ++ [V.str "|"] ++ ((fs (fun i => fg (f (s + i))) p).map V.str ++ [V.str "+", V.str (fg d)])))) := Ext.upd nL2
        have f6 : (upd H5 L2 (.lst ((fs (fun i => fg (f i)) s).map V.str ++ [V.str "|"] ++ ((fs (fun i => fg (f (s + i))) p).map V.str ++ [V.str "+", V.str (fg d)])))) L2 = some (.lst ((fs (fun i => fg (f i)) s).map V.str ++ [V.str "|"] ++ ((fs (fun i => fg (f (s + i))) p).map V.str ++ [V.str "+", V.str (fg d)]))) := upd_same
        generalize (upd H5 L2 (.lst ((fs (fun i => fg (f i)) s).map V.str ++ [V.str "|"] ++ ((fs (fun i => fg (f (s + i))) p).map V.str ++ [V.str "+", V.str (fg d)])))) = H6 at e6 f6
        rw [ew] at f6
        exact ⟨⟨_, rfl⟩, _, rfl, " ", L2, rowW f s p d, rfl, rfl, .inl (SqL.of f6), by rw [lw]; show _ + (s + p + 3) * 1 ≤ _; omega, k _ (e05.trans e6)⟩
end
end K10
end
section
set_option Elab.async false
set_option autoImplicit false
set_option linter.all false
set_option maxRecDepth 100000
set_option maxHeartbeats 1000000
set_option pp.maxSteps 1500
namespace K10
open PySem PySem.Spec PyProof.Rows L2 Ls RowM
open C8 (pss_cut tCut)
open TL
/-! ### reading the text of a row -/
/-- the digits of a number that is not below 0 -/
def dgs (n : Nat) : Str := Str.ofString (toString ((n : Nat) : Int))
theorem tl_dgs (n : Nat) : tl (dgs n) = numL n := tl_num n
theorem tl_neg : tl ("-" : Str) = [45] := by decide +kernel
theorem tl_emp : tl ("" : Str) = [] := by decide +kernel
theorem fg_pos {i : Int} (h : ¬ i < 0) : fg i = dgs i.natAbs := by
  refine ext_tl ?_
  unfold fg
  rw [if_neg h, tl_append, tl_append, tl_emp, List.nil_append, List.append_nil]
  rfl
theorem fg_neg {i : Int} (h : i < 0) : tl (fg i) = 45 :: numL i.natAbs := by
  unfold fg
  rw [if_pos h, tl_append, tl_append, tl_emp, tl_neg, List.append_nil, tl_num]
  rfl
theorem numL_lead : ∀ n : Nat, 1 ≤ n → ∃ c r, numL n = c :: r ∧ c ≠ 48 := fun n => by
  induction n using Nat.strongRecOn with
  | _ n ih =>
    intro h1
    by_cases h : n < 10
    · exact ⟨48 + n, [], numL_lt h, by omega⟩
    · obtain ⟨c, r, e, hc⟩ := ih (n / 10) (by omega) (by omega)
      exact ⟨c, r ++ [48 + n % 10], by rw [numL_step (by omega), e]; rfl, hc⟩
theorem cut1 (z : Str) : tl (cutS z none (some 1)) = (tl z).take 1 := by
  show ((z.cps.toList.drop (HT.sIx z.length 0 none)).take (HT.sIx z.length z.length (some 1) - HT.sIx z.length 0 none)) = _
  rw [HT.sIx_none, sIx_pos (by decide), List.drop_zero, Nat.sub_zero]
  show (tl z).take (min 1 z.length) = (tl z).take 1
  have hl : z.length = (tl z).length := len_tl z
  cases h : tl z with
  | nil => simp
  | cons a r =>
    rw [hl, h]
    have : min 1 (a :: r).length = 1 := by simp only [List.length_cons]; omega
    rw [this]
theorem cutTo {z : Str} {n : Nat} (h : z.length ≤ n) : cutS z none (some (n : Int)) = z := by
  refine ext_tl ?_
  show ((z.cps.toList.drop (HT.sIx z.length 0 none)).take (HT.sIx z.length z.length (some (n : Int)) - HT.sIx z.length 0 none)) = _
  rw [HT.sIx_none, sIx_pos (by omega), List.drop_zero, Nat.sub_zero]
  have hl : z.length = (tl z).length := len_tl z
  show (tl z).take (min (n : Int).toNat z.length) = tl z
  exact List.take_of_length_le (by omega)
theorem cutFrom1 (z : Str) : tl (cutS z (some 1) none) = (tl z).drop 1 := by
  show ((z.cps.toList.drop (HT.sIx z.length 0 (some 1))).take (HT.sIx z.length z.length none - HT.sIx z.length 0 (some 1))) = _
  rw [HT.sIx_none, sIx_pos (by decide)]
  have hl : z.length = (tl z).length := len_tl z
  show ((tl z).drop (min 1 z.length)).take (z.length - min 1 z.length) = (tl z).drop 1
  cases h : tl z with
  | nil => simp
  | cons a r =>
    rw [hl, h]
    have : min 1 (a :: r).length = 1 := by simp only [List.length_cons]; omega
    rw [this]
    exact List.take_of_length_le (by simp)
/-- the first sign and the rest, below 0 -/
theorem neg_cut {i : Int} (h : i < 0) : cutS (fg i) none (some 1) = "-" ∧ cutS (fg i) (some 1) none = dgs i.natAbs ∧ fg i ≠ "-0" := by
  refine ⟨ext_tl ?_, ext_tl ?_, fun e => ?_⟩
  · rw [cut1, fg_neg h, tl_neg]; rfl
  · rw [cutFrom1, fg_neg h, tl_dgs]; rfl
  · have := congrArg tl e
    rw [fg_neg h, show tl ("-0" : Str) = [45, 48] by decide +kernel] at this
    obtain ⟨c, r, e1, hc⟩ := numL_lead i.natAbs (by omega)
    rw [e1] at this
    simp at this
    exact hc this.1
theorem pos_cut {i : Int} (h : ¬ i < 0) : cutS (fg i) none (some 1) ≠ "-" := fun e => by
  have := congrArg tl e
  rw [cut1, fg_pos h, tl_dgs, tl_neg] at this
  have h45 : 45 ∈ numL i.natAbs := by
    have : 45 ∈ (numL i.natAbs).take 1 := by rw [this]; simp
    exact List.mem_of_mem_take this
  exact numL_free (by decide) h45
theorem dgs_len {n : Nat} (h : n < 10 ^ 59) : (dgs n).length ≤ 59 ∧ 1 ≤ (dgs n).length := by
  rw [len_tl, tl_dgs]
  refine ⟨numL_len (by decide) h, ?_⟩
  have := numL_ne n
  exact Nat.pos_of_ne_zero fun e => this (List.length_eq_zero_iff.mp e)
theorem fg_short {i : Int} (h : i.natAbs < 10 ^ 59) : (fg i).length ≤ 60 := by
  have h1 := (dgs_len h).1
  by_cases hn : i < 0
  · rw [len_tl, fg_neg hn, List.length_cons, ← tl_dgs, ← len_tl]
    omega
  · rw [fg_pos hn]
    omega
theorem int_dgs {n : Nat} (h : n < 10 ^ 59) : PySem.intText? (dgs n) = some (n : Int) := int_num (Nat.le_trans (numL_len (by decide) h) (by decide))
theorem figs_tl : tl ("0123456789" : Str) = [48, 49, 50, 51, 52, 53, 54, 55, 56, 57] := by decide +kernel
theorem dgs_in {n i : Nat} {c : Nat} (h : (dgs n).cps[i]? = some c) : c ∈ ("0123456789" : Str).cps.toList := by
  have hm : c ∈ numL n := by
    rw [← tl_dgs]
    rw [← Array.getElem?_toList] at h
    exact List.mem_of_getElem? h
  have := numL_digits n c hm
  show c ∈ tl ("0123456789" : Str)
  rw [figs_tl]
  simp only [List.mem_cons, List.mem_nil_iff, or_false]
  omega
section
variable {P : Program} {w : World} {K : PySem.W.Frag} {mg : Str → Option Value} {base : Heap} {CE CN CT CB CR : Addr} {tM tP tF : Tok}
def spIT : Sp := fun vs H Q _ => ∃ i : Int, vs = [.str (fg i)] ∧ i.natAbs < 10 ^ 59 ∧ ∀ H', Ext H H' → Q (.bl true) H'
abbrev s_is_integer_text : Stmt := top 19
abbrev N_is_integer_text : List Str := ["word", "figures", "sign"]
theorem sc_is_integer_text : FnScope N_is_integer_text ["word"] (defScope s_is_integer_text) := ⟨rfl, rfl, rfl, by decide +kernel, rfl, by decide +kernel, by decide +kernel⟩
theorem ok_itext {fa : Addr} {fd : FuncData} (F : Fun K "is_integer_text" "is_integer_text" s_is_integer_text fa fd) (T : Tx K mg CE CN CT CB CR tM tP tF) : FnOk P w K mg base CX0 1 fa fd ["word"] spIT := by
  refine F.ok sc_is_integer_text (fun vs H Q E h => ?_) (fun cdv A outer s0 H vs Q E hr h => ?_)
  · obtain ⟨i, rfl, _⟩ := h
    rfl
  · obtain ⟨i, rfl, hi, k⟩ := h
    have h4 : sizeLine = 16777216 := sizeLine_eq
    have hl := fg_short hi
    have hdl := dgs_len hi
    refine ⟨_, (pss_cut (ps_set (i := 1) sc_is_integer_text.nd rfl (by first | exact Or.inl rfl | exact Or.inr rfl) (pe_ifExp ((pw_and (pt_cmpR op_eq (pe_slice sl_str (pv 0) po_none (po_some pe_int)) pe_str (nomark _)) (pw_and1 (pt_cmpR op_ne (pv 0) pe_str (nomark _))))).pt (pe_slice sl_str (pv 0) (po_some pe_int) po_none) (pv 0)))
      (pss_cons (ps_if ((pw_or (pt_cmpR op_eq (pv 1) pe_str (nomark _)) (pw_or1 (pt_not (pt_val (pe_callB (cr_all rfl) (by rfl) (T.bn _ (by decide +kernel)) (by decide +kernel) (pa_cons (pe_lc (own := [("sign", 2)]) rfl sc_is_integer_text.nd (pi_str (pv 1)) (blkOk_by (own := [("sign", 2)]) (N := N_is_integer_text) (sc := defScope s_is_integer_text) (by decide +kernel)) (fun _ _ _ _ _ => (pg_name (i := 2) sc_is_integer_text.nd rfl (by first | exact Or.inl rfl | exact Or.inr rfl))) (fun _ _ _ _ _ => pts_nil) (fun _ _ _ _ _ => (pe_cmpR op_in_sign (pv 2) (pe_gstr (by rfl) T.m_FIGURES) rfl))) pa_nil))))))).pt (pss_one (ps_ret pe_bl)) pss_nil)
      (pss_one (ps_ret (pe_or (pe_cmpR op_eq (pv 1) pe_str (nomark _)) (pe_one (pe_cmpR op_ne (pe_ix ix_str (pv 1) pe_int (fun _ _ => rfl)) pe_str (nomark _)))))))), ?_⟩
    refine ⟨fun σ' H' => σ' = [some (.str (fg i)), some (.str (dgs i.natAbs)), none] ∧ H' = H, ?_, ?_⟩
    · by_cases hn : i < 0
      · obtain ⟨c1, c2, c3⟩ := neg_cut hn
        refine ⟨_, rfl, 1, rfl, fg i, rfl, by omega, rfl, _, rfl, iteYes (by rw [c1]; exact decide_eq_true rfl) ?_⟩
        refine ⟨_, rfl, rfl, _, rfl, iteYes (by rw [decide_eq_false fun z => c3 (V.str.inj z)]; rfl) ?_⟩
        refine ⟨_, rfl, 1, rfl, fg i, rfl, by omega, ?_⟩
        rw [c2]
        exact ⟨rfl, rfl⟩
      · refine ⟨_, rfl, 1, rfl, fg i, rfl, by omega, rfl, _, rfl, iteNo (decide_eq_false fun z => pos_cut hn (V.str.inj z)) ?_⟩
        refine ⟨_, rfl, ?_⟩
        rw [fg_pos hn]
        exact ⟨rfl, rfl⟩
    rintro σ' H' ⟨rfl, rfl⟩
    refine ⟨_, rfl, rfl, _, rfl, iteNo (decide_eq_false fun z => ?_) ?_⟩
    · have := V.str.inj z
      rw [this] at hdl
      exact absurd hdl.2 (by decide)
    refine ⟨_, rfl, dgs i.natAbs, rfl, fun D hD => ?_⟩
    refine lc_it walk_str (fun i Hx => Hx = upd H' D (.lst ((List.replicate i true).map V.bl))) rfl (fun _ _ _ _ => trivial) ?_ ?_
    · rintro j x Hx H2 hj rfl ⟨rfl, c, hc, rfl⟩
      have hj : j < (dgs i.natAbs).cps.size := hj
      have hjl : j < 59 := Nat.lt_of_lt_of_le hj hdl.1
      refine ⟨rfl, _, rfl, c, _, rfl, rfl, ?_⟩
      rw [decide_eq_true (dgs_in hc)]
      refine ⟨_, upd_same, by rw [List.length_map, List.length_replicate]; show j < 16777216; omega, ?_⟩
      show upd (upd H' D _) D _ = _
      rw [upd_upd, List.replicate_succ', List.map_append]
      rfl
    · rintro Hx rfl
      have ed : Ext H' (upd H' D (.lst ((List.replicate (dgs i.natAbs).cps.size true).map V.bl))) := Ext.upd hD
      refine ⟨D, List.replicate (dgs i.natAbs).cps.size true, rfl, SqL.of upd_same, ?_⟩
      rw [show (List.replicate (dgs i.natAbs).cps.size true).all id = true by simp]
      refine ⟨_, rfl, iteF ?_⟩
      refine ⟨_, rfl, rfl, _, rfl, ?_⟩
      by_cases hz : i.natAbs = 0
      · refine iteYes (decide_eq_true (by rw [hz]; decide +kernel)) ?_
        exact k _ ed
      · refine iteNo (decide_eq_false fun z => ?_) ?_
        · have := congrArg tl (V.str.inj z)
          rw [tl_dgs, show tl ("0" : Str) = [48] by decide +kernel] at this
          obtain ⟨c, r, e1, hc⟩ := numL_lead i.natAbs (by omega)
          rw [e1] at this
          simp at this
          exact hc this.1
        obtain ⟨c, r, e1, hc⟩ := numL_lead i.natAbs (by omega)
        have e2 : (dgs i.natAbs).cps.toList = c :: r := by
          have := tl_dgs i.natAbs
          rw [e1] at this
          exact this
        refine ⟨_, rfl, dgs i.natAbs, 0, c, rfl, rfl, by omega, atI_nat (j := 0) (by rw [e2]; rfl), rfl, ?_⟩
        rw [decide_eq_false fun z => ?_]
        · exact k _ ed
        · have := congrArg tl (V.str.inj z)
          rw [show tl ("0" : Str) = [48] by decide +kernel] at this
          have : [c] = [48] := this
          simp at this
          exact hc this
theorem small60 : ∀ L : Nat, L < 60 → Builtin.Range.small (L : Int) (L : Int) 60 = true := by decide +kernel
def spNO : Sp := fun vs H Q _ => ∃ i : Int, vs = [.str (fg i)] ∧ i.natAbs < 10 ^ 59 ∧ Q (.int i) H
abbrev s_number_of : Stmt := top 20
abbrev N_number_of : List Str := ["word", "figures", "head", "found", "at"]
theorem sc_number_of : FnScope N_number_of ["word"] (defScope s_number_of) := ⟨rfl, rfl, rfl, by decide +kernel, rfl, by decide +kernel, by decide +kernel⟩
theorem ok_numof {fa : Addr} {fd : FuncData} (F : Fun K "number_of" "number_of" s_number_of fa fd) (T : Tx K mg CE CN CT CB CR tM tP tF) : FnOk P w K mg base CX0 1 fa fd ["word"] spNO := by
  refine F.ok sc_number_of (fun vs H Q E h => ?_) (fun cdv A outer s0 H vs Q E hr h => ?_)
  · obtain ⟨i, rfl, _⟩ := h
    rfl
  · obtain ⟨i, rfl, hi, k⟩ := h
    have h4 : sizeLine = 16777216 := sizeLine_eq
    have hl := fg_short hi
    have hdl := dgs_len hi
    refine ⟨_, (pss_cut (ps_set (i := 1) sc_number_of.nd rfl (by first | exact Or.inl rfl | exact Or.inr rfl) (pe_ifExp (pt_cmpR op_eq (pe_slice sl_str (pv 0) po_none (po_some pe_int)) pe_str (nomark _)) (pe_slice sl_str (pv 0) (po_some pe_int) po_none) (pv 0)))
      (pss_cons (ps_set (i := 2) sc_number_of.nd rfl (by first | exact Or.inl rfl | exact Or.inr rfl) (pe_op op_mod (pe_callB call_len_str (by rfl) (T.bn _ (by decide +kernel)) (by decide +kernel) (pa_cons (pv 1) pa_nil)) pe_int))
      (pss_cons (ps_set (i := 3) sc_number_of.nd rfl (by first | exact Or.inl rfl | exact Or.inr rfl) (pe_ifExp (pt_cmpR op_gt (pv 2) pe_int (nomark _)) (pe_callTy call_int_str (by rfl) (T.bn _ (by decide +kernel)) (by decide +kernel) (pa_cons (pe_slice sl_str (pv 1) po_none (po_some (pv 2))) pa_nil)) pe_int))
      (pss_cons (ps_for PassesOwn.never rfl (pi_range3 rfl (T.bn _ (by decide +kernel)) (pa_cons (pv 2) (pa_cons (pe_callB call_len_str (by rfl) (T.bn _ (by decide +kernel)) (by decide +kernel) (pa_cons (pv 1) pa_nil)) (pa_cons pe_int pa_nil)))) (pg_name (i := 4) sc_number_of.nd rfl (by first | exact Or.inl rfl | exact Or.inr rfl))
      (pss_one (ps_set (i := 3) sc_number_of.nd rfl (by first | exact Or.inl rfl | exact Or.inr rfl) (pe_op op_add (pe_op op_mul (pv 3) (pe_gint (by rfl) T.m_PIECE)) (pe_callTy call_int_str (by rfl) (T.bn _ (by decide +kernel)) (by decide +kernel) (pa_cons (pe_slice sl_str (pv 1) (po_some (pv 4)) (po_some (pe_op op_add (pv 4) pe_int))) pa_nil))))))
      (pss_one (ps_ret (pe_ifExp (pt_cmpR op_eq (pe_slice sl_str (pv 0) po_none (po_some pe_int)) pe_str (nomark _)) (pe_un un_neg (pv 3)) (pv 3)))))))), ?_⟩
    refine ⟨fun σ' H' => σ' = [some (.str (fg i)), some (.str (dgs i.natAbs)), none, none, none] ∧ H' = H, ?_, ?_⟩
    · by_cases hn : i < 0
      · obtain ⟨c1, c2, c3⟩ := neg_cut hn
        refine ⟨_, rfl, 1, rfl, fg i, rfl, by omega, rfl, _, rfl, iteYes (by rw [c1]; exact decide_eq_true rfl) ?_⟩
        refine ⟨_, rfl, 1, rfl, fg i, rfl, by omega, ?_⟩
        rw [c2]
        exact ⟨rfl, rfl⟩
      · refine ⟨_, rfl, 1, rfl, fg i, rfl, by omega, rfl, _, rfl, iteNo (decide_eq_false fun z => pos_cut hn (V.str.inj z)) ?_⟩
        refine ⟨_, rfl, ?_⟩
        rw [fg_pos hn]
        exact ⟨rfl, rfl⟩
    rintro σ' H' ⟨rfl, rfl⟩
    obtain ⟨L, hL⟩ : ∃ L, (dgs i.natAbs).length = L := ⟨_, rfl⟩
    refine ⟨_, rfl, dgs i.natAbs, rfl, by omega, _, _, rfl, rfl, (by show (0 : Int) < 60; decide), ?_⟩
    rw [hL] at hdl
    rw [hL]
    have e60 : ((L : Nat) : Int) % 60 = L := Int.emod_eq_of_lt (by omega) (by omega)
    show gName 2 (V.int (((L : Nat) : Int) % 60)) _ _ _
    rw [e60]
    refine ⟨_, rfl, _, _, rfl, rfl, _, rfl, iteYes (decide_eq_true (by omega)) ?_⟩
    refine ⟨_, rfl, _, rfl, _, rfl, dgs i.natAbs, rfl, by omega, ?_⟩
    rw [cutTo (by omega)]
    refine ⟨_, _, rfl, int_dgs hi, by omega, ?_⟩
    refine ⟨_, rfl, _, rfl, dgs i.natAbs, rfl, by omega, L, L, 60, 0, by rw [hL], ⟨by decide, by decide, ?_, ?_⟩, ?_⟩
    · exact small60 L (by omega)
    · unfold Builtin.Range.rangeSize
      rw [if_pos (by decide), if_neg (by omega)]
      rfl
    refine for_it walk_rangeC (fun _ σ H2 => σ = [some (.str (fg i)), some (.str (dgs i.natAbs)), some (.int L), some (.int i.natAbs), none] ∧ H2 = H') ⟨rfl, rfl⟩ (fun _ _ _ _ _ => trivial) ?_ ?_
    · rintro j v σ H2 H3 hj
      exact absurd hj (by omega)
    · rintro σ H2 ⟨rfl, rfl⟩
      by_cases hn : i < 0
      · obtain ⟨c1, c2, c3⟩ := neg_cut hn
        refine ⟨_, rfl, 1, rfl, fg i, rfl, by omega, rfl, _, rfl, iteYes (by rw [c1]; exact decide_eq_true rfl) ?_⟩
        refine ⟨_, rfl, _, rfl, ?_⟩
        show Q (.int (-((i.natAbs : Nat) : Int))) H2
        rw [show -((i.natAbs : Nat) : Int) = i by omega]
        exact k
      · refine ⟨_, rfl, 1, rfl, fg i, rfl, by omega, rfl, _, rfl, iteNo (decide_eq_false fun z => pos_cut hn (V.str.inj z)) ?_⟩
        refine ⟨_, rfl, ?_⟩
        show Q (.int ((i.natAbs : Nat) : Int)) H2
        rw [show ((i.natAbs : Nat) : Int) = i by omega]
        exact k
end
end K10
end
section
set_option Elab.async false
set_option autoImplicit false
set_option linter.all false
set_option maxRecDepth 100000
set_option maxHeartbeats 1000000
set_option pp.maxSteps 1500
namespace K10
open PySem PySem.Spec PyProof.Rows L2 Ls RowM
open C8 (pss_cut tCut)
open TL
/-! ### words of a row -/
theorem fg_ne_bar (i : Int) : fg i ≠ "|" := fun e => by
  have := congrArg tl e
  rw [show tl ("|" : Str) = [124] by decide +kernel] at this
  by_cases h : i < 0
  · rw [fg_neg h] at this
    simp at this
  · rw [fg_pos h, tl_dgs] at this
    have h2 : 124 ∈ numL i.natAbs := by rw [this]; simp
    exact numL_free (by decide) h2
theorem fg_free (i : Int) : (32 : Nat) ∉ tl (fg i) := fun h => by
  by_cases hn : i < 0
  · rw [fg_neg hn] at h
    rcases List.mem_cons.mp h with h | h
    · exact absurd h (by decide)
    · exact numL_free (by decide) h
  · rw [fg_pos hn, tl_dgs] at h
    exact numL_free (by decide) h
theorem rowW_len (f : Nat → Int) (s p : Nat) (d : Int) : (rowW f s p d).length = s + p + 3 := by
  unfold rowW
  simp only [List.length_append, fs_len, List.length_cons, List.length_nil]
  omega
theorem rowW_mem {f : Nat → Int} {s p : Nat} {d : Int} {z : Str} (h : z ∈ rowW f s p d) : (∃ n, n < s + p ∧ z = fg (f n)) ∨ z = "|" ∨ z = "+" ∨ z = fg d := by
  unfold rowW fs at h
  simp only [List.mem_append, List.mem_map, List.mem_cons, List.mem_nil_iff, or_false, List.mem_range] at h
  rcases h with (⟨i, hi, rfl⟩ | rfl) | ⟨i, hi, rfl⟩ | rfl | rfl
  · exact .inl ⟨i, by omega, rfl⟩
  · exact .inr (.inl rfl)
  · exact .inl ⟨s + i, by omega, rfl⟩
  · exact .inr (.inr (.inl rfl))
  · exact .inr (.inr (.inr rfl))
theorem rowW_count (f : Nat → Int) (s p : Nat) (d : Int) : (rowW f s p d).count ("|" : Str) = 1 := by
  have h0 : ∀ (g : Nat → Int) n, (fs (fun i => fg (g i)) n).count ("|" : Str) = 0 := fun g n => List.count_eq_zero.mpr fun h => by
    obtain ⟨i, _, e⟩ := List.mem_map.mp h
    exact fg_ne_bar _ e
  unfold rowW
  have e1 : (("+" : Str) == "|") = false := by decide +kernel
  have e2 : (fg d == ("|" : Str)) = false := beq_eq_false_iff_ne.mpr (fg_ne_bar d)
  rw [List.count_append, List.count_append, List.count_append, h0, h0 (fun i => f (s + i)), List.count_cons, List.count_nil, List.count_cons, List.count_cons, List.count_nil, e1, e2, beq_self_eq_true]
  rfl
/-- .. ahead of the bar, and behind it -/
theorem rowW_at (f : Nat → Int) (s p : Nat) (d : Int) : (rowW f s p d)[s]? = some "|" ∧ ∀ m, m < s → (rowW f s p d)[m]? = some (fg (f m)) := by
  have hl : (fs (fun i => fg (f i)) s ++ [("|" : Str)]).length = s + 1 := by rw [List.length_append, fs_len]; rfl
  unfold rowW
  refine ⟨?_, fun m hm => ?_⟩
  · rw [List.getElem?_append_left (by rw [hl]; omega), List.getElem?_append_right (by rw [fs_len]; omega), fs_len, Nat.sub_self]
    rfl
  · rw [List.getElem?_append_left (by rw [hl]; omega), List.getElem?_append_left (by rw [fs_len]; omega)]
    unfold fs
    rw [List.getElem?_map, List.getElem?_range hm]
    rfl
theorem rowW_take (f : Nat → Int) (s p : Nat) (d : Int) : (rowW f s p d).take s = fs (fun i => fg (f i)) s := by
  unfold rowW
  rw [List.append_assoc, List.take_append_of_le_length (by rw [fs_len]; omega), List.take_of_length_le (by rw [fs_len]; omega)]
theorem rowW_mid (f : Nat → Int) (s p : Nat) (d : Int) : ((rowW f s p d).drop (s + 1)).take p = fs (fun i => fg (f (s + i))) p := by
  have hl : (fs (fun i => fg (f i)) s ++ [("|" : Str)]).length = s + 1 := by rw [List.length_append, fs_len]; rfl
  unfold rowW
  rw [List.drop_append_of_le_length (by rw [hl]; omega), List.drop_of_length_le (by rw [hl]; omega), List.nil_append, List.take_append_of_le_length (by rw [fs_len]; omega), List.take_of_length_le (by rw [fs_len]; omega)]
theorem rowW_end (f : Nat → Int) (s p : Nat) (d : Int) : ∃ A, rowW f s p d = A ++ [("+" : Str), fg d] := ⟨_, (List.append_assoc _ _ _).symm⟩
theorem fs_join (f : Nat → Int) (s p : Nat) : fs (fun i => fg (f i)) s ++ fs (fun i => fg (f (s + i))) p = fs (fun i => fg (f i)) (s + p) := by
  induction p with
  | zero => simp [fs]
  | succ p ih =>
    have h1 : fs (fun i => fg (f (s + i))) (p + 1) = fs (fun i => fg (f (s + i))) p ++ [fg (f (s + p))] := by unfold fs; rw [List.range_succ, List.map_append]; rfl
    have h2 : fs (fun i => fg (f i)) (s + (p + 1)) = fs (fun i => fg (f i)) (s + p) ++ [fg (f (s + p))] := by unfold fs; rw [← Nat.add_assoc, List.range_succ, List.map_append]; rfl
    rw [h1, h2, ← List.append_assoc, ih]
theorem atI_m2 {α : Type} (A : List α) (x y : α) : atI (A ++ [x, y]) (-2) = some x ∧ atI (A ++ [x, y]) (-1) = some y := by
  have hl : (A ++ [x, y]).length = A.length + 2 := by simp
  have e2 : ixN (A ++ [x, y]).length (-2) = some A.length := by
    unfold ixN
    rw [hl, if_neg (by decide), if_pos (by omega)]
    congr 1
    omega
  have e1 : ixN (A ++ [x, y]).length (-1) = some (A.length + 1) := by
    unfold ixN
    rw [hl, if_neg (by decide), if_pos (by omega)]
    congr 1
    omega
  unfold atI
  rw [e2, e1]
  refine ⟨?_, ?_⟩
  · show (A ++ [x, y])[A.length]? = _
    rw [List.getElem?_append_right (Nat.le_refl _), Nat.sub_self]
    rfl
  · show (A ++ [x, y])[A.length + 1]? = _
    rw [List.getElem?_append_right (by omega), show A.length + 1 - A.length = 1 by omega]
    rfl
/-- xs[a:-2] -/
theorem cutV_m2 (xs : List V) (a : Nat) (h : a + 2 ≤ xs.length) : cutV xs (some (a : Int)) (some (-2)) = (xs.drop a).take (xs.length - 2 - a) := by
  have e1 : HT.sIx xs.length 0 (some (a : Int)) = a := by
    rw [sIx_pos (Int.natCast_nonneg a)]
    omega
  have e2 : HT.sIx xs.length xs.length (some (-2)) = xs.length - 2 := by
    show (if (-2 : Int) < 0 then ((-2 : Int) + (xs.length : Int)).toNat else min (-2 : Int).toNat xs.length) = _
    rw [if_pos (by decide)]
    omega
  unfold cutV
  rw [e1, e2]
theorem flat_strs (l : List Str) : (l.map V.str).all flatV = true := by
  rw [List.all_eq_true]
  intro v hv
  obtain ⟨z, _, rfl⟩ := List.mem_map.mp hv
  rfl
section
variable {P : Program} {w : World} {K : PySem.W.Frag} {mg : Str → Option Value} {base : Heap} {CE CN CT CB CR : Addr} {tM tP tF : Tok}
/-- the words of a row that is known -/
def spRowOf (CR : Addr) : Sp := fun vs H Q _ => ∃ (l : Addr) (f : Nat → Int) (s p : Nat) (d : Int), vs = [.ref l] ∧ H l = some (.lst ((rowW f s p d).map V.str)) ∧ Can f s p d ∧ s + p ≤ 2000 ∧ (∀ n, n < s + p → (f n).natAbs < 10 ^ 59) ∧ d.natAbs < 10 ^ 59 ∧ ∀ x H', Ext H H' → RowAt CR H' x f s p d → Q (.ref x) H'
abbrev s_row_of : Stmt := top 21
abbrev N_row_of : List Str := ["words", "bar", "numbers", "word"]
theorem sc_row_of : FnScope N_row_of ["words"] (defScope s_row_of) := ⟨rfl, rfl, rfl, by decide +kernel, rfl, by decide +kernel, by decide +kernel⟩
theorem ok_rowof {fa : Addr} {fd : FuncData} (F : Fun K "row_of" "row_of" s_row_of fa fd) (T : Tx K mg CE CN CT CB CR tM tP tF) (c_is_integer_text : Cal P w K mg base CX0 1 "is_integer_text" spIT) (c_number_of : Cal P w K mg base CX0 1 "number_of" spNO) (c_Row : Mkc P w K mg base (L2.CX P w) 4 CR "Row" (spRow0 CT CR)) :
    FnOk P w K mg base CX0 6 fa fd ["words"] (spRowOf CR) := by
  refine F.ok sc_row_of (fun vs H Q E h => ?_) (fun cdv A outer s0 H vs Q E hr h => ?_)
  · obtain ⟨l, f, s, p, d, rfl, _⟩ := h
    rfl
  · obtain ⟨l, f, s, p, d, rfl, hw, can, hle, hf, hd, k⟩ := h
    have h4 : sizeLine = 16777216 := sizeLine_eq
    have hp1 := can.eq.pos
    have lw := rowW_len f s p d
    have lm : ((rowW f s p d).map V.str).length = s + p + 3 := by rw [List.length_map, lw]
    obtain ⟨A0, eA⟩ := rowW_end f s p d
    have mA : (rowW f s p d).map V.str = A0.map V.str ++ [V.str "+", V.str (fg d)] := by rw [eA, List.map_append]; rfl
    have m2 := atI_m2 (A0.map V.str) (V.str "+") (V.str (fg d))
    rw [← mA] at m2
    obtain ⟨at1, at2⟩ := rowW_at f s p d
    refine ⟨_, (pss_cons (ps_if ((pw_or (pt_cmpR op_ne (pe_bm PySem.F.plainAttrs_list PySem.F.slot_list_count PySem.F.type_list_count mt_countF (pv 0) (pa_cons pe_str pa_nil)) pe_int (nomark _)) (pw_or (pt_cmpR op_lt (pe_callB call_len_seq (by rfl) (T.bn _ (by decide +kernel)) (by decide +kernel) (pa_cons (pv 0) pa_nil)) pe_int (nomark _)) (pw_or1 (pt_cmpR op_ne (pe_ix ix_list (pv 0) (pe_un un_neg pe_int) (fun _ _ => rfl)) pe_str (nomark _)))))).pt (pss_one (ps_ret pe_non)) pss_nil)
      (pss_cons (ps_set (i := 1) sc_row_of.nd rfl (by first | exact Or.inl rfl | exact Or.inr rfl) (pe_bm PySem.F.plainAttrs_list PySem.F.slot_list_index PySem.F.type_list_index mt_index (pv 0) (pa_cons pe_str pa_nil)))
      (pss_cons (ps_set (i := 2) sc_row_of.nd rfl (by first | exact Or.inl rfl | exact Or.inr rfl) (pe_lst (StX.pa_star (pe_slice sl_list (pv 0) po_none (po_some (pv 1))) (StX.pa_star (pe_slice sl_list (pv 0) (po_some (pe_op op_add (pv 1) pe_int)) (po_some (pe_un un_neg pe_int))) pa_nil))))
      (pss_cons (ps_if ((pw_or (pt_cmpR op_gt (pv 1) (pe_op op_sub (pe_callB call_len_seq (by rfl) (T.bn _ (by decide +kernel)) (by decide +kernel) (pa_cons (pv 0) pa_nil)) pe_int) (nomark _)) (pw_or1 (pt_not (pt_val (pe_callB (cr_all rfl) (by rfl) (T.bn _ (by decide +kernel)) (by decide +kernel) (pa_cons (pe_lc (own := [("word", 3)]) rfl sc_row_of.nd (pi_list (pe_lst (StX.pa_star (pv 2) (pa_cons (pe_ix ix_list (pv 0) (pe_un un_neg pe_int) (fun _ _ => rfl)) pa_nil)))) (blkOk_by (own := [("word", 3)]) (N := N_row_of) (sc := defScope s_row_of) (by decide +kernel)) (fun _ _ _ _ _ => (pg_name (i := 3) sc_row_of.nd rfl (by first | exact Or.inl rfl | exact Or.inr rfl))) (fun _ _ _ _ _ => pts_nil) (fun _ _ _ _ _ => (pe_cal c_is_integer_text (hr.mono (by decide)) (by rfl) pass0 (pa_cons (pv 3) pa_nil)))) pa_nil))))))).pt (pss_one (ps_ret pe_non)) pss_nil)
      (pss_one (ps_try_thru0 (pss_one (ps_ret (pe_mkc c_Row (hr.mono (by decide)) (by rfl) passN (pa_cons (pe_lc (own := [("word", 3)]) rfl sc_row_of.nd (pi_list (pv 2)) (blkOk_by (own := [("word", 3)]) (N := N_row_of) (sc := defScope s_row_of) (by decide +kernel)) (fun _ _ _ _ _ => (pg_name (i := 3) sc_row_of.nd rfl (by first | exact Or.inl rfl | exact Or.inr rfl))) (fun _ _ _ _ _ => pts_nil) (fun _ _ _ _ _ => (pe_cal c_number_of (hr.mono (by decide)) (by rfl) pass0 (pa_cons (pv 3) pa_nil)))) (pa_cons (pe_op op_sub (pe_callB call_len_seq (by rfl) (T.bn _ (by decide +kernel)) (by decide +kernel) (pa_cons (pv 2) pa_nil)) (pv 1)) (pa_cons (pe_cal c_number_of (hr.mono (by decide)) (by rfl) pass0 (pa_cons (pe_ix ix_list (pv 0) (pe_un un_neg pe_int) (fun _ _ => rfl)) pa_nil)) pa_nil)))))))))))), ?_⟩
    refine ⟨_, rfl, .inl ⟨rfl, _, SqL.of hw⟩, l, _, .str "|", rfl, rfl, SqL.of hw, rfl, flat_strs _, ?_⟩
    rw [count_strs, rowW_count]
    refine ⟨rfl, _, rfl, iteNo (by rw [decide_eq_true (show V.int ((1 : Nat) : Int) = V.int 1 from rfl)]; rfl) ?_⟩
    refine ⟨_, rfl, l, _, rfl, .inl (SqL.of hw), _, _, rfl, rfl, _, rfl, iteNo (decide_eq_false (by rw [lm]; omega)) ?_⟩
    refine ⟨_, rfl, 2, rfl, l, _, -2, .str "+", rfl, rfl, SqL.of hw, m2.1, rfl, _, rfl, iteNo (by rw [decide_eq_true rfl]; rfl) ?_⟩
    refine ⟨_, rfl, .inl ⟨rfl, _, SqL.of hw⟩, l, _, .str "|", s, .str "|", rfl, rfl, SqL.of hw, rfl, flat_strs _, by rw [List.getElem?_map, at1]; rfl, by decide +kernel, fun m z' hm hz => ?_, ?_⟩
    · rw [List.getElem?_map, at2 m hm] at hz
      cases hz
      show (fg (f m) == ("|" : Str)) = false
      exact beq_eq_false_iff_ne.mpr (fg_ne_bar _)
    refine ⟨_, rfl, _, rfl, s, rfl, l, _, rfl, SqL.of hw, fun c1 nc1 => ?_⟩
    rw [cutM_to _ (by omega), show ((s : Nat) : Int).toNat = s from rfl, rowW_take]
    have e1 : Ext H (upd H c1 (.lst ((fs (fun i => fg (f i)) s).map V.str))) := Ext.upd nc1
    have f1 : (upd H c1 (.lst ((fs (fun i => fg (f i)) s).map V.str))) c1 = some (.lst ((fs (fun i => fg (f i)) s).map V.str)) := upd_same
    generalize (upd H c1 (.lst ((fs (fun i => fg (f i)) s).map V.str))) = H1 at e1 f1
    refine ⟨c1, _, rfl, .inr (SqL.of f1), ?_⟩
    have hw1 := e1 _ _ hw
    refine ⟨_, rfl, _, rfl, _, _, rfl, rfl, (s + 1 : Nat), rfl, 2, rfl, -2, rfl, l, _, rfl, SqL.of hw1, fun c2 nc2 => ?_⟩
    have ec : cutV ((rowW f s p d).map V.str) (some ((s + 1 : Nat) : Int)) (some (-2)) = (fs (fun i => fg (f (s + i))) p).map V.str := by
      rw [cutV_m2 _ _ (by rw [lm]; omega), lm, ← List.map_drop, ← List.map_take, show s + p + 3 - 2 - (s + 1) = p by omega, rowW_mid]
    rw [ec]
    have e2 : Ext H1 (upd H1 c2 (.lst ((fs (fun i => fg (f (s + i))) p).map V.str))) := Ext.upd nc2
    have f2 : (upd H1 c2 (.lst ((fs (fun i => fg (f (s + i))) p).map V.str))) c2 = some (.lst ((fs (fun i => fg (f (s + i))) p).map V.str)) := upd_same
    generalize (upd H1 c2 (.lst ((fs (fun i => fg (f (s + i))) p).map V.str))) = H2 at e2 f2
    refine ⟨c2, _, rfl, .inr (SqL.of f2), ?_⟩
    dsimp only [tNil]
    rw [List.append_nil, ← List.map_append, fs_join]
    refine ⟨by rw [List.length_map, fs_len]; omega, fun tt ntt => ?_⟩
    have e3 : Ext H2 (upd H2 tt (.lst ((fs (fun i => fg (f i)) (s + p)).map V.str))) := Ext.upd ntt
    have f3 : (upd H2 tt (.lst ((fs (fun i => fg (f i)) (s + p)).map V.str))) tt = some (.lst ((fs (fun i => fg (f i)) (s + p)).map V.str)) := upd_same
    generalize (upd H2 tt (.lst ((fs (fun i => fg (f i)) (s + p)).map V.str))) = H3 at e3 f3
    have e03 := e1.trans (e2.trans e3)
    have hw3 := e03 _ _ hw
    have ls : ((fs (fun i => fg (f i)) (s + p)).map V.str).length = s + p := by rw [List.length_map, fs_len]
    refine ⟨_, rfl, _, rfl, l, _, rfl, .inl (SqL.of hw3), _, _, rfl, rfl, _, _, rfl, rfl, _, rfl, iteNo (decide_eq_false (by rw [lm]; omega)) ?_⟩
    refine ⟨_, rfl, tt, _, rfl, .inr (SqL.of f3), _, rfl, 1, rfl, l, _, -1, .str (fg d), rfl, rfl, SqL.of hw3, m2.2, ?_⟩
    have eA : (fs (fun i => fg (f i)) (s + p)).map V.str ++ [V.str (fg d)] = (fs (fun i => fg (if i < s + p then f i else d)) (s + p + 1)).map V.str := by
      rw [← fs_snoc (fun i => fg (if i < s + p then f i else d)), if_neg (Nat.lt_irrefl _)]
      refine congrArg (fun z : List Str => z.map V.str ++ [V.str (fg d)]) (List.map_congr_left fun i hi => ?_)
      rw [if_pos (List.mem_range.mp hi)]
    have lA : ((fs (fun i => fg (if i < s + p then f i else d)) (s + p + 1)).map V.str).length = s + p + 1 := by rw [List.length_map, fs_len]
    have hA : ∀ i, i < s + p + 1 → (if i < s + p then f i else d).natAbs < 10 ^ 59 := fun i hi => by
      by_cases z : i < s + p
      · rw [if_pos z]; exact hf i z
      · rw [if_neg z]; exact hd
    dsimp only [tNil]
    rw [eA]
    refine ⟨by rw [lA]; omega, fun u nu => ?_⟩
    have e4 : Ext H3 (upd H3 u (.lst ((fs (fun i => fg (if i < s + p then f i else d)) (s + p + 1)).map V.str))) := Ext.upd nu
    have f4 : (upd H3 u (.lst ((fs (fun i => fg (if i < s + p then f i else d)) (s + p + 1)).map V.str))) u = some (.lst ((fs (fun i => fg (if i < s + p then f i else d)) (s + p + 1)).map V.str)) := upd_same
    generalize (upd H3 u (.lst ((fs (fun i => fg (if i < s + p then f i else d)) (s + p + 1)).map V.str))) = H4 at e4 f4
    refine ⟨u, rfl, ⟨_, SqL.of f4⟩, fun D hD => ?_⟩
    have nuD : u ≠ D := ne_of_none f4 hD
    refine lc_it (walk_list (K := K) (xs := (fs (fun i => fg (if i < s + p then f i else d)) (s + p + 1)).map V.str)) (fun i Hx => Hx D = some (.lst ((List.replicate i true).map V.bl)) ∧ Ext H4 Hx) ⟨upd_same, Ext.upd hD⟩ (fun i Hx _ e => SqL.of (e.2 _ _ f4)) ?_ ?_
    · rintro i x Hx H' hi ⟨g1, g2⟩ ⟨rfl, hx⟩
      have hi : i < s + p + 1 := by rw [lA] at hi; exact hi
      have hx : x = .str (fg (if i < s + p then f i else d)) := by
        rw [List.getElem?_map] at hx
        unfold fs at hx
        rw [List.getElem?_map, List.getElem?_range hi] at hx
        exact (Option.some.inj hx).symm
      subst hx
      refine ⟨rfl, _, rfl, _, rfl, hA i hi, fun H2 e => ⟨_, e _ _ g1, by rw [List.length_map, List.length_replicate]; show i < 16777216; omega, ?_, fun b o q => ?_⟩⟩
      · rw [upd_same, List.replicate_succ', List.map_append]
        rfl
      · rw [upd_ne (ne_of_none q hD)]
        exact e _ _ (g2 _ _ q)
    rintro H5 ⟨g1, e5⟩
    rw [lA] at g1
    refine ⟨D, _, rfl, SqL.of g1, ?_⟩
    rw [show (List.replicate (s + p + 1) true).all id = true by simp]
    refine ⟨_, rfl, iteF ?_⟩
    have e35 := e4.trans e5
    have f5 := e35 _ _ f3
    have hw5 := e35 _ _ hw3
    refine ⟨_, rfl, tt, rfl, ⟨_, SqL.of f5⟩, fun D2 hD2 => ?_⟩
    have ntD : tt ≠ D2 := ne_of_none f5 hD2
    refine lc_it (walk_list (K := K) (xs := (fs (fun i => fg (f i)) (s + p)).map V.str)) (fun i Hx => Hx = upd H5 D2 (.lst (fl f i))) rfl (fun i Hx _ e => SqL.of (by rw [e, upd_ne ntD]; exact f5)) ?_ ?_
    · rintro i x Hx H' hi rfl ⟨rfl, hx⟩
      have hi : i < s + p := by rw [ls] at hi; exact hi
      have hx : x = .str (fg (f i)) := by
        rw [List.getElem?_map] at hx
        unfold fs at hx
        rw [List.getElem?_map, List.getElem?_range hi] at hx
        exact (Option.some.inj hx).symm
      subst hx
      refine ⟨rfl, _, rfl, _, rfl, hf i hi, _, upd_same, by rw [fl_len]; show i < 16777216; omega, ?_⟩
      show upd (upd H5 D2 _) D2 _ = _
      rw [upd_upd, fl_snoc]
    rintro H6 rfl
    rw [ls]
    have e6 : Ext H5 (upd H5 D2 (.lst (fl f (s + p)))) := Ext.upd hD2
    have f6 : (upd H5 D2 (.lst (fl f (s + p)))) D2 = some (.lst (fl f (s + p))) := upd_same
    generalize (upd H5 D2 (.lst (fl f (s + p)))) = H6 at e6 f6
    refine ⟨_, rfl, tt, _, rfl, .inl (SqL.of (e6 _ _ f5)), _, rfl, _, _, rfl, rfl, ?_⟩
    rw [ls]
    have ei : (((s + p : Nat) : Int) - (s : Int)) = (p : Int) := by omega
    refine ⟨_, rfl, 1, rfl, l, _, -1, .str (fg d), rfl, rfl, SqL.of (e6 _ _ hw5), m2.2, d, rfl, hd, ?_⟩
    have can' : Can f (s + p - p) p d := by rw [Nat.add_sub_cancel]; exact can
    intro x7 dx7 nx7 nd7 ne7
    show spRow0 CT CR [.ref x7, .ref D2, .int (((s + p : Nat) : Int) - (s : Int)), .int d] _ _ _
    rw [ei]
    refine mk_row2 (Qf := fun z v H2 => v = V.non ∧ Q (V.ref z) H2) (.inl f6) can'.eq (by omega) hle (fun s' p' d' x H7 _ _ _ e7 r7 => ⟨rfl, by
      obtain ⟨rfl, rfl, rfl⟩ := can.uniq r7.can
      exact k x H7 ((e03.trans e35).trans (e6.trans e7)) r7⟩) x7 dx7 nx7 nd7 ne7
theorem joinL_len (y : List Nat) (m : Nat) : ∀ ps : List (List Nat), (∀ p ∈ ps, p.length ≤ m) → (joinL y ps).length ≤ ps.length * (m + y.length)
  | [], _ => Nat.zero_le _
  | [x], h => by
    have := h x (List.mem_cons_self ..)
    show x.length ≤ 1 * _
    omega
  | x :: z :: r, h => by
    have h1 := h x (List.mem_cons_self ..)
    have h2 := joinL_len y m (z :: r) fun p hp => h p (List.mem_cons_of_mem _ hp)
    have e : (joinL y (x :: z :: r)).length = x.length + y.length + (joinL y (z :: r)).length := by
      show (x ++ (y ++ joinL y (z :: r))).length = _
      rw [List.length_append, List.length_append]
      omega
    rw [e, List.length_cons, Nat.succ_mul]
    omega
theorem rowT_len {f : Nat → Int} {s p : Nat} {d : Int} (hf : ∀ n, n < s + p → (f n).natAbs < 10 ^ 59) (hd : d.natAbs < 10 ^ 59) : (Txt.join " " (rowW f s p d)).length ≤ (s + p + 3) * 63 := by
  rw [len_tl, join_eq, tl_join]
  have h := joinL_len (tl (" " : Str)) 62 ((rowW f s p d).map tl) fun q hq => by
    obtain ⟨z, hz, rfl⟩ := List.mem_map.mp hq
    rw [← len_tl]
    rcases rowW_mem hz with ⟨n, hn, rfl⟩ | rfl | rfl | rfl
    · have := fg_short (hf n hn); omega
    · decide
    · decide
    · have := fg_short hd; omega
  rw [List.length_map, rowW_len, sp_tl] at h
  rw [sp_tl]
  exact h
theorem rowT_split {f : Nat → Int} {s p : Nat} {d : Int} : Txt.split (Txt.join " " (rowW f s p d)) " " = rowW f s p d := by
  refine split_join sp_tl sp_kd (fun e => ?_) fun q hq => ?_
  · have := rowW_len f s p d
    rw [e] at this
    simp at this
  · rcases rowW_mem hq with ⟨n, hn, rfl⟩ | rfl | rfl | rfl
    · exact fg_free _
    · decide +kernel
    · decide +kernel
    · exact fg_free _
/-- Row.read(text), the text of a row -/
def spRead (CR : Addr) : Sp := fun vs H Q _ => ∃ (c : V) (f : Nat → Int) (s p : Nat) (d : Int), vs = [c, .str (Txt.join " " (rowW f s p d))] ∧ Can f s p d ∧ s + p ≤ 2000 ∧ (∀ n, n < s + p → (f n).natAbs < 10 ^ 59) ∧ d.natAbs < 10 ^ 59 ∧ ∀ x H', Ext H H' → RowAt CR H' x f s p d → Q (.ref x) H'
abbrev s_Row_read : Stmt := inClass (top 31) 3
abbrev N_Row_read : List Str := ["cls", "text", "found"]
theorem sc_Row_read : FnScope N_Row_read ["cls", "text"] (defScope s_Row_read) := ⟨rfl, rfl, rfl, by decide +kernel, rfl, by decide +kernel, by decide +kernel⟩
theorem ok_read {fa fT : Addr} {fd : FuncData} (F : Fun K "read" "Row.read" s_Row_read fa fd) (T : Tx K mg CE CN CT CB CR tM tP tF) (c_row_of : Cal P w K mg base CX0 6 "row_of" (spRowOf CR)) (aT : PySem.W.findIn K (.ref CR) "__str__" = some (some (.ref fT))) (hfs : PySem.W.isFn K (.ref fT) = true) (rStr : FnR P w K mg base CX0 3 fT (spStr CR)) : FnOk P w K mg base CX0 7 fa fd ["cls", "text"] (spRead CR) := by
  refine F.ok sc_Row_read (fun vs H Q E h => ?_) (fun cdv A outer s0 H vs Q E hr h => ?_)
  · obtain ⟨c, f, s, p, d, rfl, _⟩ := h
    rfl
  · obtain ⟨c, f, s, p, d, rfl, can, hle, hf, hd, k⟩ := h
    refine ⟨_, (pss_cons (ps_set (i := 2) sc_Row_read.nd rfl (by first | exact Or.inl rfl | exact Or.inr rfl) (pe_ifExp (pt_val (pe_callB call_isi (by rfl) (T.bn _ (by decide +kernel)) (by decide +kernel) (pa_cons (pv 1) (pa_cons (pe_gty (T := "str") (by rfl) (T.bn _ (by decide +kernel)) (by decide +kernel)) pa_nil)))) (pe_cal c_row_of (hr.mono (by decide)) (by rfl) pass0 (pa_cons (pe_split (pv 1) pe_str) pa_nil)) pe_non))
      (pss_cons (ps_if ((pw_or (pt_cmpR op_isN (pv 2) pe_non (nomark _)) (pw_or1 (pt_cmpR op_ne (pe_callTy (call_strOwn hfs rStr (hr.mono (by decide)) pass0) (by rfl) (T.bn _ (by decide +kernel)) (by decide +kernel) (pa_cons (pv 2) pa_nil)) (pv 1) (nomark _))))).pt pss_never pss_nil)
      (pss_one (ps_ret (pv 2))))), ?_⟩
    have h4 : sizeLine = 16777216 := sizeLine_eq
    have hl := rowT_len hf hd
    have h60 : (10 : Nat) ^ 59 ≤ 10 ^ 60 := by decide
    refine ⟨_, rfl, _, _, _, _, true, rfl, .ty "str", .base (.str _), kit_ty (by decide +kernel), _, rfl, iteT ?_⟩
    refine ⟨_, rfl, ⟨_, rfl⟩, _, _, rfl, rfl, by decide +kernel, by omega, fun l hl => ?_⟩
    rw [rowT_split]
    have e1 : Ext H (upd H l (.lst ((rowW f s p d).map V.str))) := Ext.upd hl
    refine ⟨l, f, s, p, d, rfl, upd_same, can, hle, hf, hd, fun x H' e2 r => ?_⟩
    have e := e1.trans e2
    obtain ⟨dx, t, h1, h2⟩ := r.ex
    refine ⟨_, rfl, rfl, _, rfl, iteNo (decide_eq_false (fun z => nomatch z)) ?_⟩
    refine ⟨_, rfl, x, CR, dx, _, rfl, h1, aT, x, f, s, p, d, rfl, r, fun n hn => Nat.lt_of_lt_of_le (hf n hn) h60, Nat.lt_of_lt_of_le hd h60, fun H3 e3 => ⟨_, rfl, _, rfl, rfl, _, rfl, iteNo (by rw [decide_eq_true rfl]; rfl) ⟨_, rfl, ?_⟩⟩⟩
    exact k x H3 (e.trans e3) (r.ext e3)
end
end K10
end
section
set_option Elab.async false
set_option autoImplicit false
set_option linter.all false
set_option maxRecDepth 100000
set_option maxHeartbeats 1000000
set_option pp.maxSteps 1500
namespace K10
open PySem PySem.Spec PyProof.Rows L2 Ls RowM
open C8 (pss_cut tCut)
open TL
def f034 : Nat → Int := ext [0, 3, 4] 2 3
theorem f034_eq : EQ f034 1 2 3 := ext_eq (xs := [0, 3, 4]) (p := 2) (d := 3) (by decide) (by decide)
/-- start 1, period 2, step 3: nothing less will do -/
theorem can_of {f : Nat → Int} {s p s0 p0 : Nat} {d d0 : Int} (c : Can f s0 p0 d0) (h : EQ f s p d) (h1 : ∀ q e, q ∣ p → d = (p / q : Nat) * e → q = p) (h2 : ∀ s', s' < s → f (s' + p) ≠ f s' + d) : s0 = s ∧ p0 = p ∧ d0 = d := by
  obtain ⟨q1, q2⟩ := c.dvd h
  have e1 := h1 p0 d0 q1 q2
  subst e1
  rw [Nat.div_self h.pos] at q2
  have e2 : d0 = d := by rw [q2]; simp
  subst e2
  have hs : s0 ≤ s := c.low _ _ _ h
  by_cases hl : s0 < s
  · exact absurd (c.eq.per s0 (Nat.le_refl _)) (h2 s0 hl)
  · exact ⟨by omega, rfl, rfl⟩
theorem dvd2 {q : Nat} {e : Int} (h : q ∣ 2) (h' : (3 : Int) = (2 / q : Nat) * e) : q = 2 := by
  have hq : q ≤ 2 := Nat.le_of_dvd (by decide) h
  match q, hq with
  | 0, _ => cases Nat.eq_zero_of_zero_dvd h
  | 1, _ =>
    have h' : (3 : Int) = 2 * e := h'
    omega
  | 2, _ => rfl
theorem can034 {s p : Nat} {d : Int} (c : Can f034 s p d) : s = 1 ∧ p = 2 ∧ d = 3 := can_of c f034_eq (fun _ _ => dvd2) fun s' hs => by
  have : s' = 0 := by omega
  subst this
  decide
theorem can034b {s p : Nat} {d : Int} (c : Can (fun n => f034 (n + 1)) s p d) : s = 0 ∧ p = 2 ∧ d = 3 := can_of c (eq_shift f034_eq 1) (fun _ _ => dvd2) fun s' hs => by
  have hs : s' < 0 := hs
  omega
theorem can034c {s p : Nat} {d : Int} (c : Can (fun n => f034 (n * 2)) s p d) : s = 1 ∧ p = 1 ∧ d = 3 := can_of c (eq_every f034_eq (j := 2) (by decide)) (fun q e h _ => Nat.dvd_one.mp h) fun s' hs => by
  have hs : s' < 1 := hs
  have : s' = 0 := by omega
  subst this
  decide
theorem txt1 : Txt.join " " (rowW (fun n => f034 (n + 1)) 0 2 3) = "| 3 4 + 3" := by decide +kernel
theorem txt2 : Txt.join " " (rowW f034 1 2 3) = "0 | 3 4 + 3" := by decide +kernel
theorem txt3 : Txt.join " " (rowW (fun n => f034 (n * 2)) 1 1 3) = "0 | 4 + 3" := by decide +kernel
end K10
end
section
set_option Elab.async false
set_option autoImplicit false
set_option linter.all false
set_option maxRecDepth 100000
set_option maxHeartbeats 1000000
set_option pp.maxSteps 1500
namespace K10
open PySem PySem.Spec PyProof.Rows L2 Ls RowM
open C8 (pss_cut tCut)
open TL
/-! ### _law_heard -/
/-- what the top says of an error class with one field -/
structure ErrF (K : PySem.W.Frag) (CE C : Addr) (f : Str) : Prop where
  exm : PySem.W.exmOne K (.ref C) (.ref CE) = some true
  ec : ExcC K C
  own : PySem.W.kitOne K (.ref C) (.ref C) = some true
  xf : XfC K C
  no : PySem.W.findIn K (.ref C) f = some none
def HeardE (CN CT : Addr) (Q : VK) : XK := fun cls d H' =>
  (∃ (dd : Addr) (v : V), cls = .ref CN ∧ d = some dd ∧ H' dd = some (.xd [("value", v)]) ∧ ∀ p H2, Ext H' H2 → nw H' H2 p = some (.tup [.str "number", v]) → Q (.ref p) H2) ∨
  (∃ (dd : Addr), cls = .ref CT ∧ d = some dd ∧ H' dd = some (.xd [("most", .int 2000)]) ∧ ∀ p H2, Ext H' H2 → nw H' H2 p = some (.tup [.str "many", .int 2000]) → Q (.ref p) H2)
def HeardV (Q : VK) : VK := fun _ H1 => ∀ H2, Ext H1 H2 → Q .non H2
def TTh (CN CT : Addr) : (XK → Hp → VK → Prop) → Hp → VK → Prop := fun tl H Q => ∀ (E' : XK) (Q' : VK) (H0 : Hp), Ext H H0 → (∀ cls d H', HeardE CN CT Q cls d H' → E' cls d H') → (∀ v H1, HeardV Q v H1 → Q' v H1) → tl E' H0 Q'
section
variable {P : Program} {w : World} {K : PySem.W.Frag} {mg : Str → Option Value} {base : Heap} {CE CN CT CB CR : Addr} {tM tP tF : Tok}
abbrev s__law_heard : Stmt := top 36
abbrev N__law_heard : List Str := ["_law_ask", "_law_caught", "error"]
theorem sc__law_heard : FnScope N__law_heard ["_law_ask"] (defScope s__law_heard) := ⟨rfl, rfl, rfl, by decide +kernel, rfl, by decide +kernel, by decide +kernel⟩
theorem heard_gives {A : Around} {stack : List Env} {g : Addr} {cdv : Value} {q : Str} (T : Tx K mg CE CN CT CB CR tM tP tF) (eN : ErrF K CE CN "value") (eT : ErrF K CE CT "most") (kNV : PySem.W.kitOne K (.ref CN) (.type "ValueError") = some true) (kTN : PySem.W.kitOne K (.ref CT) (.ref CN) = some false) {CP : Addr} (m_BadPrice : mg "BadPrice" = some (.ref CP)) (hA : Room 3 A) :
    GivesP P w K mg base A stack N__law_heard "_law_heard" (defScope s__law_heard) g cdv (defBody s__law_heard) "_law_ask" q (TTh CN CT) := by
  intro f c' s H Q tl act hc h
  have hr : Room 2 (A.deeper (envOfC "_law_heard" (defScope s__law_heard) s.heap.objs.size g cdv)) := hA.deeper _
  refine ⟨_, (pss_cons (ps_set (i := 1) sc__law_heard.nd rfl (by first | exact Or.inl rfl | exact Or.inr rfl) pe_non)
      (pss_cons (ps_try_ask (i := 2) rfl rfl sc__law_heard.nd rfl rfl ⟨by rfl, by decide, .inl T.m_StowError⟩ LamX.takes0 rfl (fun W pn xe tk _ => (pss_one (ps_expr (act W pn xe _ _ tk))))
      (fun a pn => (pss_one (ps_set (i := 1) sc__law_heard.nd rfl (by first | exact Or.inl rfl | exact Or.inr rfl) (pv 2)))))
      (pss_cons (ps_if (pt_cmpR op_isN (pv 1) pe_non (nomark _)) (pss_one (ps_ret pe_non)) pss_nil)
      (pss_cons (ps_if ((pw_and (pt_val (pe_callB call_isX (by rfl) (T.bn _ (by decide +kernel)) (by decide +kernel) (pa_cons (pv 1) (pa_cons (pe_gref (by rfl) T.m_BadNumber) pa_nil)))) (pw_and1 (pt_val (pe_callB call_isX (by rfl) (T.bn _ (by decide +kernel)) (by decide +kernel) (pa_cons (pv 1) (pa_cons (pe_gty (T := "ValueError") (by rfl) (T.bn _ (by decide +kernel)) (by decide +kernel)) pa_nil))))))).pt (pss_one (ps_ret (pe_tup (pa_cons pe_str (pa_cons (pe_xk (pv 1)) pa_nil))))) pss_nil)
      (pss_one (ps_ret (pe_ifExp (pt_val (pe_callB call_isX (by rfl) (T.bn _ (by decide +kernel)) (by decide +kernel) (pa_cons (pv 1) (pa_cons (pe_gref (by rfl) T.m_TooMany) pa_nil)))) (pe_tup (pa_cons pe_str (pa_cons (pe_xk (pv 1)) pa_nil))) (pe_tup (pa_cons pe_str (pa_cons (pe_callB call_isX (by rfl) (T.bn _ (by decide +kernel)) (by decide +kernel) (pa_cons (pv 1) (pa_cons (pe_gref (by rfl) m_BadPrice) pa_nil))) pa_nil)))))))))), ?_⟩
  refine ⟨rfl, hc, h _ _ _ Ext.rfl' (fun cls d H' he => ?_) (fun v H1 hv => ?_)⟩
  · rcases he with ⟨dd, v, rfl, rfl, hdd, k⟩ | ⟨dd, rfl, rfl, hdd, k⟩
    · refine ⟨true, eN.exm, fun _ a ha => ?_, fun z => nomatch z⟩
      have hd1 : (upd H' a (exk a (.ref CN) (some dd))) dd = some (.xd [("value", v)]) := by rw [upd_ne (ne_of_none hdd ha)]; exact hdd
      have ha1 : (upd H' a (exk a (.ref CN) (some dd))) a = some (exk a (.ref CN) (some dd)) := upd_same
      have e1 : Ext H' (upd H' a (exk a (.ref CN) (some dd))) := Ext.upd ha
      generalize (upd H' a (exk a (.ref CN) (some dd))) = H1 at hd1 ha1 e1
      have xd : ∀ d', some dd = some d' → ∃ fs, H1 d' = some (.xd fs) := fun d' z => by
        cases z
        exact ⟨_, hd1⟩
      refine ⟨_, rfl, ?_⟩
      refine ⟨_, rfl, rfl, _, rfl, iteNo (decide_eq_false (fun z => nomatch z)) ?_⟩
      refine ⟨_, rfl, a, _, _, _, _, true, rfl, ha1, eN.ec, xd, fun u r => r, eN.own, _, rfl, iteT ?_⟩
      refine ⟨_, rfl, a, _, _, _, _, true, rfl, ha1, eN.ec, xd, fun u r => r, kNV, _, rfl, iteT ?_⟩
      exact ⟨_, rfl, a, _, dd, _, v, rfl, ha1, eN.xf, eN.no, hd1, rfl, (by show 2 ≤ sizeLine; decide), fun p hp => k p _ (e1.trans (Ext.upd hp)) (by rw [nw_at (ext_free e1 hp)]; exact upd_same)⟩
    · refine ⟨true, eT.exm, fun _ a ha => ?_, fun z => nomatch z⟩
      have hd1 : (upd H' a (exk a (.ref CT) (some dd))) dd = some (.xd [("most", .int 2000)]) := by rw [upd_ne (ne_of_none hdd ha)]; exact hdd
      have ha1 : (upd H' a (exk a (.ref CT) (some dd))) a = some (exk a (.ref CT) (some dd)) := upd_same
      have e1 : Ext H' (upd H' a (exk a (.ref CT) (some dd))) := Ext.upd ha
      generalize (upd H' a (exk a (.ref CT) (some dd))) = H1 at hd1 ha1 e1
      have xd : ∀ d', some dd = some d' → ∃ fs, H1 d' = some (.xd fs) := fun d' z => by
        cases z
        exact ⟨_, hd1⟩
      refine ⟨_, rfl, ?_⟩
      refine ⟨_, rfl, rfl, _, rfl, iteNo (decide_eq_false (fun z => nomatch z)) ?_⟩
      refine ⟨_, rfl, a, _, _, _, _, false, rfl, ha1, eT.ec, xd, fun u r => r, kTN, _, rfl, iteF ?_⟩
      refine ⟨_, rfl, a, _, _, _, _, true, rfl, ha1, eT.ec, xd, fun u r => r, eT.own, _, rfl, iteT ?_⟩
      exact ⟨_, rfl, a, _, dd, _, .int 2000, rfl, ha1, eT.xf, eT.no, hd1, rfl, (by show 2 ≤ sizeLine; decide), fun p hp => k p _ (e1.trans (Ext.upd hp)) (by rw [nw_at (ext_free e1 hp)]; exact upd_same)⟩
  · refine ⟨_, rfl, rfl, _, rfl, iteYes (decide_eq_true rfl) ?_⟩
    exact hv _ Ext.rfl'
end
end K10
end
section
set_option Elab.async false
set_option autoImplicit false
set_option linter.all false
set_option maxRecDepth 100000
set_option maxHeartbeats 1000000
set_option pp.maxSteps 1500
namespace K10
open PySem PySem.Spec PyProof.Rows L2 Ls RowM
open C8 (pss_cut tCut)
open TL
/-! ### what is no integer -/
def oddL : List PyData := [.none, .bool true, .bool false, .str "1", .str "", .tuple [.int 1], .list [.int 2], .dict [], .dict [(.int 1, .int 2)]]
theorem odd_no : ∀ D ∈ oddL, isIntD D = false := by decide
theorem odd_show : ∀ D ∈ oddL, D.showable = true ∧ D.depth ≤ 2 ∧ D.shown.length ≤ 40 ∧ (PyData.tuple [.str "number", D]).showable = true ∧ (PyData.tuple [.str "number", D]).depth ≤ 60 ∧ (PyData.tuple [.str "number", D]).shown.length ≤ 1000 := by decide +kernel
theorem nw_keep {H H1 H2 : Hp} {pn c : Addr} {n : Nat} (hp : PenAt H pn c n) (k : Keep pn c H1 H2) : Ext (nw H H1) (nw H H2) := fun a o e => by
  obtain ⟨h0, h1⟩ := nw_some e
  obtain ⟨ns, x, r, q1, q2, _⟩ := hp
  rw [nw_at h0]
  exact k a o h1 (fun z => by rw [z, q1] at h0; cases h0) (fun z => by rw [z, q2] at h0; cases h0)
section
variable {P : Program} {w : World} {K : PySem.W.Frag} {mg : Str → Option Value} {base : Heap} {CE CN CT CB CR : Addr} {tM tP tF : Tok}
def spOdd : Sp := fun vs H Q _ => ∃ (pn c : Addr) (n : Nat), vs = [.ref pn] ∧ PenAt H pn c n ∧ n + 5 < 1048576 ∧ ∀ (x : V) (D : PyData) (H' : Hp), D ∈ oddL → TV (nw H H') x D → PenAt H' pn c (n + 1) → Keep pn c H H' → Q x H'
abbrev s__law_odd : Stmt := top 37
abbrev N__law_odd : List Str := ["_law_pen_here"]
theorem sc__law_odd : FnScope N__law_odd ["_law_pen_here"] (defScope s__law_odd) := ⟨rfl, rfl, rfl, by decide +kernel, rfl, by decide +kernel, by decide +kernel⟩
theorem ok_odd {fa : Addr} {fd : FuncData} (F : Fun K "_law_odd" "_law_odd" s__law_odd fa fd) (T : Tx K mg CE CN CT CB CR tM tP tF) (c__law_pick : Cal P w K mg base CX0 2 "_law_pick" (spPick K)) : FnOk P w K mg base CX0 3 fa fd ["_law_pen_here"] spOdd := by
  refine F.ok sc__law_odd (fun vs H Q E h => ?_) (fun cdv A outer s0 H vs Q E hr h => ?_)
  · obtain ⟨pn, c, n, rfl, _⟩ := h
    rfl
  · obtain ⟨pn, c, n, rfl, hp, hn, k⟩ := h
    refine ⟨_, (pss_one (ps_ret (pe_cal c__law_pick (hr.mono (by decide)) (by rfl) pass0 (pa_cons (pv 0) (pa_cons (pe_lst (pa_cons pe_non (pa_cons pe_bl (pa_cons pe_bl (pa_cons pe_str (pa_cons pe_str (pa_cons (pe_tup (pa_cons pe_int pa_nil)) (pa_cons (pe_lst (pa_cons pe_int pa_nil)) (pa_cons pe_dnewK (pa_cons (pe_disp (pps_cons pe_int pe_int pps_nil) (by rfl) (by rfl) (fun z => by cases z) (by decide)) pa_nil)))))))))) pa_nil))))), ?_⟩
    refine ⟨_, rfl, (by show 1 ≤ sizeLine; decide), fun a1 n1 => ?_⟩
    have e1 : Ext H (upd H a1 (.tup [V.int 1])) := Ext.upd n1
    have f1 : (upd H a1 (.tup [V.int 1])) a1 = some (.tup [V.int 1]) := upd_same
    generalize (upd H a1 (.tup [V.int 1])) = H1 at e1 f1
    refine ⟨(by show 1 ≤ sizeLine; decide), fun a2 n2 => ?_⟩
    have e2 : Ext H1 (upd H1 a2 (.lst [V.int 2])) := Ext.upd n2
    have f2 : (upd H1 a2 (.lst [V.int 2])) a2 = some (.lst [V.int 2]) := upd_same
    generalize (upd H1 a2 (.lst [V.int 2])) = H2 at e2 f2
    intro a3 n3
    have e3 : Ext H2 (upd H2 a3 (.dK [])) := Ext.upd n3
    have f3 : (upd H2 a3 (.dK [])) a3 = some (.dK []) := upd_same
    generalize (upd H2 a3 (.dK [])) = H3 at e3 f3
    intro a4 n4
    refine ⟨upd_same, [(.inl 1, .int 2)], rfl, (by decide), ?_⟩
    have e4 : Ext H3 (upd (upd H3 a4 (.dK [])) a4 (.dK (mergeK [] [(.inl 1, .int 2)]))) := by
      rw [upd_upd]
      exact Ext.upd n4
    have f4 : (upd (upd H3 a4 (.dK [])) a4 (.dK (mergeK [] [(.inl 1, .int 2)]))) a4 = some (.dK [(.inl 1, .int 2)]) := by
      rw [upd_same]
      rfl
    generalize (upd (upd H3 a4 (.dK [])) a4 (.dK (mergeK [] [(.inl 1, .int 2)]))) = H4 at e4 f4
    have e14 := e1.trans (e2.trans (e3.trans e4))
    have h1 : (nw H H4) a1 = some (.tup [V.int 1]) := by rw [nw_at n1]; exact (e2.trans (e3.trans e4)) _ _ f1
    have h2 : (nw H H4) a2 = some (.lst [V.int 2]) := by rw [nw_at (ext_free e1 n2)]; exact (e3.trans e4) _ _ f2
    have h3 : (nw H H4) a3 = some (.dK []) := by rw [nw_at (ext_free (e1.trans e2) n3)]; exact e4 _ _ f3
    have h4 : (nw H H4) a4 = some (.dK [(.inl 1, .int 2)]) := by rw [nw_at (ext_free (e1.trans (e2.trans e3)) n4)]; exact f4
    have tv : TVs (nw H H4) [V.non, V.bl true, V.bl false, V.str "1", V.str "", V.ref a1, V.ref a2, V.ref a3, V.ref a4] oddL :=
      .cons .non (.cons (.bl _) (.cons (.bl _) (.cons (.str _) (.cons (.str _) (.cons (.tup h1 (.cons (.int _) .nil)) (.cons (.lst h2 (.cons (.int _) .nil)) (.cons (.dct h3 .nil .nil) (.cons (.dct h4 (.cons (.int _) .nil) (.cons (.int _) .nil)) .nil))))))))
    refine ⟨(by show 9 ≤ sizeLine; decide), fun O hO => ?_⟩
    have hp4 := hp.ext e14
    obtain ⟨npO, ncO⟩ := hp4.ne hO
    have eO := Ext.upd (o := .lst [V.non, V.bl true, V.bl false, V.str "1", V.str "", V.ref a1, V.ref a2, V.ref a3, V.ref a4]) hO
    refine ⟨pn, c, n, .ref O, rfl, hp4.ext eO, by omega, .inl ⟨O, _, rfl, npO.symm, ncO.symm, upd_same, (by show 0 < 9; decide), (by show 9 ≤ 1000; decide), fun x H5 hx hp5 kp5 => ?_⟩⟩
    obtain ⟨D, hD, tv5⟩ := (tv.ext ((nw_more eO).trans (nw_keep hp kp5))).mem hx
    exact k x D H5 hD tv5 hp5 ((Keep.ext (e14.trans eO)).trans kp5)
end
end K10
end
section
set_option Elab.async false
set_option autoImplicit false
set_option linter.all false
set_option maxRecDepth 100000
set_option maxHeartbeats 1000000
set_option pp.maxSteps 1500
namespace K10
open PySem PySem.Spec PyProof.Rows L2 Ls RowM
open C8 (pss_cut tCut)
open TL
/-! ### numbers, a period and a step, right or not -/
/-- it can be told -/
def Nice (D : PyData) : Prop := (PyData.tuple [.str "number", D]).showable = true ∧ (PyData.tuple [.str "number", D]).depth ≤ 60 ∧ (PyData.tuple [.str "number", D]).shown.length ≤ 1000
instance (D : PyData) : Decidable (Nice D) := inferInstanceAs (Decidable (_ ∧ _ ∧ _))
theorem nice_odd {D : PyData} (h : D ∈ oddL) : Nice D := (odd_show D h).2.2.2
def Core (vs : List V) (P S bad : V) (D : PyData) : Prop := (bad = P ∧ ∀ i : Int, D = .int i → ¬ (1 ≤ i ∧ i ≤ vs.length)) ∨ ((∃ p : Int, P = .int p ∧ 1 ≤ p ∧ p ≤ vs.length) ∧ ∃ i : Nat, (S :: vs)[i]? = some bad ∧ (∀ j, j < i → ∃ z : Int, (S :: vs)[j]? = some (V.int z)) ∧ isIntD D = false)
def Verd (pn c : Addr) (H : Hp) (vs : List V) (P S due : V) : Prop :=
  (∃ (xs : List Int) (p : Nat) (d : Int), vs = xs.map V.int ∧ P = .int p ∧ S = .int d ∧ 1 ≤ p ∧ p ≤ xs.length ∧ due = .non) ∨
  ∃ (t : Addr) (bad : V) (D : PyData), due = .ref t ∧ H t = some (.tup [.str "number", bad]) ∧ Nice D ∧ TV (vis [pn, c] H) bad D ∧ Core vs P S bad D
theorem Verd.keep {pn c : Addr} {H H' : Hp} {vs : List V} {P S due : V} {n : Nat} (h : Verd pn c H vs P S due) (hp : PenAt H pn c n) (k : Keep pn c H H') : Verd pn c H' vs P S due := by
  rcases h with h | ⟨t, bad, D, rfl, ht, hn, tv, co⟩
  · exact .inl h
  · obtain ⟨ns, a, r, q1, q2, _⟩ := hp
    exact .inr ⟨t, bad, D, rfl, k _ _ ht (fun z => by rw [z, q1] at ht; cases ht) (fun z => by rw [z, q2] at ht; cases ht), hn, tv.ext (vis_keep k (by simp) (by simp)), co⟩
theorem vis_less {S S' : List Addr} {H : Hp} (h : ∀ b ∈ S', b ∈ S) : Ext (vis S H) (vis S' H) := fun a o e => by
  obtain ⟨h1, h2, h3⟩ := vis_some e
  exact vis_at (fun z => h1 (h a z)) h2 h3
theorem pen_some {H : Hp} {pn c : Addr} {n : Nat} (h : PenAt H pn c n) : ∀ b ∈ [pn, c], H b ≠ none := fun b hb => by
  obtain ⟨ns, a, r, q1, q2, _⟩ := h
  simp only [List.mem_cons, List.mem_nil_iff, or_false] at hb
  rcases hb with rfl | rfl
  · rw [q1]; simp
  · rw [q2]; simp
abbrev MidP (pn c B : Addr) (b0 b1 b2 b3 : Bool) (H : Hp) (n : Nat) (pv : Bool) : L2.St → Hp → Prop := fun σ H' => ∃ (L : Addr) (vs : List V) (P S due : V) (x2 x7 x8 : Option V), σ = [some (.ref pn), some (.ref L), x2, some P, some S, some due, some (.ref B), x7, x8] ∧ H' L = some (.lst vs) ∧ vs ≠ [] ∧ vs.length ≤ 6 ∧ L ≠ pn ∧ L ≠ c ∧ Verd pn c H' vs P S due ∧ PenAt H' pn c n ∧ H' B = some (.lst [.bl b0, .bl b1, .bl b2, .bl b3]) ∧ Keep pn c H H' ∧ (pv = true → ∃ p : Int, P = .int p ∧ 1 ≤ p ∧ p ≤ vs.length)
theorem nice_nums : ∀ D ∈ ([.int 0, .int (-1), .int 2, .int 3, .int 4, .int 5, .int 6, .int 7, .int (10 ^ 20), .none, .str "12", .dict [], .dict [(.int 0, .int 1)], .list [], .tuple [], .bool true] : List PyData), Nice D := by decide +kernel
theorem kit_noseq {K : PySem.W.Frag} {t : String} (h : t ∈ ["NoneType", "int", "str", "dict", "bool"]) : PySem.W.kitAny K (.type t) [.type "list", .type "tuple"] = some false := by
  have go : ∀ t ∈ ["NoneType", "int", "str", "dict", "bool"], kitB t "list" = some false ∧ kitB t "tuple" = some false := by decide +kernel
  obtain ⟨k1, k2⟩ := go t h
  have k1 : PySem.W.kitOne K (.type t) (.type "list") = some false := kit_ty k1
  have k2 : PySem.W.kitOne K (.type t) (.type "tuple") = some false := kit_ty k2
  exact kitAny_cons k1 (fun _ => kitAny_cons k2 (fun _ => rfl) (fun z => nomatch z)) (fun z => nomatch z)
section
variable {P : Program} {w : World} {K : PySem.W.Frag} {mg : Str → Option Value} {base : Heap} {CE CN CT CB CR : Addr} {tM tP tF : Tok}
/-- what is handed to Row(..), and what must be heard -/
def PartsAt (K : PySem.W.Frag) (H : Hp) (N P S due : V) : Prop :=
  (∃ (l : Addr) (xs : List Int) (p : Nat) (d : Int), N = .ref l ∧ H l = some (.lst (xs.map V.int)) ∧ P = .int p ∧ S = .int d ∧ 1 ≤ p ∧ p ≤ xs.length ∧ xs.length ≤ 10 ∧ due = .non) ∨
  ∃ (t : Addr) (bad : V) (D : PyData), due = .ref t ∧ H t = some (.tup [.str "number", bad]) ∧ Nice D ∧ TV (vis [] H) bad D ∧ BadRow K H N P S bad
theorem PartsAt.extN {H H1 : Hp} {N P S due : V} (h : PartsAt K H N P S due) (e : LamX.ExtN H H1) : PartsAt K H1 N P S due := by
  rcases h with ⟨l, xs, p, d, h1, h2, h3⟩ | ⟨t, bad, D, h1, h2, h3, h4, h5⟩
  · exact .inl ⟨l, xs, p, d, h1, e _ _ h2 (fun ps z => nomatch z), h3⟩
  · exact .inr ⟨t, bad, D, h1, e _ _ h2 (fun ps z => nomatch z), h3, h4.ext (vis_extN e), h5.extN e⟩
def spParts (K : PySem.W.Frag) : Sp := fun vs H Q _ => ∃ (pn c : Addr) (n : Nat), vs = [.ref pn] ∧ PenAt H pn c n ∧ n + 40 < 1048576 ∧
  ∀ (L : Addr) (N P S due : V) (H' : Hp), H' L = some (.lst [N, P, S, due]) → L ≠ pn → L ≠ c → PartsAt K H' N P S due → PenAt H' pn c (n + 40) → Keep pn c H H' → Q (.ref L) H'
abbrev s__law_parts : Stmt := top 38
abbrev N__law_parts : List Str := ["_law_pen_here", "_law_numbers", "_law_k", "_law_period", "_law_step", "_law_due", "_law_bent", "_law_at", "_law_odd_here"]
theorem sc__law_parts : FnScope N__law_parts ["_law_pen_here"] (defScope s__law_parts) := ⟨rfl, rfl, rfl, by decide +kernel, rfl, by decide +kernel, by decide +kernel⟩
theorem ok_parts {fa : Addr} {fd : FuncData} (F : Fun K "_law_parts" "_law_parts" s__law_parts fa fd) (T : Tx K mg CE CN CT CB CR tM tP tF) (c__law_draw : Cal P w K mg base CX0 1 "_law_draw" spDraw) (c__law_pick : Cal P w K mg base CX0 2 "_law_pick" (spPick K)) (c__law_odd : Cal P w K mg base CX0 3 "_law_odd" spOdd) : FnOk P w K mg base CX0 4 fa fd ["_law_pen_here"] (spParts K) := by
  refine F.ok sc__law_parts (fun vs H Q E h => ?_) (fun cdv A outer s0 H vs Q E hr h => ?_)
  · obtain ⟨pn, c, n, rfl, _⟩ := h
    rfl
  · obtain ⟨pn, c, n, rfl, hp, hn, k⟩ := h
    have h4 : sizeLine = 16777216 := sizeLine_eq
    refine ⟨_, (pss_cons (ps_setLc (i := 1) (own := [("_law_k", 2)]) rfl sc__law_parts.nd rfl rfl (sw_true rfl rfl rfl (by decide +kernel)) (pi_range1 rfl (T.bn _ (by decide +kernel)) (pa_cons (pe_op op_add pe_int (pe_cal c__law_draw (hr.mono (by decide)) (by rfl) pass0 (pa_cons (pv 0) (pa_cons pe_int pa_nil)))) pa_nil)) (blkOk_by (own := [("_law_k", 2)]) (N := N__law_parts) (sc := defScope s__law_parts) (by decide +kernel)) (fun _ _ _ _ _ => (pg_name (i := 2) sc__law_parts.nd rfl (by first | exact Or.inl rfl | exact Or.inr rfl))) (fun _ _ _ _ _ => pts_nil) (fun _ _ _ _ _ => (pe_op op_sub (pe_cal c__law_draw (hr.mono (by decide)) (by rfl) pass0 (pa_cons (pv 0) (pa_cons pe_int pa_nil))) pe_int)))
      (pss_cons (ps_par3 (i := 3) (j := 4) (l := 5) rfl sc__law_parts.nd rfl rfl rfl (by decide) (by decide) (by decide) rfl rfl rfl (pa_cons (pe_op op_add pe_int (pe_cal c__law_draw (hr.mono (by decide)) (by rfl) pass0 (pa_cons (pv 0) (pa_cons (pe_callB call_len_seq (by rfl) (T.bn _ (by decide +kernel)) (by decide +kernel) (pa_cons (pv 1) pa_nil)) pa_nil)))) (pa_cons (pe_op op_sub (pe_cal c__law_draw (hr.mono (by decide)) (by rfl) pass0 (pa_cons (pv 0) (pa_cons pe_int pa_nil))) pe_int) (pa_cons pe_non pa_nil))) (by rfl))
      (pss_cons (ps_setLc (i := 6) (own := [("_law_k", 2)]) rfl sc__law_parts.nd rfl rfl (sw_true rfl rfl rfl (by decide +kernel)) (pi_range1 rfl (T.bn _ (by decide +kernel)) (pa_cons pe_int pa_nil)) (blkOk_by (own := [("_law_k", 2)]) (N := N__law_parts) (sc := defScope s__law_parts) (by decide +kernel)) (fun _ _ _ _ _ => (pg_name (i := 2) sc__law_parts.nd rfl (by first | exact Or.inl rfl | exact Or.inr rfl))) (fun _ _ _ _ _ => pts_nil) (fun _ _ _ _ _ => (pe_cmpR op_eq (pe_cal c__law_draw (hr.mono (by decide)) (by rfl) pass0 (pa_cons (pv 0) (pa_cons pe_int pa_nil))) pe_int (nomark _))))
      (pss_cut (ps_if (pt_val (pe_ix ix_list (pv 6) pe_int (fun _ _ => rfl))) (pss_cons (ps_par (i := 7) (j := 8) rfl sc__law_parts.nd rfl rfl (by decide) rfl rfl (pa_cons (pe_cal c__law_draw (hr.mono (by decide)) (by rfl) pass0 (pa_cons (pv 0) (pa_cons (pe_callB call_len_seq (by rfl) (T.bn _ (by decide +kernel)) (by decide +kernel) (pa_cons (pv 1) pa_nil)) pa_nil))) (pa_cons (pe_cal c__law_odd (hr.mono (by decide)) (by rfl) pass0 (pa_cons (pv 0) pa_nil)) pa_nil)) (by rfl))
      (pss_cons (ps_asg (pv 8) (pg_sub (pv 1) (pv 7) set_list))
      (pss_cons (ps_set (i := 5) sc__law_parts.nd rfl (by first | exact Or.inl rfl | exact Or.inr rfl) (pe_tup (pa_cons pe_str (pa_cons (pv 8) pa_nil))))
      (pss_one (ps_if (pt_cmpR op_eq (pe_cal c__law_draw (hr.mono (by decide)) (by rfl) pass0 (pa_cons (pv 0) (pa_cons pe_int pa_nil))) pe_int (nomark _)) (pss_one (ps_set (i := 1) sc__law_parts.nd rfl (by first | exact Or.inl rfl | exact Or.inr rfl) (pe_op op_cat (pv 1) (pe_lst (pa_cons (pe_cal c__law_odd (hr.mono (by decide)) (by rfl) pass0 (pa_cons (pv 0) pa_nil)) pa_nil))))) pss_nil))))) pss_nil)
      (pss_cut (ps_if (pt_val (pe_ix ix_list (pv 6) pe_int (fun _ _ => rfl))) (pss_cons (ps_set (i := 4) sc__law_parts.nd rfl (by first | exact Or.inl rfl | exact Or.inr rfl) (pe_cal c__law_odd (hr.mono (by decide)) (by rfl) pass0 (pa_cons (pv 0) pa_nil)))
      (pss_one (ps_set (i := 5) sc__law_parts.nd rfl (by first | exact Or.inl rfl | exact Or.inr rfl) (pe_tup (pa_cons pe_str (pa_cons (pv 4) pa_nil)))))) pss_nil)
      (pss_cut (ps_if (pt_val (pe_ix ix_list (pv 6) pe_int (fun _ _ => rfl))) (pss_cons (ps_set (i := 3) sc__law_parts.nd rfl (by first | exact Or.inl rfl | exact Or.inr rfl) (pe_cal c__law_pick (hr.mono (by decide)) (by rfl) pass0 (pa_cons (pv 0) (pa_cons (pe_lst (pa_cons pe_int (pa_cons (pe_un un_neg pe_int) (pa_cons (pe_op op_add (pe_callB call_len_seq (by rfl) (T.bn _ (by decide +kernel)) (by decide +kernel) (pa_cons (pv 1) pa_nil)) pe_int) (pa_cons (pe_op op_pow pe_int pe_int) (pa_cons (pe_cal c__law_odd (hr.mono (by decide)) (by rfl) pass0 (pa_cons (pv 0) pa_nil)) pa_nil)))))) pa_nil))))
      (pss_one (ps_set (i := 5) sc__law_parts.nd rfl (by first | exact Or.inl rfl | exact Or.inr rfl) (pe_tup (pa_cons pe_str (pa_cons (pv 3) pa_nil)))))) pss_nil)
      (pss_cut (ps_if (pt_val (pe_ix ix_list (pv 6) pe_int (fun _ _ => rfl))) (pss_cons (ps_set (i := 1) sc__law_parts.nd rfl (by first | exact Or.inl rfl | exact Or.inr rfl) (pe_cal c__law_pick (hr.mono (by decide)) (by rfl) pass0 (pa_cons (pv 0) (pa_cons (pe_lst (pa_cons pe_non (pa_cons pe_int (pa_cons pe_str (pa_cons pe_dnewK (pa_cons (pe_disp (pps_cons pe_int pe_int pps_nil) (by rfl) (by rfl) (fun z => by cases z) (by decide)) (pa_cons (pe_lst pa_nil) (pa_cons (pe_tup pa_nil) (pa_cons pe_bl pa_nil))))))))) pa_nil))))
      (pss_one (ps_set (i := 5) sc__law_parts.nd rfl (by first | exact Or.inl rfl | exact Or.inr rfl) (pe_tup (pa_cons pe_str (pa_cons (pv 1) pa_nil)))))) pss_nil)
      (pss_one (ps_ret (pe_lst (pa_cons (pv 1) (pa_cons (pv 3) (pa_cons (pv 4) (pa_cons (pv 5) pa_nil)))))))))))))), ?_⟩
    refine ⟨_, rfl, pn, c, n, 5, rfl, hp, by omega, by decide, by decide, fun j H1 j0 j1 hp1 kp1 => ?_⟩
    obtain ⟨m, hm, m1, m5⟩ : ∃ m : Nat, (1 : Int) + j = m ∧ 1 ≤ m ∧ m ≤ 5 := ⟨(1 + j).toNat, by omega, by omega, by omega⟩
    refine ⟨_, _, rfl, rfl, _, rfl, by omega, by omega, fun L nL => ?_⟩
    rw [hm, Int.toNat_natCast]
    obtain ⟨npL, ncL⟩ := hp1.ne nL
    refine lc_it walk_range (fun i Hx => ∃ acc : List Int, Hx L = some (.lst (acc.map V.int)) ∧ acc.length = i ∧ PenAt Hx pn c (n + 1 + i) ∧ Keep pn c H1 Hx) ⟨[], upd_same, rfl, hp1.upd npL ncL, Keep.new nL⟩ (fun _ _ _ _ => trivial) ?_ ?_
    · rintro i x Hx H' hi ⟨acc, g1, g2, g4, g5⟩ ⟨rfl, rfl⟩
      have hi : i < m := hi
      refine ⟨rfl, _, rfl, pn, c, n + 1 + i, 7, rfl, g4, by omega, by decide, by decide, fun u H6 u0 u1 hp6 kp6 => ?_⟩
      refine ⟨_, _, rfl, rfl, _, kp6 _ _ g1 npL.symm ncL.symm, by rw [List.length_map]; show acc.length < 16777216; omega, acc ++ [u - 3], ?_, by simp [g2], hp6.upd npL ncL, fun b o e h1 h2 => ?_⟩
      · rw [upd_same, List.map_append]; rfl
      · rw [upd_ne (ne_of_none e nL)]
        exact kp6 b o (g5 b o e h1 h2) h1 h2
    rintro H2 ⟨xs, fL, hl, hp2, kp2⟩
    have kp02 : Keep pn c H H2 := kp1.trans kp2
    refine ⟨_, rfl, _, rfl, L, _, rfl, .inl (SqL.of fL), ?_⟩
    rw [List.length_map, hl]
    refine ⟨pn, c, _, m, rfl, hp2, by omega, by omega, by omega, fun p0 H3 p00 p01 hp3 kp3 => ?_⟩
    refine ⟨_, _, rfl, rfl, _, rfl, pn, c, _, 5, rfl, hp3, by omega, by decide, by decide, fun d0 H4 d00 d01 hp4 kp4 => ?_⟩
    refine ⟨_, _, rfl, rfl, _, _, _, rfl, ?_⟩
    obtain ⟨p, hpp, p1, pm⟩ : ∃ p : Nat, (1 : Int) + p0 = p ∧ 1 ≤ p ∧ p ≤ m := ⟨(1 + p0).toNat, by omega, by omega, by omega⟩
    refine ⟨_, rfl, by omega, by omega, fun B nB => ?_⟩
    obtain ⟨npB, ncB⟩ := hp4.ne nB
    refine lc_it walk_range (fun i Hx => ∃ acc : List Bool, Hx B = some (.lst (acc.map V.bl)) ∧ acc.length = i ∧ PenAt Hx pn c (n + 20 + i) ∧ Keep pn c H4 Hx) ⟨[], upd_same, rfl, (hp4.upd npB ncB).mono (by omega), Keep.new nB⟩ (fun _ _ _ _ => trivial) ?_ ?_
    · rintro i x Hx H' hi ⟨acc, g1, g2, g4, g5⟩ ⟨rfl, rfl⟩
      have hi : i < 4 := hi
      refine ⟨rfl, _, rfl, pn, c, n + 20 + i, 3, rfl, g4, by omega, by decide, by decide, fun u H6 u0 u1 hp6 kp6 => ?_⟩
      refine ⟨rfl, _, kp6 _ _ g1 npB.symm ncB.symm, by rw [List.length_map]; show acc.length < 16777216; omega, acc ++ [decide (V.int u = V.int 0)], ?_, by simp [g2], hp6.upd npB ncB, fun b o e h1 h2 => ?_⟩
      · rw [upd_same, List.map_append]; rfl
      · rw [upd_ne (ne_of_none e nB)]
        exact kp6 b o (g5 b o e h1 h2) h1 h2
    rintro H5 ⟨bs, fB, hbl, hp5, kp5⟩
    obtain ⟨b0, b1, b2, b3, rfl⟩ : ∃ b0 b1 b2 b3, bs = [b0, b1, b2, b3] := by
      match bs, hbl with
      | [b0, b1, b2, b3], _ => exact ⟨b0, b1, b2, b3, rfl⟩
    have kp25 := kp3.trans (kp4.trans kp5)
    have kp05 := kp02.trans kp25
    have nBL : B ≠ L := (ne_of_none (kp4 _ _ (kp3 _ _ fL npL.symm ncL.symm) npL.symm ncL.symm) nB).symm
    have fL := kp25 _ _ fL npL.symm ncL.symm
    have v5 : Verd pn c H5 (xs.map V.int) (.int (1 + p0)) (.int (d0 - 2)) .non := .inl ⟨xs, p, d0 - 2, rfl, congrArg V.int hpp, rfl, p1, by rw [hl]; exact pm, rfl⟩
    have nL0 : ∀ b o, H b = some o → b ≠ pn → b ≠ c → b ≠ L := fun b o e h1 h2 => ne_of_none (kp1 b o e h1 h2) nL
    refine ⟨MidP pn c B b0 b1 b2 b3 H (n + 30) true, ?_, ?_⟩
    · refine ⟨_, rfl, B, _, 3, .bl b3, rfl, rfl, SqL.of fB, rfl, _, rfl, ?_⟩
      have xne : xs.map V.int ≠ [] := fun z => by
        have := congrArg List.length z
        rw [List.length_map, hl] at this
        have : m = 0 := this
        omega
      cases b3 with
      | false => exact iteF ⟨L, _, _, _, _, _, _, _, rfl, fL, xne, by rw [List.length_map]; omega, npL.symm, ncL.symm, v5, hp5.mono (by omega), fB, kp05, fun _ => ⟨p, congrArg V.int hpp, by omega, by rw [List.length_map, hl]; omega⟩⟩
      | true =>
        refine iteT ?_
        refine ⟨_, rfl, _, rfl, L, _, rfl, .inl (SqL.of fL), ?_⟩
        rw [List.length_map, hl]
        refine ⟨pn, c, _, m, rfl, hp5, by omega, by omega, by omega, fun at_ H6 a0 a1 hp6 kp6 => ?_⟩
        refine ⟨_, rfl, pn, c, _, rfl, hp6, by omega, fun x D H7 hD tv hp7 kp7 => ⟨_, _, rfl, ?_⟩⟩
        have fL6 := kp6 _ _ fL npL.symm ncL.symm
        have fL7 := kp7 _ _ fL6 npL.symm ncL.symm
        have fB7 := kp7 _ _ (kp6 _ _ fB npB.symm ncB.symm) npB.symm ncB.symm
        obtain ⟨q, rfl, qm⟩ : ∃ q : Nat, at_ = q ∧ q < m := ⟨at_.toNat, by omega, by omega⟩
        have S3 : ∀ b ∈ [pn, c, L], H6 b ≠ none := fun b hb => by
          rcases List.mem_cons.mp hb with rfl | hb
          · exact pen_some hp6 b (by simp)
          rcases List.mem_cons.mp hb with rfl | hb
          · exact pen_some hp6 b (by simp)
          cases List.mem_singleton.mp hb
          rw [fL6]; simp
        have tv7 := tv_new S3 tv
        have co : ∀ ws : List V, Core ((xs.map V.int).set q x ++ ws) (.int (1 + p0)) (.int (d0 - 2)) x D := fun ws => by
          have ll : ((xs.map V.int).set q x ++ ws).length = m + ws.length := by rw [List.length_append, List.length_set, List.length_map, hl]
          refine .inr ⟨⟨p, congrArg V.int hpp, by omega, by rw [ll]; omega⟩, q + 1, ?_, fun i hi => ?_, odd_no D hD⟩
          · rw [List.getElem?_cons_succ, List.getElem?_append_left (by rw [List.length_set, List.length_map]; omega), List.getElem?_set_self (by rw [List.length_map]; omega)]
          · cases i with
            | zero => exact ⟨_, rfl⟩
            | succ i =>
              have : i < xs.length := by omega
              refine ⟨xs[i], ?_⟩
              rw [List.getElem?_cons_succ, List.getElem?_append_left (by rw [List.length_set, List.length_map]; omega), List.getElem?_set_ne (by omega), List.getElem?_map, List.getElem?_eq_getElem this]
              rfl
        refine ⟨_, rfl, _, rfl, _, rfl, L, _, q, q, rfl, rfl, fL7, by rw [List.length_map, hl]; unfold ixN; rw [if_pos (by omega), if_pos (by omega)]; rfl, ?_⟩
        have hp8 : PenAt (upd H7 L (.lst ((xs.map V.int).set q x))) pn c (n + 26) := (hp7.mono (by omega)).upd npL ncL
        have tv8 : TV (vis [pn, c, L] (upd H7 L (.lst ((xs.map V.int).set q x)))) x D := by rw [vis_upd (by simp)]; exact tv7
        have fL8 : (upd H7 L (.lst ((xs.map V.int).set q x))) L = some (.lst ((xs.map V.int).set q x)) := upd_same
        have fB8 : (upd H7 L (.lst ((xs.map V.int).set q x))) B = some (.lst [.bl b0, .bl b1, .bl b2, .bl true]) := by rw [upd_ne nBL]; exact fB7
        have kp08 : Keep pn c H (upd H7 L (.lst ((xs.map V.int).set q x))) := fun b o e h1 h2 => by
          rw [upd_ne (nL0 b o e h1 h2)]
          exact (kp05.trans (kp6.trans kp7)) b o e h1 h2
        generalize (upd H7 L (.lst ((xs.map V.int).set q x))) = H8 at hp8 tv8 fL8 fB8 kp08
        refine ⟨_, rfl, (by show 2 ≤ sizeLine; decide), fun t nt => ?_⟩
        have e9 : Ext H8 (upd H8 t (.tup [.str "number", x])) := Ext.upd nt
        have f9 : (upd H8 t (.tup [.str "number", x])) t = some (.tup [.str "number", x]) := upd_same
        generalize (upd H8 t (.tup [.str "number", x])) = H9 at e9 f9
        have tv9 := (tv8.ext (vis_less (S' := [pn, c]) (by simp))).ext (vis_mono e9)
        have hp9 := hp8.ext e9
        have l1 : ((xs.map V.int).set q x).length = m := by rw [List.length_set, List.length_map, hl]
        refine ⟨_, rfl, pn, c, _, 2, rfl, hp9, by omega, by decide, by decide, fun u H10 u0 u1 hp10 kp10 => ?_⟩
        have kp0A := kp08.trans ((Keep.ext e9).trans kp10)
        have fB10 := kp10 _ _ (e9 _ _ fB8) npB.symm ncB.symm
        have fL10 := kp10 _ _ (e9 _ _ fL8) npL.symm ncL.symm
        have v9 : ∀ ws : List V, Verd pn c H9 ((xs.map V.int).set q x ++ ws) (.int (1 + p0)) (.int (d0 - 2)) (.ref t) := fun ws => .inr ⟨t, x, D, rfl, f9, nice_odd hD, tv9, co ws⟩
        refine ⟨rfl, _, rfl, ?_⟩
        refine ite2 (fun _ => ?_) (fun _ => ?_)
        · refine ⟨_, rfl, _, rfl, pn, c, _, rfl, hp10, by omega, fun y D2 H11 hD2 tvy hp11 kp11 => ?_⟩
          refine ⟨(by show 1 ≤ sizeLine; decide), fun u1 nu1 => ?_⟩
          have e12 : Ext H11 (upd H11 u1 (.lst [y])) := Ext.upd nu1
          have f12 : (upd H11 u1 (.lst [y])) u1 = some (.lst [y]) := upd_same
          generalize (upd H11 u1 (.lst [y])) = H12 at e12 f12
          have fL12 := e12 _ _ (kp11 _ _ fL10 npL.symm ncL.symm)
          refine ⟨L, u1, _, _, rfl, rfl, fL12, f12, by rw [l1]; show m + 1 ≤ 16777216; omega, fun M nM => ?_⟩
          have hp12 := hp11.ext e12
          obtain ⟨npM, ncM⟩ := hp12.ne nM
          have kM : Keep pn c H9 (upd H12 M (.lst ((xs.map V.int).set q x ++ [y]))) := kp10.trans (kp11.trans ((Keep.ext e12).trans (Keep.ext (Ext.upd nM))))
          exact ⟨M, _, _, _, _, _, _, _, rfl, upd_same, by simp, by rw [List.length_append, l1]; show m + 1 ≤ 6; omega, npM.symm, ncM.symm, (v9 [y]).keep hp9 kM, (hp12.ext (Ext.upd nM)).mono (by omega), (Ext.upd nM) _ _ (e12 _ _ (kp11 _ _ fB10 npB.symm ncB.symm)), kp08.trans ((Keep.ext e9).trans kM), fun _ => ⟨p, congrArg V.int hpp, by omega, by rw [List.length_append, l1]; omega⟩⟩
        · have := v9 []
          rw [List.append_nil] at this
          exact ⟨L, _, _, _, _, _, _, _, rfl, fL10, fun z => by rw [z] at l1; simp at l1; omega, by rw [l1]; omega, npL.symm, ncL.symm, this.keep hp9 kp10, hp10.mono (by omega), fB10, kp0A, fun _ => ⟨p, congrArg V.int hpp, by omega, by rw [l1]; omega⟩⟩
    clear v5 fL kp05 hp5 fB nL0 kp02 kp1 kp2 kp3 kp4 kp5 kp25
    -- the step
    rintro σ1 G1 ⟨L, vs, P', S, due, x2, x7, x8, rfl, fL, vne, vl, npL, ncL, v1, hp1, fB, kp1, pv⟩
    refine ⟨MidP pn c B b0 b1 b2 b3 H (n + 32) true, ?_, ?_⟩
    · refine ⟨_, rfl, B, _, 2, .bl b2, rfl, rfl, SqL.of fB, rfl, _, rfl, ?_⟩
      cases b2 with
      | false => exact iteF ⟨L, vs, P', S, due, x2, x7, x8, rfl, fL, vne, vl, npL, ncL, v1, hp1.mono (by omega), fB, kp1, pv⟩
      | true =>
        refine iteT ?_
        refine ⟨_, rfl, pn, c, _, rfl, hp1, by omega, fun x D H7 hD tv hp7 kp7 => ?_⟩
        refine ⟨_, rfl, (by show 2 ≤ sizeLine; decide), fun t nt => ?_⟩
        have e8 := Ext.upd (o := .tup [.str "number", x]) nt
        have tv8 := (tv_new (pen_some hp1) tv).ext (vis_mono e8)
        exact ⟨L, vs, P', x, _, x2, x7, x8, rfl, e8 _ _ (kp7 _ _ fL npL ncL), vne, vl, npL, ncL, .inr ⟨t, x, D, rfl, upd_same, nice_odd hD, tv8, .inr ⟨pv rfl, 0, rfl, fun j hj => absurd hj (Nat.not_lt_zero j), odd_no D hD⟩⟩, (hp7.ext e8).mono (by omega), e8 _ _ (kp7 _ _ fB npB.symm ncB.symm), kp1.trans (kp7.trans (Keep.ext e8)), pv⟩
    clear v1 fL kp1 hp1 fB vne vl npL ncL pv
    -- the period
    rintro σ1 G1 ⟨L, vs, P', S, due, x2, x7, x8, rfl, fL, vne, vl, npL, ncL, v1, hp1, fB, kp1, pv⟩
    refine ⟨MidP pn c B b0 b1 b2 b3 H (n + 36) false, ?_, ?_⟩
    · refine ⟨_, rfl, B, _, 1, .bl b1, rfl, rfl, SqL.of fB, rfl, _, rfl, ?_⟩
      cases b1 with
      | false => exact iteF ⟨L, vs, P', S, due, x2, x7, x8, rfl, fL, vne, vl, npL, ncL, v1, hp1.mono (by omega), fB, kp1, fun z => nomatch z⟩
      | true =>
        refine iteT ?_
        refine ⟨_, rfl, 1, rfl, _, rfl, L, _, rfl, .inl (SqL.of fL), _, _, rfl, rfl, 10, 20, rfl, rfl, ⟨by decide, by decide, by decide⟩, ?_⟩
        refine ⟨_, rfl, pn, c, _, rfl, hp1, by omega, fun x D H7 hD tv hp7 kp7 => ⟨(by show 5 ≤ sizeLine; decide), fun O hO => ?_⟩⟩
        have eO := Ext.upd (o := .lst [.int 0, .int (-1), .int ((vs.length : Int) + 1), .int (10 ^ (20 : Int).toNat), x]) hO
        obtain ⟨npO, ncO⟩ := hp7.ne hO
        have tvx := (tv_new (pen_some hp1) tv).ext (vis_mono eO)
        refine ⟨pn, c, _, .ref O, rfl, hp7.ext eO, by omega, .inl ⟨O, _, rfl, npO.symm, ncO.symm, upd_same, (by show 0 < 5; decide), (by show 5 ≤ 1000; decide), fun y H8 hy hp8 kp8 => ?_⟩⟩
        have kp18 : Keep pn c G1 H8 := kp7.trans ((Keep.ext eO).trans kp8)
        have tvx8 := tvx.ext (vis_keep kp8 (by simp) (by simp))
        obtain ⟨D', hN', tv', no'⟩ : ∃ D' : PyData, Nice D' ∧ TV (vis [pn, c] H8) y D' ∧ ∀ i : Int, D' = .int i → ¬ (1 ≤ i ∧ i ≤ vs.length) := by
          rcases List.mem_cons.mp hy with rfl | hy
          · exact ⟨_, nice_nums (.int 0) (by simp), .int _, fun i e => by cases e; omega⟩
          rcases List.mem_cons.mp hy with rfl | hy
          · exact ⟨_, nice_nums (.int (-1)) (by simp), .int _, fun i e => by cases e; omega⟩
          rcases List.mem_cons.mp hy with rfl | hy
          · refine ⟨.int ((vs.length : Int) + 1), ?_, .int _, fun i e => by cases e; omega⟩
            have l1 : 1 ≤ vs.length := List.length_pos_iff.mpr vne
            have : vs.length = 1 ∨ vs.length = 2 ∨ vs.length = 3 ∨ vs.length = 4 ∨ vs.length = 5 ∨ vs.length = 6 := by omega
            rcases this with h | h | h | h | h | h <;> rw [h]
            · exact nice_nums (.int 2) (by simp)
            · exact nice_nums (.int 3) (by simp)
            · exact nice_nums (.int 4) (by simp)
            · exact nice_nums (.int 5) (by simp)
            · exact nice_nums (.int 6) (by simp)
            · exact nice_nums (.int 7) (by simp)
          rcases List.mem_cons.mp hy with rfl | hy
          · refine ⟨_, nice_nums (.int (10 ^ 20)) (by simp), .int _, fun i e => ?_⟩
            have e : (10 : Int) ^ 20 = i := PyData.int.inj e
            have : (6 : Int) < 10 ^ 20 := by decide
            omega
          cases List.mem_singleton.mp hy
          exact ⟨D, nice_odd hD, tvx8, fun i e => absurd e (isInt_no (odd_no D hD) i)⟩
        refine ⟨_, rfl, (by show 2 ≤ sizeLine; decide), fun t nt => ?_⟩
        have e9 := Ext.upd (o := .tup [.str "number", y]) nt
        exact ⟨L, vs, y, S, _, x2, x7, x8, rfl, e9 _ _ (kp18 _ _ fL npL ncL), vne, vl, npL, ncL, .inr ⟨t, y, D', rfl, upd_same, hN', tv'.ext (vis_mono e9), .inl ⟨rfl, no'⟩⟩, (hp8.ext e9).mono (by omega), e9 _ _ (kp18 _ _ fB npB.symm ncB.symm), kp1.trans (kp18.trans (Keep.ext e9)), fun z => nomatch z⟩
    clear v1 fL kp1 hp1 fB vne vl npL ncL pv
    -- the numbers
    rintro σ1 G1 ⟨L, vs, P', S, due, x2, x7, x8, rfl, fL, vne, vl, npL, ncL, v1, hp1, fB, kp1, pv⟩
    refine ⟨fun σ H' => ∃ (N P S due : V) (x2 x7 x8 : Option V), σ = [some (.ref pn), some N, x2, some P, some S, some due, some (.ref B), x7, x8] ∧ PartsAt K H' N P S due ∧ PenAt H' pn c (n + 40) ∧ Keep pn c H H', ?_, ?_⟩
    · refine ⟨_, rfl, B, _, 0, .bl b0, rfl, rfl, SqL.of fB, rfl, _, rfl, ?_⟩
      cases b0 with
      | false =>
        refine iteF ⟨.ref L, P', S, due, x2, x7, x8, rfl, ?_, hp1.mono (by omega), kp1⟩
        rcases v1 with ⟨xs, p, d, rfl, rfl, rfl, p1, pm, rfl⟩ | ⟨t, bad, D, rfl, ht, hN, tv, co⟩
        · exact .inl ⟨L, xs, p, d, rfl, fL, rfl, rfl, p1, pm, by rw [List.length_map] at vl; omega, rfl⟩
        · refine .inr ⟨t, bad, D, rfl, ht, hN, tv.ext (vis_less (by simp)), .inr ⟨L, vs, .type "list", rfl, fun H' e => ⟨.inl (SqL.of (e _ _ fL fun ps z => nomatch z)), .base (.lst (e _ _ fL fun ps z => nomatch z))⟩, kit_seqL, by omega, ?_⟩⟩
          rcases co with ⟨rfl, no⟩ | ⟨hp, i, h1, h2, h3⟩
          · exact .inr (.inl ⟨vne, rfl, D, tv.ext (vis_less (by simp)), no⟩)
          · exact .inr (.inr ⟨vne, hp, i, D, h1, h2, tv.ext (vis_less (by simp)), h3⟩)
      | true =>
        refine iteT ?_
        refine ⟨_, rfl, fun a1 n1 => ?_⟩
        have e1 : Ext G1 (upd G1 a1 (.dK [])) := Ext.upd n1
        have f1 : (upd G1 a1 (.dK [])) a1 = some (.dK []) := upd_same
        generalize (upd G1 a1 (.dK [])) = G2 at e1 f1
        intro a2 n2
        refine ⟨upd_same, [(.inl 0, .int 1)], rfl, (by decide), ?_⟩
        have e2 : Ext G2 (upd (upd G2 a2 (.dK [])) a2 (.dK (mergeK [] [(.inl 0, .int 1)]))) := by
          rw [upd_upd]
          exact Ext.upd n2
        have f2 : (upd (upd G2 a2 (.dK [])) a2 (.dK (mergeK [] [(.inl 0, .int 1)]))) a2 = some (.dK [(.inl 0, .int 1)]) := by
          rw [upd_same]
          rfl
        generalize (upd (upd G2 a2 (.dK [])) a2 (.dK (mergeK [] [(.inl 0, .int 1)]))) = G3 at e2 f2
        refine ⟨(by show 0 ≤ sizeLine; decide), fun a3 n3 => ?_⟩
        have e3 : Ext G3 (upd G3 a3 (.lst [])) := Ext.upd n3
        have f3 : (upd G3 a3 (.lst [])) a3 = some (.lst []) := upd_same
        generalize (upd G3 a3 (.lst [])) = G4 at e3 f3
        refine ⟨(by show 0 ≤ sizeLine; decide), fun a4 n4 => ?_⟩
        have e4 : Ext G4 (upd G4 a4 (.tup [])) := Ext.upd n4
        have f4 : (upd G4 a4 (.tup [])) a4 = some (.tup []) := upd_same
        generalize (upd G4 a4 (.tup [])) = G5 at e4 f4
        refine ⟨(by show 8 ≤ sizeLine; decide), fun O hO => ?_⟩
        have eO := Ext.upd (o := .lst [.non, .int 0, .str "12", .ref a1, .ref a2, .ref a3, .ref a4, .bl true]) hO
        have hp5 := hp1.ext (e1.trans (e2.trans (e3.trans e4)))
        obtain ⟨npO, ncO⟩ := hp5.ne hO
        obtain ⟨np1, nc1⟩ := hp1.ne n1
        obtain ⟨np2, nc2⟩ := (hp1.ext e1).ne n2
        obtain ⟨np3, nc3⟩ := (hp1.ext (e1.trans e2)).ne n3
        obtain ⟨np4, nc4⟩ := (hp1.ext (e1.trans (e2.trans e3))).ne n4
        have g1 := (e2.trans (e3.trans (e4.trans eO))) _ _ f1
        have g2 := (e3.trans (e4.trans eO)) _ _ f2
        have g3 := (e4.trans eO) _ _ f3
        have g4 := eO _ _ f4
        have e15 := e1.trans (e2.trans (e3.trans (e4.trans eO)))
        refine ⟨pn, c, _, .ref O, rfl, hp5.ext eO, by omega, .inl ⟨O, _, rfl, npO.symm, ncO.symm, upd_same, (by show 0 < 8; decide), (by show 8 ≤ 1000; decide), fun y H8 hy hp8 kp8 => ?_⟩⟩
        have g1 := kp8 _ _ g1 np1.symm nc1.symm
        have g2 := kp8 _ _ g2 np2.symm nc2.symm
        have g3 := kp8 _ _ g3 np3.symm nc3.symm
        have g4 := kp8 _ _ g4 np4.symm nc4.symm
        refine ⟨_, rfl, (by show 2 ≤ sizeLine; decide), fun t nt => ?_⟩
        have e9 := Ext.upd (o := .tup [.str "number", y]) nt
        have g1 := e9 _ _ g1
        have g2 := e9 _ _ g2
        have g3 := e9 _ _ g3
        have g4 := e9 _ _ g4
        refine ⟨y, P', S, _, x2, x7, x8, rfl, .inr ⟨t, y, ?_⟩, (hp8.ext e9).mono (by omega), kp1.trans ((Keep.ext e15).trans (kp8.trans (Keep.ext e9)))⟩
        have at_ : ∀ {b : Addr} {o : HO}, (upd H8 t (.tup [.str "number", y])) b = some o → (∀ ps, o ≠ .tbl ps) → vis [] (upd H8 t (.tup [.str "number", y])) b = some o := fun {b o} h n => vis_at (by simp) h n
        have no : ∀ {ty : String} {D : PyData}, D ∈ ([.int 0, .int (-1), .int 2, .int 3, .int 4, .int 5, .int 6, .int 7, .int (10 ^ 20), .none, .str "12", .dict [], .dict [(.int 0, .int 1)], .list [], .tuple [], .bool true] : List PyData) → TV (vis [] (upd H8 t (.tup [.str "number", y]))) y D → ty ∈ ["NoneType", "int", "str", "dict", "bool"] → (∀ H', LamX.ExtN (upd H8 t (.tup [.str "number", y])) H' → TyX K H' y (.type ty)) →
            ∃ D : PyData, V.ref t = .ref t ∧ (upd H8 t (.tup [.str "number", y])) t = some (.tup [.str "number", y]) ∧ Nice D ∧ TV (vis [] (upd H8 t (.tup [.str "number", y]))) y D ∧ BadRow K (upd H8 t (.tup [.str "number", y])) y P' S y := fun {ty D} h1 h2 h3 h4 =>
          ⟨D, rfl, upd_same, nice_nums D h1, h2, .inl ⟨rfl, _, h4, kit_noseq h3⟩⟩
        rcases List.mem_cons.mp hy with rfl | hy
        · exact no (ty := "NoneType") (D := .none) (by simp) .non (by simp) fun H' e => .base .non
        rcases List.mem_cons.mp hy with rfl | hy
        · exact no (ty := "int") (D := .int 0) (by simp) (.int _) (by simp) fun H' e => .base (.int _)
        rcases List.mem_cons.mp hy with rfl | hy
        · exact no (ty := "str") (D := .str "12") (by simp) (.str _) (by simp) fun H' e => .base (.str _)
        rcases List.mem_cons.mp hy with rfl | hy
        · exact no (ty := "dict") (D := .dict []) (by simp) (.dct (at_ g1 fun ps z => nomatch z) .nil .nil) (by simp) fun H' e => .base (.dK (e _ _ g1 fun ps z => nomatch z))
        rcases List.mem_cons.mp hy with rfl | hy
        · exact no (ty := "dict") (D := .dict [(.int 0, .int 1)]) (by simp) (.dct (at_ g2 fun ps z => nomatch z) (.cons (.int _) .nil) (.cons (.int _) .nil)) (by simp) fun H' e => .base (.dK (e _ _ g2 fun ps z => nomatch z))
        rcases List.mem_cons.mp hy with rfl | hy
        · exact ⟨.list [], rfl, upd_same, nice_nums _ (by simp), .lst (at_ g3 fun ps z => nomatch z) .nil, .inr ⟨a3, [], .type "list", rfl, fun H' e => ⟨.inl (SqL.of (e _ _ g3 fun ps z => nomatch z)), .base (.lst (e _ _ g3 fun ps z => nomatch z))⟩, kit_seqL, by simp, .inl ⟨rfl, rfl⟩⟩⟩
        rcases List.mem_cons.mp hy with rfl | hy
        · exact ⟨.tuple [], rfl, upd_same, nice_nums _ (by simp), .tup (at_ g4 fun ps z => nomatch z) .nil, .inr ⟨a4, [], .type "tuple", rfl, fun H' e => ⟨.inr (SqT.of (e _ _ g4 fun ps z => nomatch z)), .base (.tup (e _ _ g4 fun ps z => nomatch z))⟩, kit_seqT, by simp, .inl ⟨rfl, rfl⟩⟩⟩
        cases List.mem_singleton.mp hy
        exact no (ty := "bool") (D := .bool true) (by simp) (.bl _) (by simp) fun H' e => .base (.bl _)
    · rintro σ2 G2 ⟨N, P', S, due, x2, x7, x8, rfl, pa, hp2, kp2⟩
      refine ⟨_, rfl, _, rfl, _, rfl, _, rfl, (by show 4 ≤ sizeLine; decide), fun R nR => ?_⟩
      obtain ⟨npR, ncR⟩ := hp2.ne nR
      exact k R N P' S due _ upd_same npR.symm ncR.symm (pa.extN (.of (Ext.upd nR))) (hp2.ext (Ext.upd nR)) (kp2.trans (Keep.ext (Ext.upd nR)))
end
end K10
end
section
set_option Elab.async false
set_option autoImplicit false
set_option linter.all false
set_option maxRecDepth 100000
set_option maxHeartbeats 1000000
set_option pp.maxSteps 1500
namespace K10
open PySem PySem.Spec PyProof.Rows L2 Ls RowM
open C8 (pss_cut tCut)
open TL
/-! ### wide rows -/
def wx (h m : Nat) : List Int := (List.range h).map (fun k : Nat => 5 + 7 * (k : Int)) ++ (List.range m).map (fun k : Nat => if k = 0 then 1 else 0)
theorem wx_len (h m : Nat) : (wx h m).length = h + m := by unfold wx; simp
theorem wx_at {h m n : Nat} (hn : n < h + m) : (wx h m).getD n 0 = if n < h then 5 + 7 * (n : Int) else if n = h then 1 else 0 := by
  unfold wx
  rw [List.getD_eq_getElem?_getD]
  by_cases c1 : n < h
  · rw [List.getElem?_append_left (by simp [c1]), List.getElem?_map, List.getElem?_range c1, if_pos c1]
    rfl
  · rw [List.getElem?_append_right (by simp; omega), List.getElem?_map, List.length_map, List.length_range, List.getElem?_range (by omega), if_neg c1]
    by_cases c2 : n = h
    · rw [if_pos c2, c2, Nat.sub_self]
      rfl
    · rw [if_neg c2]
      show (if n - h = 0 then (1 : Int) else 0) = 0
      rw [if_neg (by omega)]
theorem wx_can {h m : Nat} {d : Int} (hm : 1 ≤ m) (hd : 1 ≤ d) : Can (ext (wx h m) m d) h m d := by
  have hl := wx_len h m
  have e : EQ (ext (wx h m) m d) h m d := by
    have := ext_eq (xs := wx h m) (p := m) (d := d) hm (by omega)
    rw [hl, Nat.add_sub_cancel] at this
    exact this
  obtain ⟨s, p, d', c⟩ := e.can
  obtain ⟨d1, d2⟩ := c.dvd e
  have hs := c.low _ _ _ e
  have p1 := c.eq.pos
  have ple := Nat.le_of_dvd hm d1
  have pm : p = m := by
    refine Nat.le_antisymm ple (Nat.le_of_not_lt fun hlt => ?_)
    have x := c.eq.per h hs
    rw [ext_at (by omega), ext_at (by omega), wx_at (by omega), wx_at (by omega), if_neg (by omega), if_neg (by omega), if_neg (by omega), if_pos rfl] at x
    have e1 : d' = -1 := by omega
    rw [e1] at d2
    have := Int.natCast_nonneg (m / p)
    omega
  subst pm
  have dd : d' = d := by
    rw [Nat.div_self hm] at d2
    omega
  subst dd
  have : s = h := by
    refine Nat.le_antisymm hs (Nat.le_of_not_lt fun hlt => ?_)
    have x := c.eq.per (h - 1) (by omega)
    rw [ext_at (by omega), ext_at (by omega), wx_at (by omega), wx_at (by omega), if_neg (by omega), if_pos (show h - 1 < h by omega)] at x
    split at x <;> omega
  subst this
  exact c
def tx3 (L : Nat) : List Int := (List.range L).map fun k : Nat => 3 * (k : Int)
theorem tx3_len (L : Nat) : (tx3 L).length = L := by unfold tx3; simp
theorem tx3_at {L n : Nat} (h : n < L) : (tx3 L).getD n 0 = 3 * (n : Int) := by
  unfold tx3
  rw [List.getD_eq_getElem?_getD, List.getElem?_map, List.getElem?_range h]
  rfl
theorem tx3_lin {L p : Nat} (h1 : 1 ≤ p) (hp : p ≤ L) : ext (tx3 L) p (3 * (p : Int)) = lin 0 3 := by
  funext n
  unfold ext lin
  rw [tx3_len]
  by_cases hn : n < L
  · rw [if_pos hn, tx3_at hn]
    omega
  · rw [if_neg hn]
    have hm := Nat.mod_lt (n - L) h1
    have hd := Nat.mod_add_div (n - L) p
    rw [tx3_at (by omega)]
    generalize (n - L) / p = q at hd ⊢
    generalize (n - L) % p = r at hd hm ⊢
    have e : ((q + 1 : Nat) : Int) * (3 * (p : Int)) = 3 * ((p * q : Nat) : Int) + 3 * p := by
      rw [Int.natCast_add, Int.natCast_mul, Int.add_mul, Int.mul_left_comm, Int.mul_comm (q : Int)]
      omega
    rw [e]
    generalize p * q = z at hd ⊢
    omega
end K10
end
section
set_option Elab.async false
set_option autoImplicit false
set_option linter.all false
set_option maxRecDepth 100000
set_option maxHeartbeats 1000000
set_option pp.maxSteps 1500
namespace K10
open PySem PySem.Spec PyProof.Rows L2 Ls RowM
open C8 (pss_cut tCut)
open TL
section
variable {P : Program} {w : World} {K : PySem.W.Frag} {mg : Str → Option Value} {base : Heap} {CE CN CT CB CR : Addr} {tM tP tF : Tok}
def spWide : Sp := fun vs H Q _ => ∃ (m h : Nat), vs = [.int m, .int h] ∧ m ≤ 5000 ∧ h ≤ 5000 ∧ ∀ (L : Addr) (H' : Hp), Ext H H' → H' L = some (.lst ((wx h m).map V.int)) → Q (.ref L) H'
abbrev s__law_wide : Stmt := top 39
abbrev N__law_wide : List Str := ["_law_many", "_law_head", "_law_k"]
theorem sc__law_wide : FnScope N__law_wide ["_law_many", "_law_head"] (defScope s__law_wide) := ⟨rfl, rfl, rfl, by decide +kernel, rfl, by decide +kernel, by decide +kernel⟩
theorem ok_wide {fa : Addr} {fd : FuncData} (F : Fun K "_law_wide" "_law_wide" s__law_wide fa fd) (T : Tx K mg CE CN CT CB CR tM tP tF) : FnOk P w K mg base CX0 1 fa fd ["_law_many", "_law_head"] spWide := by
  refine F.ok sc__law_wide (fun vs H Q E h => ?_) (fun cdv A outer s0 H vs Q E hr h => ?_)
  · obtain ⟨m, h, rfl, _⟩ := h
    rfl
  · obtain ⟨m, h, rfl, hm, hh, k⟩ := h
    refine ⟨_, (pss_one (ps_ret (pe_op op_cat (pe_lc (own := [("_law_k", 2)]) rfl sc__law_wide.nd (pi_range1 rfl (T.bn _ (by decide +kernel)) (pa_cons (pv 1) pa_nil)) (blkOk_by (own := [("_law_k", 2)]) (N := N__law_wide) (sc := defScope s__law_wide) (by decide +kernel)) (fun _ _ _ _ _ => (pg_name (i := 2) sc__law_wide.nd rfl (by first | exact Or.inl rfl | exact Or.inr rfl))) (fun _ _ _ _ _ => pts_nil) (fun _ _ _ _ _ => (pe_op op_add pe_int (pe_op op_mul pe_int (pv 2))))) (pe_lc (own := [("_law_k", 2)]) rfl sc__law_wide.nd (pi_range1 rfl (T.bn _ (by decide +kernel)) (pa_cons (pv 0) pa_nil)) (blkOk_by (own := [("_law_k", 2)]) (N := N__law_wide) (sc := defScope s__law_wide) (by decide +kernel)) (fun _ _ _ _ _ => (pg_name (i := 2) sc__law_wide.nd rfl (by first | exact Or.inl rfl | exact Or.inr rfl))) (fun _ _ _ _ _ => pts_nil) (fun _ _ _ _ _ => (pe_callTy call_int1 (by rfl) (T.bn _ (by decide +kernel)) (by decide +kernel) (pa_cons (pe_cmpR op_eq (pv 2) pe_int (nomark _)) pa_nil))))))), ?_⟩
    refine ⟨_, rfl, _, rfl, by omega, by omega, fun A1 nA => ?_⟩
    refine lc_it walk_range (fun i Hx => Hx = upd H A1 (.lst (((List.range i).map fun k : Nat => 5 + 7 * (k : Int)).map V.int))) rfl (fun _ _ _ _ => trivial) ?_ ?_
    · rintro i x Hx H' hi rfl ⟨rfl, rfl⟩
      have hi : i < h := hi
      refine ⟨rfl, _, rfl, _, _, rfl, rfl, .inl ⟨by decide, by decide⟩, _, _, rfl, rfl, _, upd_same, by rw [List.length_map, List.length_map, List.length_range]; show i < 16777216; omega, ?_⟩
      show upd (upd H A1 _) A1 _ = _
      rw [upd_upd, List.range_succ, List.map_append, List.map_append, Int.zero_add]
      rfl
    rintro Hx rfl
    rw [Int.toNat_natCast]
    have e1 : Ext H (upd H A1 (.lst (((List.range h).map fun k : Nat => 5 + 7 * (k : Int)).map V.int))) := Ext.upd nA
    have f1 : (upd H A1 (.lst (((List.range h).map fun k : Nat => 5 + 7 * (k : Int)).map V.int))) A1 = some (.lst (((List.range h).map fun k : Nat => 5 + 7 * (k : Int)).map V.int)) := upd_same
    generalize (upd H A1 (.lst (((List.range h).map fun k : Nat => 5 + 7 * (k : Int)).map V.int))) = H1 at e1 f1
    refine ⟨_, rfl, _, rfl, by omega, by omega, fun B1 nB => ?_⟩
    refine lc_it walk_range (fun i Hx => Hx = upd H1 B1 (.lst (((List.range i).map fun k : Nat => if k = 0 then (1 : Int) else 0).map V.int))) rfl (fun _ _ _ _ => trivial) ?_ ?_
    · rintro i x Hx H' hi rfl ⟨rfl, rfl⟩
      have hi : i < m := hi
      refine ⟨rfl, _, rfl, rfl, .inr ⟨_, rfl, _, upd_same, by rw [List.length_map, List.length_map, List.length_range]; show i < 16777216; omega, ?_⟩⟩
      show upd (upd H1 B1 _) B1 _ = _
      rw [upd_upd, List.range_succ, List.map_append, List.map_append]
      have this : (if decide (V.int (0 + (i : Int)) = V.int 0) = true then (1 : Int) else 0) = if i = 0 then 1 else 0 := by
        by_cases z : i = 0
        · rw [if_pos z, decide_eq_true (by rw [z]; rfl), if_pos rfl]
        · rw [if_neg z, decide_eq_false fun q => z (by have := V.int.inj q; omega), if_neg Bool.false_ne_true]
      exact congrArg (fun z : Int => upd H1 B1 (.lst (((List.range i).map fun k : Nat => if k = 0 then (1 : Int) else 0).map V.int ++ [V.int z]))) this
    rintro Hx rfl
    rw [Int.toNat_natCast]
    have e2 : Ext H1 (upd H1 B1 (.lst (((List.range m).map fun k : Nat => if k = 0 then (1 : Int) else 0).map V.int))) := Ext.upd nB
    refine ⟨A1, B1, _, _, rfl, rfl, e2 _ _ f1, upd_same, by rw [List.length_map, List.length_map, List.length_map, List.length_map, List.length_range, List.length_range]; show h + m ≤ 16777216; omega, fun M nM => ?_⟩
    refine k M _ (e1.trans (e2.trans (Ext.upd nM))) ?_
    rw [upd_same, ← List.map_append]
    rfl
end
end K10
end
section
set_option Elab.async false
set_option autoImplicit false
set_option linter.all false
set_option maxRecDepth 100000
set_option maxHeartbeats 1000000
set_option pp.maxSteps 1500
namespace K10
open PySem PySem.Spec PyProof.Rows L2 Ls RowM
open C8 (pss_cut tCut)
open TL
section
variable {P : Program} {w : World} {K : PySem.W.Frag} {mg : Str → Option Value} {base : Heap} {CE CN CT CB CR : Addr} {tM tP tF : Tok}
/-! ### 2,000 numbers and one more -/
def Most (K : PySem.W.Frag) (C : Addr) : Prop := ∃ mc u, ClX.CRead K C mc ∧ ClX.CVal K C mc "MOST" (.int 2000) u
def spBounds (TT : List (Addr × Str)) : Sp := fun vs H Q _ => ∃ (pn c : Addr) (n : Nat), vs = [.ref pn] ∧ PenAt H pn c n ∧ n + 10 < 1048576 ∧ LamX.Tabs TT H ∧ ∀ H', Q (.bl true) H'
abbrev s__law_bounds_right : Stmt := top 40
abbrev N__law_bounds_right : List Str := ["_law_pen_here", "_law_head", "_law_fine", "_law_wide_here", "_law_heard_here", "_law_k", "_law_long", "_law_period", "_law_made"]
theorem sc__law_bounds_right : FnScope N__law_bounds_right ["_law_pen_here"] (defScope s__law_bounds_right) := ⟨rfl, rfl, rfl, by decide +kernel, rfl, by decide +kernel, by decide +kernel⟩
theorem ok_bounds {fa fE fT fG g c2 P2 CP : Addr} {fd fdh : FuncData} {TT : List (Addr × Str)} (F : Fun K "_law_bounds_right" "_law_bounds_right" s__law_bounds_right fa fd) (T : Tx K mg CE CN CT CB CR tM tP tF) (hC : ClR K CR) (C : RowK K CR fE) (hM : Most K CR)
    (F__law_heard : Fun K "_law_heard" "_law_heard" s__law_heard g fdh) (m__law_heard : mg "_law_heard" = some (.ref g)) (b__law_heard : L2.Binds K fdh ["_law_ask"] [])
    (eN : ErrF K CE CN "value") (eT : ErrF K CE CT "most") (kNV : PySem.W.kitOne K (.ref CN) (.type "ValueError") = some true) (kTN : PySem.W.kitOne K (.ref CT) (.ref CN) = some false) (m_BadPrice : mg "BadPrice" = some (.ref CP))
    (hfc : fd.code = .ref c2) (TB : LamX.TabB base mg c2 P2) (hmT : (P2, ("_law_bounds_right.<locals>.<lambda>" : Str)) ∈ TT) (huT : ∀ p ∈ TT, p.1 = P2 → p.2 = ("_law_bounds_right.<locals>.<lambda>" : Str))
    (rE : FnR P w K mg base CX0 2 fE (spEq CR)) (hfe : PySem.W.isFn K (.ref fE) = true) (aT : PySem.W.findIn K (.ref CR) "__str__" = some (some (.ref fT))) (hfs : PySem.W.isFn K (.ref fT) = true) (rStr : FnR P w K mg base CX0 3 fT (spStr CR))
    (rGet : FnR P w K mg base (L2.CX P w) 4 fG (spGet CN CR)) (hGet : OwnGet K CR fG)
    (c_Row : Mkc P w K mg base (L2.CX P w) 4 CR "Row" (spRowX CN CT CR K)) (c_Row_even : Stm P w K mg base (L2.CX P w) 6 CR "even" (spEvenX CN CR)) (o_above_kw : OwnMK P w K mg base CX0 5 CR "above" "other" (spAboveL CR)) (o_every_kw : OwnMK P w K mg base (L2.CX P w) 6 CR "every" "j" (spEvery CN CT CR))
    (c_start : Prp P w K mg base CX0 1 (· = CR) "start" (spStart CR)) (c_period : Prp P w K mg base CX0 1 (· = CR) "period" (spPeriod CR)) (c_first : Prp P w K mg base CX0 1 (· = CR) "first" (spFirst CR))
    (c__law_draw : Cal P w K mg base CX0 1 "_law_draw" spDraw) (c__law_pick : Cal P w K mg base CX0 2 "_law_pick" (spPick K)) (c__law_wide : Cal P w K mg base CX0 1 "_law_wide" spWide) :
    FnOk P w K mg base CX0 13 fa fd ["_law_pen_here"] (spBounds TT) := by
  refine okC F sc__law_bounds_right (fun vs H Q E h => ?_) (fun A outer s0 H vs Q E hr h => ?_)
  · obtain ⟨pn, c, n, rfl, _⟩ := h
    rfl
  · obtain ⟨pn, c, n, rfl, hp, hn, hT, k⟩ := h
    rw [hfc] at hr ⊢
    have h4 : sizeLine = 16777216 := sizeLine_eq
    refine ⟨_, (pss_cons (ps_set (i := 1) sc__law_bounds_right.nd rfl (by first | exact Or.inl rfl | exact Or.inr rfl) (pe_cal c__law_pick (hr.mono (by decide)) (by rfl) pass0 (pa_cons (pv 0) (pa_cons (pe_lst (pa_cons pe_int (pa_cons pe_int (pa_cons pe_int (pa_cons pe_int (pa_cons pe_int pa_nil)))))) pa_nil))))
      (pss_cons (ps_set (i := 2) sc__law_bounds_right.nd rfl (by first | exact Or.inl rfl | exact Or.inr rfl) (pe_mkc c_Row (hr.mono (by decide)) (by rfl) passN (pa_cons (pe_cal c__law_wide (hr.mono (by decide)) (by rfl) pass0 (pa_cons (pe_op op_sub pe_int (pv 1)) (pa_cons (pv 1) pa_nil))) (pa_cons (pe_op op_sub pe_int (pv 1)) (pa_cons (pe_op op_add pe_int (pe_callTy call_int1 (by rfl) (T.bn _ (by decide +kernel)) (by decide +kernel) (pa_cons (pe_cmpR op_eq (pv 1) pe_int (nomark _)) pa_nil))) pa_nil)))))
      (pss_cons (ps_if ((pw_or (pt_cmpR op_ne ((pe_prp c_start (hr.mono (by decide)) pass0) (pv 2)) (pv 1) (nomark _)) (pw_or (pt_cmpR op_ne ((pe_prp c_period (hr.mono (by decide)) pass0) (pv 2)) (pe_op op_sub pe_int (pv 1)) (nomark _)) (pw_or1 (pt_cmpR op_ne (pe_callB call_len_seq (by rfl) (T.bn _ (by decide +kernel)) (by decide +kernel) (pa_cons ((pe_prp c_first (hr.mono (by decide)) pass0) (pv 2)) pa_nil)) pe_int (nomark _)))))).pt (pss_one (ps_ret pe_bl)) pss_nil)
      (pss_cons (ps_set (i := 3) sc__law_bounds_right.nd rfl (by first | exact Or.inl rfl | exact Or.inr rfl) (pe_lst (pa_cons (pe_cal c__law_wide (hr.mono (by decide)) (by rfl) pass0 (pa_cons (pe_op op_sub pe_int (pv 1)) (pa_cons (pv 1) pa_nil))) (pa_cons (pe_cal c__law_wide (hr.mono (by decide)) (by rfl) pass0 (pa_cons (pe_op op_sub pe_int (pv 1)) (pa_cons (pe_op op_add (pv 1) pe_int) pa_nil))) pa_nil))))
      (pss_cons (ps_set (i := 4) sc__law_bounds_right.nd rfl (by first | exact Or.inl rfl | exact Or.inr rfl) (pe_lst (pa_cons (pe_lamS (T := TT) (k := 9) F__law_heard (by rfl) m__law_heard b__law_heard sc__law_heard rfl (.inl rfl) (fun cdv => heard_gives T eN eT kNV kTN m_BadPrice (hr.mono (by decide))) TB rfl hmT huT (hr.mono (by decide)) (LamX.lamS_by (sc := defScope s__law_bounds_right) (by decide +kernel)) rfl (fun _ _ _ _ _ => rfl) (fun A outer s H E f c2 hr => (pe_mkc c_Row (hr.mono (by decide)) (by rfl) passLm (pa_cons (pe_ix (show IxR _ (rIxL K) from ix_list) (pv 3) pe_int (fun _ _ => rfl)) (pa_cons (pe_op op_sub pe_int (pv 1)) (pa_cons pe_int pa_nil)))))) pa_nil)))
      (pss_cons (ps_expr (pe_bm PySem.F.plainAttrs_list PySem.F.slot_list_append PySem.F.type_list_append mt_append (pv 4) (pa_cons (pe_lamS (T := TT) (k := 9) F__law_heard (by rfl) m__law_heard b__law_heard sc__law_heard rfl (.inl rfl) (fun cdv => heard_gives T eN eT kNV kTN m_BadPrice (hr.mono (by decide))) TB rfl hmT huT (hr.mono (by decide)) (LamX.lamS_by (sc := defScope s__law_bounds_right) (by decide +kernel)) rfl (fun _ _ _ _ _ => rfl) (fun A outer s H E f c2 hr => (pe_mkc c_Row (hr.mono (by decide)) (by rfl) passLm (pa_cons (pe_ix (show IxR _ (rIxL K) from ix_list) (pv 3) pe_int (fun _ _ => rfl)) (pa_cons (pe_op op_sub pe_int (pv 1)) (pa_cons pe_int pa_nil)))))) pa_nil)))
      (pss_cons (ps_if (pt_cmpR (op_neD hr.units) (pv 4) (pe_lst (pa_cons (pe_tup (pa_cons pe_str (pa_cons pe_int pa_nil))) (pa_cons (pe_tup (pa_cons pe_str (pa_cons pe_int pa_nil))) pa_nil))) (nomark _)) (pss_one (ps_ret pe_bl)) pss_nil)
      (pss_cons (ps_if (pt_cmpR (op_neO rE hfe (hr.mono (by decide)) pass0) (pe_mkc c_Row (hr.mono (by decide)) (by rfl) passN (pa_cons (pe_lc (own := [("_law_k", 5)]) rfl sc__law_bounds_right.nd (pi_range1 rfl (T.bn _ (by decide +kernel)) (pa_cons pe_int pa_nil)) (blkOk_by (own := [("_law_k", 5)]) (N := N__law_bounds_right) (sc := defScope s__law_bounds_right) (by decide +kernel)) (fun _ _ _ _ _ => (pg_name (i := 5) sc__law_bounds_right.nd rfl (by first | exact Or.inl rfl | exact Or.inr rfl))) (fun _ _ _ _ _ => pts_nil) (fun _ _ _ _ _ => (pe_op op_mul pe_int (pv 5)))) (pa_cons pe_int (pa_cons pe_int pa_nil)))) (pe_stm c_Row_even (hr.mono (by decide)) (pe_gref (by rfl) T.m_Row) passN (pa_cons pe_int (pa_cons pe_int pa_nil))) (nomark _)) (pss_one (ps_ret pe_bl)) pss_nil)
      (pss_cons (ps_setLc (i := 6) (own := [("_law_k", 5)]) rfl sc__law_bounds_right.nd rfl rfl (sw_true rfl rfl rfl (by decide +kernel)) (pi_range1 rfl (T.bn _ (by decide +kernel)) (pa_cons (pe_op op_add pe_int (pe_cal c__law_draw (hr.mono (by decide)) (by rfl) pass0 (pa_cons (pv 0) (pa_cons pe_int pa_nil)))) pa_nil)) (blkOk_by (own := [("_law_k", 5)]) (N := N__law_bounds_right) (sc := defScope s__law_bounds_right) (by decide +kernel)) (fun _ _ _ _ _ => (pg_name (i := 5) sc__law_bounds_right.nd rfl (by first | exact Or.inl rfl | exact Or.inr rfl))) (fun _ _ _ _ _ => pts_nil) (fun _ _ _ _ _ => (pe_op op_mul pe_int (pv 5))))
      (pss_cons (ps_set (i := 7) sc__law_bounds_right.nd rfl (by first | exact Or.inl rfl | exact Or.inr rfl) (pe_cal c__law_pick (hr.mono (by decide)) (by rfl) pass0 (pa_cons (pv 0) (pa_cons (pe_lst (pa_cons pe_int (pa_cons pe_int (pa_cons pe_int pa_nil)))) pa_nil))))
      (pss_cons (ps_set (i := 8) sc__law_bounds_right.nd rfl (by first | exact Or.inl rfl | exact Or.inr rfl) (pe_mkc c_Row (hr.mono (by decide)) (by rfl) passN (pa_cons (pv 6) (pa_cons (pv 7) (pa_cons (pe_op op_mul pe_int (pv 7)) pa_nil)))))
      (pss_cons (ps_if ((pw_or (pt_cmpR op_ne (pe_omk o_above_kw (hr.mono (by decide)) (pe_stm c_Row_even (hr.mono (by decide)) (pe_gref (by rfl) T.m_Row) passN (pa_cons pe_int (pa_cons pe_int pa_nil))) pass0 (pk_cons (pe_stm c_Row_even (hr.mono (by decide)) (pe_gref (by rfl) T.m_Row) passN (pa_cons pe_int (pa_cons pe_int pa_nil))) pk_nil)) pe_int (nomark _)) (pw_or1 (pt_cmpR op_ne (pe_callTy (call_strOwn hfs rStr (hr.mono (by decide)) pass0) (by rfl) (T.bn _ (by decide +kernel)) (by decide +kernel) (pa_cons (pe_omk o_every_kw (hr.mono (by decide)) (pe_mkc c_Row (hr.mono (by decide)) (by rfl) passN (pa_cons (pe_lst (pa_cons pe_int (pa_cons pe_int (pa_cons pe_int pa_nil)))) (pa_cons pe_int (pa_cons pe_int pa_nil)))) passN (pk_cons pe_int pk_nil)) pa_nil)) pe_str (nomark _))))).pt (pss_one (ps_ret pe_bl)) pss_nil)
      (pss_one (ps_ret (pe_and (pe_cmpR op_eq (ClX.pe_cval (pe_gref (by rfl) T.m_Row)) pe_int (nomark _)) (pe_one (pe_cmpR op_eq (pe_ixO rGet hGet (hr.mono (by decide)) passN (pv 8) pe_int (fun _ _ => rfl)) pe_int (nomark _)))))))))))))))))), ?_⟩
    refine ⟨_, rfl, (by show 5 ≤ sizeLine; decide), fun O hO => ?_⟩
    have eO := Ext.upd (o := .lst [V.int 0, V.int 1, V.int 2, V.int 999, V.int 1999]) hO
    obtain ⟨npO, ncO⟩ := hp.ne hO
    have TO := hT.ext eO
    refine ⟨pn, c, n, .ref O, rfl, hp.ext eO, by omega, .inl ⟨O, _, rfl, npO.symm, ncO.symm, upd_same, (by decide), (by decide), fun x H1 hpk hp1 kp1 => ?_⟩⟩
    have T1 := (hp.ext eO).tabs TO kp1
    obtain ⟨h, m, hm, h2, rfl⟩ : ∃ h m : Nat, 1 ≤ m ∧ h + m = 2000 ∧ x = .int h := by
      rcases List.mem_cons.mp hpk with rfl | hpk
      · exact ⟨0, 2000, by omega, by omega, rfl⟩
      rcases List.mem_cons.mp hpk with rfl | hpk
      · exact ⟨1, 1999, by omega, by omega, rfl⟩
      rcases List.mem_cons.mp hpk with rfl | hpk
      · exact ⟨2, 1998, by omega, by omega, rfl⟩
      rcases List.mem_cons.mp hpk with rfl | hpk
      · exact ⟨999, 1001, by omega, by omega, rfl⟩
      cases List.mem_singleton.mp hpk
      exact ⟨1999, 1, by omega, by omega, rfl⟩
    have em : (2000 : Int) - (h : Int) = (m : Int) := by omega
    refine ⟨_, rfl, _, _, rfl, rfl, _, rfl, m, h, congrArg (fun i : Int => [V.int i, V.int h]) em, by omega, by omega, fun L1 H2 e2 f2 => ?_⟩
    refine ⟨_, rfl, _, _, rfl, rfl, _, rfl, rfl, .inr ⟨_, rfl, _, _, rfl, rfl, ?_⟩⟩
    dsimp only
    rw [em]
    obtain ⟨d, hd, d1⟩ : ∃ d : Int, (1 : Int) + (if decide (V.int (h : Int) = V.int 1999) = true then 1 else 0) = d ∧ 1 ≤ d := ⟨_, rfl, by split <;> omega⟩
    rw [hd]
    rw [fl_ints (wx h m) m d] at f2
    refine mk_good (.inl f2) (ext_eq hm (by rw [wx_len]; omega)) (by rw [wx_len]; omega) (by rw [wx_len]; omega) fun s q e' cc => ?_
    obtain ⟨rfl, rfl, rfl⟩ := (wx_can hm d1).uniq cc
    refine ⟨fun _ a H3 e3 r3 => ⟨rfl, ?_⟩, fun hm' => absurd hm' (by omega)⟩
    have T3 := (T1.ext e2).ext e3
    have hp3 := (hp1.ext e2).ext e3
    clear e2 f2 T1 hp1
    refine ⟨_, rfl, st_ok r3 ⟨_, rfl, rfl, _, rfl, iteNo (by rw [decide_eq_true rfl]; rfl) ?_⟩⟩
    refine ⟨_, rfl, pr_ok r3 ⟨_, rfl, _, _, rfl, rfl, rfl, _, rfl, iteNo (by rw [decide_eq_true (congrArg V.int em.symm)]; rfl) ?_⟩⟩
    obtain ⟨dx, tt, q1, q2⟩ := id r3.ex
    refine ⟨_, rfl, a, CR, dx, _, rfl, q1, rfl, a, _, _, _, _, rfl, r3, fun t ht => ⟨t, _, rfl, .inr (SqT.of ht), rfl, _, rfl, iteNo (by rw [fl_len, decide_eq_true (congrArg V.int (show ((_ : Nat) : Int) = 2000 by omega))]; rfl) ?_⟩⟩
    clear ht t q1 q2
    -- two that are too wide
    refine ⟨_, rfl, _, _, rfl, rfl, _, rfl, m + 1, h, congrArg (fun i : Int => [V.int i, V.int h]) (show (2001 : Int) - h = ((m + 1 : Nat) : Int) by omega), by omega, by omega, fun L1 H4 e4 f4 => ?_⟩
    refine ⟨_, rfl, _, _, rfl, rfl, _, rfl, _, _, rfl, rfl, m, h + 1, congrArg (fun i : Int => [V.int i, V.int ((h : Int) + 1)]) em, by omega, by omega, fun L2 H5 e5 f5 => ?_⟩
    refine ⟨(by show 2 ≤ sizeLine; decide), fun W nW => ?_⟩
    have eW : Ext H5 (upd H5 W (.lst [.ref L1, .ref L2])) := Ext.upd nW
    have fW : (upd H5 W (.lst [.ref L1, .ref L2])) W = some (.lst [.ref L1, .ref L2]) := upd_same
    generalize (upd H5 W (.lst [.ref L1, .ref L2])) = H6 at eW fW
    have f4 := (e5.trans eW) _ _ f4
    have f5 := eW _ _ f5
    have T6 := T3.ext (e4.trans (e5.trans eW))
    have hp6 := hp3.ext (e4.trans (e5.trans eW))
    have wide : ∀ {H' : Hp} {l : Addr} {hh mm : Nat} {dd : Int} {Qf : Addr → VK} {E' : XK}, H' l = some (.lst ((wx hh mm).map V.int)) → 1 ≤ mm → 1 ≤ dd → hh + mm = 2001 → Errs CT "most" (.int 2000) H' E' →
        ∀ x dx, H' x = none → H' dx = none → dx ≠ x → spRowX CN CT CR K [.ref x, .ref l, .int mm, .int dd] (upd (upd H' dx (.own x)) x (.ins CR dx [])) (Qf x) E' := fun {H' l hh mm dd Qf E'} hl h1 h2 h3 hE => by
      rw [fl_ints (wx hh mm) mm dd] at hl
      refine mk_good (Qf := Qf) (.inl hl) (ext_eq h1 (by rw [wx_len]; omega)) (by rw [wx_len]; omega) (by rw [wx_len]; omega) fun s q e' cc => ?_
      obtain ⟨rfl, rfl, rfl⟩ := (wx_can h1 h2).uniq cc
      exact ⟨fun hle => absurd hle (by omega), fun _ => hE⟩
    refine ⟨T6, fun HJ eJ TJ => fun E' Q' HK eK hE hV => ?_⟩
    refine ⟨_, rfl, W, _, 0, .ref L1, rfl, rfl, SqL.of (eK _ _ (eJ _ _ fW fun ps z => nomatch z)), rfl, _, rfl, _, _, rfl, rfl, ?_⟩
    dsimp only
    rw [show (2001 : Int) - (h : Int) = ((m + 1 : Nat) : Int) by omega]
    refine wide (hh := h) (mm := m + 1) (dd := 1) (eK _ _ (eJ _ _ f4 fun ps z => nomatch z)) (by omega) (by decide) (by omega) fun dd H7 e7 n7 => ?_
    refine hE _ _ _ (.inr ⟨dd, rfl, rfl, nw_ext _ _ n7, fun t H8 e8 n8 => ?_⟩)
    have f8 := nw_ext _ _ n8
    have e68 := eK.trans (e7.trans e8)
    have x68 : LamX.ExtN H6 H8 := eJ.trans (.of e68)
    have T8 := TJ.ext e68
    have hp8 := hp6.extN x68
    have f5 := x68 _ _ f5 fun ps z => nomatch z
    have fW := x68 _ _ fW fun ps z => nomatch z
    refine ⟨(by show 1 ≤ sizeLine; decide), fun U nU => ?_⟩
    have e9 : Ext H8 (upd H8 U (.lst [.ref t])) := Ext.upd nU
    have f9 : (upd H8 U (.lst [.ref t])) U = some (.lst [.ref t]) := upd_same
    obtain ⟨npU, ncU⟩ := hp8.ne nU
    generalize (upd H8 U (.lst [.ref t])) = H9 at e9 f9
    refine ⟨_, rfl, .inl ⟨rfl, _, SqL.of f9⟩, T8.ext e9, fun HJ2 eJ2 TJ2 => fun E2 Q2 HK2 eK2 hE2 hV2 => ?_⟩
    refine ⟨_, rfl, W, _, 1, .ref L2, rfl, rfl, SqL.of (eK2 _ _ (eJ2 _ _ (e9 _ _ fW) fun ps z => nomatch z)), rfl, _, rfl, _, _, rfl, rfl, ?_⟩
    dsimp only
    rw [em]
    refine wide (hh := h + 1) (mm := m) (dd := 3) (eK2 _ _ (eJ2 _ _ (e9 _ _ f5) fun ps z => nomatch z)) hm (by decide) (by omega) fun dd2 H10 e10 n10 => ?_
    refine hE2 _ _ _ (.inr ⟨dd2, rfl, rfl, nw_ext _ _ n10, fun t2 H11 e11 n11 => ?_⟩)
    have f11 := nw_ext _ _ n11
    have e911 := eK2.trans (e10.trans e11)
    have x911 : LamX.ExtN H9 H11 := eJ2.trans (.of e911)
    have T11 := TJ2.ext e911
    have hp11 := (hp8.ext e9).extN x911
    have fU := x911 _ _ f9 fun ps z => nomatch z
    have f8 := x911 _ _ (e9 _ _ f8) fun ps z => nomatch z
    clear f5 fW f4 wide
    refine ⟨U, _, .ref t2, rfl, rfl, fU, (by show 1 < sizeLine; decide), ?_⟩
    have ntU : t ≠ U := fun z => by rw [z, fU] at f8; cases f8
    have nt2U : t2 ≠ U := fun z => by rw [z, fU] at f11; cases f11
    have hp12 := hp11.upd (o := .lst ([.ref t] ++ [.ref t2])) npU ncU
    have g0 : (upd H11 U (.lst ([.ref t] ++ [.ref t2]))) U = some (.lst [.ref t, .ref t2]) := upd_same
    have g1 : (upd H11 U (.lst ([.ref t] ++ [.ref t2]))) t = some (.tup [.str "many", .int 2000]) := by rw [upd_ne ntU]; exact f8
    have g2 : (upd H11 U (.lst ([.ref t] ++ [.ref t2]))) t2 = some (.tup [.str "many", .int 2000]) := by rw [upd_ne nt2U]; exact f11
    generalize (upd H11 U (.lst ([.ref t] ++ [.ref t2]))) = H12 at hp12 g0 g1 g2
    refine ⟨_, rfl, (by show 2 ≤ sizeLine; decide), fun b1 n1 => ?_⟩
    have e1 : Ext H12 (upd H12 b1 (.tup [.str "many", .int 2000])) := Ext.upd n1
    have k1 : (upd H12 b1 (.tup [.str "many", .int 2000])) b1 = some (.tup [.str "many", .int 2000]) := upd_same
    generalize (upd H12 b1 (.tup [.str "many", .int 2000])) = H13 at e1 k1
    refine ⟨(by show 2 ≤ sizeLine; decide), fun b2 n2 => ?_⟩
    have e2 : Ext H13 (upd H13 b2 (.tup [.str "many", .int 2000])) := Ext.upd n2
    have k2 : (upd H13 b2 (.tup [.str "many", .int 2000])) b2 = some (.tup [.str "many", .int 2000]) := upd_same
    generalize (upd H13 b2 (.tup [.str "many", .int 2000])) = H14 at e2 k2
    refine ⟨(by show 2 ≤ sizeLine; decide), fun b3 n3 => ?_⟩
    have e3 : Ext H14 (upd H14 b3 (.lst [.ref b1, .ref b2])) := Ext.upd n3
    have k3 : (upd H14 b3 (.lst [.ref b1, .ref b2])) b3 = some (.lst [.ref b1, .ref b2]) := upd_same
    generalize (upd H14 b3 (.lst [.ref b1, .ref b2])) = H15 at e3 k3
    have e123 := e1.trans (e2.trans e3)
    have two : ∀ {a : Addr}, H15 a = some (.tup [.str "many", .int 2000]) → Dp K H15 (.ref a) (.tuple [.str "many", .int 2000]) := fun {a} h => .tup (SqT.of h) (.cons (.str _) (.cons (.int _) .nil))
    refine ⟨.list [.tuple [.str "many", .int 2000], .tuple [.str "many", .int 2000]], .list [.tuple [.str "many", .int 2000], .tuple [.str "many", .int 2000]], .lst (SqL.of (e123 _ _ g0)) (.cons (two (e123 _ _ g1)) (.cons (two (e123 _ _ g2)) .nil)), .lst (SqL.of k3) (.cons (two ((e2.trans e3) _ _ k1)) (.cons (two (e3 _ _ k2)) .nil)), (by decide +kernel), (by decide +kernel), _, rfl, iteNo (by decide +kernel) ?_⟩
    have hp15 := hp12.ext e123
    clear two k1 k2 k3 g0 g1 g2
    -- 2,400 numbers of an even row
    have tx_snoc : ∀ i : Nat, (tx3 i).map V.int ++ [V.int (3 * (0 + (i : Int)))] = (tx3 (i + 1)).map V.int := fun i => by
      unfold tx3
      rw [List.range_succ, List.map_append, List.map_append, Int.zero_add]
      rfl
    refine ⟨2400, rfl, by decide, by decide, fun D nD => ?_⟩
    refine lc_it walk_range (fun i Hx => Hx = upd H15 D (.lst ((tx3 i).map V.int))) rfl (fun _ _ _ _ => trivial) ?_ ?_
    · rintro i x Hx H' hi rfl ⟨rfl, rfl⟩
      have hi : i < 2400 := hi
      refine ⟨rfl, _, rfl, _, _, rfl, rfl, .inl ⟨by decide, by decide⟩, _, upd_same, by rw [List.length_map, tx3_len]; show i < 16777216; omega, ?_⟩
      show upd (upd H15 D _) D _ = _
      rw [upd_upd]
      exact congrArg (fun l => upd H15 D (.lst l)) (tx_snoc i)
    rintro Hx rfl
    rw [show (2400 : Int).toNat = 2400 from rfl]
    have e4 : Ext H15 (upd H15 D (.lst ((tx3 2400).map V.int))) := Ext.upd nD
    have f4 : (upd H15 D (.lst ((tx3 2400).map V.int))) D = some (.lst ((tx3 2400).map V.int)) := upd_same
    generalize (upd H15 D (.lst ((tx3 2400).map V.int))) = H16 at e4 f4
    rw [fl_ints (tx3 2400) 2100 6300, tx3_len] at f4
    have l1 := tx3_lin (L := 2400) (p := 2100) (by decide) (by decide)
    rw [show (3 : Int) * ((2100 : Nat) : Int) = 6300 by decide] at l1
    have q1 := ext_eq (xs := tx3 2400) (p := 2100) (d := 6300) (by decide) (by rw [tx3_len]; decide)
    rw [tx3_len, l1] at q1
    rw [l1] at f4
    refine mk_good (p := 2100) (.inl f4) q1 (by decide) (by decide) fun s q e' cc => ?_
    obtain ⟨rfl, rfl, rfl⟩ := (lin_can 0 3).uniq cc
    refine ⟨fun _ a1 H17 e17 r17 => ⟨rfl, rfl, .inl ⟨0, 3, rfl, fun a2 H18 e18 r18 => ?_⟩⟩, fun hm' => absurd hm' (by decide)⟩
    refine ne_row hC C (r17.ext e18) r18 rfl ⟨_, rfl, iteF ?_⟩
    have hp18 := hp15.ext (e4.trans (e17.trans e18))
    clear f4 l1 q1 r17 r18
    -- a long list that tells a short row
    refine ⟨_, rfl, pn, c, _, 500, rfl, hp18, by omega, by decide, by decide, fun u H19 u0 u1 hp19 kp19 => ?_⟩
    obtain ⟨N, hN, n1', n2'⟩ : ∃ N : Nat, (2001 : Int) + u = N ∧ 2001 ≤ N ∧ N ≤ 2501 := ⟨(2001 + u).toNat, by omega, by omega, by omega⟩
    refine ⟨_, _, rfl, rfl, _, rfl, by omega, by omega, fun D2 nD2 => ?_⟩
    rw [hN, Int.toNat_natCast]
    obtain ⟨npD2, ncD2⟩ := hp19.ne nD2
    refine lc_it walk_range (fun i Hx => Hx = upd H19 D2 (.lst ((tx3 i).map V.int))) rfl (fun _ _ _ _ => trivial) ?_ ?_
    · rintro i x Hx H' hi rfl ⟨rfl, rfl⟩
      have hi : i < N := hi
      refine ⟨rfl, _, rfl, _, _, rfl, rfl, .inl ⟨by decide, by decide⟩, _, upd_same, by rw [List.length_map, tx3_len]; show i < 16777216; omega, ?_⟩
      show upd (upd H19 D2 _) D2 _ = _
      rw [upd_upd]
      exact congrArg (fun l => upd H19 D2 (.lst l)) (tx_snoc i)
    rintro Hx rfl
    have e5 : Ext H19 (upd H19 D2 (.lst ((tx3 N).map V.int))) := Ext.upd nD2
    have f5 : (upd H19 D2 (.lst ((tx3 N).map V.int))) D2 = some (.lst ((tx3 N).map V.int)) := upd_same
    generalize (upd H19 D2 (.lst ((tx3 N).map V.int))) = H20 at e5 f5
    have hp20 := hp19.ext e5
    refine ⟨_, rfl, (by show 3 ≤ sizeLine; decide), fun O2 hO2 => ?_⟩
    have eO2 := Ext.upd (o := .lst [V.int 1, V.int 2, V.int 7]) hO2
    obtain ⟨npO2, ncO2⟩ := hp20.ne hO2
    refine ⟨pn, c, _, .ref O2, rfl, hp20.ext eO2, by omega, .inl ⟨O2, _, rfl, npO2.symm, ncO2.symm, upd_same, (by decide), (by decide), fun x H21 hpk hp21 kp21 => ?_⟩⟩
    obtain ⟨p, p1, p7, rfl⟩ : ∃ p : Nat, 1 ≤ p ∧ p ≤ 7 ∧ x = .int p := by
      rcases List.mem_cons.mp hpk with rfl | hpk
      · exact ⟨1, by omega, by omega, rfl⟩
      rcases List.mem_cons.mp hpk with rfl | hpk
      · exact ⟨2, by omega, by omega, rfl⟩
      cases List.mem_singleton.mp hpk
      exact ⟨7, by omega, by omega, rfl⟩
    have f21 := kp21 _ _ (eO2 _ _ f5) npD2.symm ncD2.symm
    refine ⟨_, rfl, _, rfl, _, rfl, _, _, rfl, rfl, .inl ⟨by decide, by decide⟩, ?_⟩
    rw [fl_ints (tx3 N) p (3 * (p : Int)), tx3_len] at f21
    have l2 := tx3_lin (L := N) (p := p) p1 (by omega)
    have q2 := ext_eq (xs := tx3 N) (p := p) (d := 3 * (p : Int)) p1 (by rw [tx3_len]; omega)
    rw [tx3_len, l2] at q2
    rw [l2] at f21
    refine mk_good (p := p) (.inl f21) q2 (by omega) (by omega) fun s q e' cc => ?_
    obtain ⟨rfl, rfl, rfl⟩ := (lin_can 0 3).uniq cc
    refine ⟨fun _ am H22 e22 r22 => ⟨rfl, ?_⟩, fun hm' => absurd hm' (by decide)⟩
    clear f21 l2 q2 f5
    refine ⟨rfl, .inl ⟨0, 2, rfl, fun a3 H23 e23 r23 => ?_⟩⟩
    obtain ⟨dx3, t3, w3, _⟩ := id r23.ex
    refine ⟨a3, dx3, _, rfl, w3, rfl, rfl, .inl ⟨3, 1, rfl, fun a4 H24 e24 r24 => ?_⟩⟩
    refine ⟨_, rfl, a3, a4, rfl, r23.ext e24, r24, fun H25 e25 => ⟨rfl, _, rfl, iteNo (by rw [decide_eq_true rfl]; rfl) ?_⟩⟩
    refine ⟨(by show 3 ≤ sizeLine; decide), fun l6 n6 => ?_⟩
    have e26 : Ext H25 (upd H25 l6 (.lst [V.int 0, V.int 3, V.int 4])) := Ext.upd n6
    have f26 : (upd H25 l6 (.lst [V.int 0, V.int 3, V.int 4])) l6 = some (.lst [V.int 0, V.int 3, V.int 4]) := upd_same
    generalize (upd H25 l6 (.lst [V.int 0, V.int 3, V.int 4])) = H26 at e26 f26
    refine mk_good (h := f034) (L := 3) (p := 2) (.inl f26) f034_eq (by decide) (by decide) fun s q e' cc => ?_
    obtain ⟨rfl, rfl, rfl⟩ := can034 cc
    refine ⟨fun _ a5 H27 e27 r27 => ⟨rfl, ?_⟩, fun hm' => absurd hm' (by decide)⟩
    obtain ⟨dx5, t5, w5, _⟩ := id r27.ex
    refine ⟨a5, dx5, _, rfl, w5, rfl, .int 2, rfl, a5, f034, 1, 2, 3, .int 2, .int 2, rfl, r27, (by decide), .int _, fun j _ e => ?_, fun hb => by have := hb 2 rfl; omega⟩
    have ej : j = 2 := by have := PyData.int.inj e; omega
    subst ej
    refine ⟨by decide, fun s p d cc => ?_⟩
    obtain ⟨rfl, rfl, rfl⟩ := can034c cc
    refine ⟨fun _ a6 H28 e28 r28 => ?_, fun hm' => absurd hm' (by decide)⟩
    obtain ⟨dx6, t6, w6, _⟩ := id r28.ex
    refine ⟨a6, CR, dx6, _, rfl, w6, aT, a6, _, 1, 1, 3, rfl, r28, fun n hn => ?_, (by decide), fun H29 e29 => ⟨_, rfl, rfl, _, rfl, iteNo (by rw [txt3]; rfl) ?_⟩⟩
    · match n, hn with
      | 0, _ => decide +kernel
      | 1, _ => decide +kernel
    have r29 := ((((((r22.ext e23).ext e24).ext e25).ext e26).ext e27).ext e28).ext e29
    obtain ⟨mc, u', m1, m2⟩ := hM
    refine ⟨CR, mc, .int 2000, u', rfl, m1, m2, rfl, _, rfl, iteT ?_⟩
    obtain ⟨dx7, t7, w7, _⟩ := id r29.ex
    refine ⟨_, rfl, am, dx7, _, rfl, w7, am, lin 0 3, 0, 1, 3, .int 2, .int 2, rfl, r29, .int _, (by decide), fun j e => ?_, fun hb => by have := hb 2 rfl; omega⟩
    have ej : j = 2 := by have := PyData.int.inj e; omega
    subst ej
    refine ⟨by decide, rfl, ?_⟩
    have : decide (V.int (lin 0 3 2) = V.int 6) = true := by decide
    rw [this]
    exact k _
end
end K10
end
section
set_option Elab.async false
set_option autoImplicit false
set_option linter.all false
set_option maxRecDepth 100000
set_option maxHeartbeats 1000000
set_option pp.maxSteps 1500
namespace K10
open PySem PySem.Spec PyProof.Rows L2 Ls RowM
open C8 (pss_cut tCut)
open TL
/-! ### the law -/
def neg2 : List PyData := [.int (-1), .int (-(10 ^ 20))]
def Nice2 (D : PyData) : Prop := (PyData.list [.tuple [.str "number", D], .tuple [.str "number", D]]).showable = true ∧ (PyData.list [.tuple [.str "number", D], .tuple [.str "number", D]]).depth ≤ 60 ∧ (PyData.list [.tuple [.str "number", D], .tuple [.str "number", D]]).shown.length ≤ 1000
instance (D : PyData) : Decidable (Nice2 D) := inferInstanceAs (Decidable (_ ∧ _ ∧ _))
theorem nice2_all : ∀ D ∈ oddL ++ neg2, Nice2 D := by decide +kernel
theorem neg_all : ∀ D ∈ oddL ++ neg2, ∀ i : Int, D = .int i → i < 0 := by
  intro D hD i e
  rcases List.mem_append.mp hD with h | h
  · exact absurd e (isInt_no (odd_no D h) i)
  · subst e
    rcases List.mem_cons.mp h with h | h
    · cases h; decide
    · have := List.mem_singleton.mp h
      cases this
      decide
theorem RowAt.updL {CR : Addr} {H : Hp} {a L : Addr} {f : Nat → Int} {s p : Nat} {d : Int} {xs : List V} {o : HO} (h : RowAt CR H a f s p d) (hL : H L = some (.lst xs)) : RowAt CR (upd H L o) a f s p d := by
  obtain ⟨dx, t, h1, h2⟩ := h.ex
  have n1 : a ≠ L := fun z => by rw [z, hL] at h1; cases h1
  have n2 : t ≠ L := fun z => by rw [z, hL] at h2; cases h2
  exact ⟨⟨dx, t, by rw [upd_ne n1]; exact h1, by rw [upd_ne n2]; exact h2⟩, h.can, h.le⟩
theorem tabs_lst {T : List (Addr × Str)} {H : Hp} {l : Addr} {xs : List V} {o : HO} (t : LamX.Tabs T H) (h : H l = some (.lst xs)) : LamX.Tabs T (upd H l o) := fun q hq => by
  obtain ⟨ps, h1, h2, h3⟩ := t q hq
  have n : ∀ {b : Addr} {u : HO}, H b = some u → (∀ zs, u ≠ .lst zs) → (upd H l o) b = some u := fun {b u} e n => by
    rw [upd_ne fun z => by
      rw [z, h] at e
      exact n xs (Option.some.inj e).symm]
    exact e
  refine ⟨ps, n h1 (fun zs z => by cases z), h2, fun pos cv hcv => ?_⟩
  obtain ⟨c', e1, e2⟩ := h3 pos cv hcv
  exact ⟨c', e1, n e2 (fun zs z => by unfold LamX.CodeO at z; cases z)⟩
section
variable {P : Program} {w : World} {K : PySem.W.Frag} {mg : Str → Option Value} {base : Heap} {CE CN CT CB CR : Addr} {tM tP tF : Tok}
def spLaw (K : PySem.W.Frag) (TT : List (Addr × Str)) : Sp := fun vs H Q _ => ∃ (a : Addr) (ns : List Int), vs = [.ref a] ∧ SqL K H a (ns.map V.int) ∧ ns.length ≤ 63 ∧ LamX.Tabs TT H ∧ ∀ H', Q (.bl true) H'
abbrev s_law : Stmt := top 41
abbrev N_law : List Str := ["_law_script", "_law_pen_here", "_law_bout", "_law_numbers", "_law_period", "_law_step", "_law_due", "_law_made", "_law_odd_here", "_law_told"]
theorem sc_law : FnScope N_law ["_law_script"] (defScope s_law) := ⟨rfl, rfl, rfl, by decide +kernel, rfl, by decide +kernel, by decide +kernel⟩
theorem ok_law {fa fE fT fG g c2 P2 CP : Addr} {fd fdh : FuncData} {TT : List (Addr × Str)} (F : Fun K "law" "law" s_law fa fd) (T : Tx K mg CE CN CT CB CR tM tP tF) (hC : ClR K CR) (C : RowK K CR fE)
    (F__law_heard : Fun K "_law_heard" "_law_heard" s__law_heard g fdh) (m__law_heard : mg "_law_heard" = some (.ref g)) (b__law_heard : L2.Binds K fdh ["_law_ask"] [])
    (eN : ErrF K CE CN "value") (eT : ErrF K CE CT "most") (kNV : PySem.W.kitOne K (.ref CN) (.type "ValueError") = some true) (kTN : PySem.W.kitOne K (.ref CT) (.ref CN) = some false) (m_BadPrice : mg "BadPrice" = some (.ref CP)) (nsN : PySem.W.subIn K (.ref CN) (.type "StopIteration") = some false)
    (hfc : fd.code = .ref c2) (TB : LamX.TabB base mg c2 P2) (hmT : (P2, ("law.<locals>.<lambda>" : Str)) ∈ TT) (huT : ∀ p ∈ TT, p.1 = P2 → p.2 = ("law.<locals>.<lambda>" : Str)) (hsys : (base.get? sysModules).isSome = true)
    (rE : FnR P w K mg base CX0 2 fE (spEq CR)) (hfe : PySem.W.isFn K (.ref fE) = true)
    (rGet : FnR P w K mg base (L2.CX P w) 4 fG (spGet CN CR)) (hGet : OwnGet K CR fG)
    (c_Row : Mkc P w K mg base (L2.CX P w) 4 CR "Row" (spRowX CN CT CR K)) (c_Row_even : Stm P w K mg base (L2.CX P w) 6 CR "even" (spEvenX CN CR)) (c_Row_read_kw : ClmK P w K mg base CX0 7 CR "read" "text" (spRead CR))
    (g_numbers : GenM P w K mg base 6 CR "numbers" (spNumsG CN CR)) (g_numbers_kw : GenMK P w K mg base 6 CR "numbers" "n" (spNumsG CN CR))
    (c__law_pen : Cal P w K mg base CX0 1 "_law_pen" (spPen K)) (c__law_pick : Cal P w K mg base CX0 2 "_law_pick" (spPick K)) (c__law_odd : Cal P w K mg base CX0 3 "_law_odd" spOdd) (c__law_parts : Cal P w K mg base CX0 4 "_law_parts" (spParts K)) (c__law_bounds_right : Cal P w K mg base CX0 13 "_law_bounds_right" (spBounds TT)) :
    FnG P w K mg base CX0 15 fa fd ["_law_script"] (spLaw K TT) := by
  refine okG F sc_law (fun vs H Q E h => ?_) (fun cdv A outer s H vs Q E hcd hgd hr h => ?_)
  · obtain ⟨a, ns, rfl, _⟩ := h
    rfl
  · obtain ⟨a, ns, rfl, ha, hn, hT, k⟩ := h
    rw [hfc] at hcd
    subst hcd
    have h4 : sizeLine = 16777216 := sizeLine_eq
    refine ⟨_, (pss_cons (ps_set (i := 1) sc_law.nd rfl (by first | exact Or.inl rfl | exact Or.inr rfl) (pe_cal c__law_pen (hr.mono (by decide)) (by rfl) pass0 (pa_cons (pv 0) pa_nil)))
      (pss_cons (ps_for PassesOwn.never rfl (pi_range1 rfl (T.bn _ (by decide +kernel)) (pa_cons pe_int pa_nil)) (pg_name (i := 2) sc_law.nd rfl (by first | exact Or.inl rfl | exact Or.inr rfl))
      (pss_cons (ps_asg (pe_cal c__law_parts (hr.mono (by decide)) (by rfl) pass0 (pa_cons (pv 1) pa_nil)) (pg_lst rfl (pgs_cons (pg_name (i := 3) sc_law.nd rfl (by first | exact Or.inl rfl | exact Or.inr rfl)) (pgs_cons (pg_name (i := 4) sc_law.nd rfl (by first | exact Or.inl rfl | exact Or.inr rfl)) (pgs_cons (pg_name (i := 5) sc_law.nd rfl (by first | exact Or.inl rfl | exact Or.inr rfl)) (pgs_cons (pg_name (i := 6) sc_law.nd rfl (by first | exact Or.inl rfl | exact Or.inr rfl)) pgs_nil))))))
      (pss_cut (ps_if (pt_cmpR op_ne (pe_callB (call_repr hgd hr hsys) (by rfl) (T.bn _ (by decide +kernel)) (by decide +kernel) (pa_cons (pe_lamS (T := TT) (k := 9) F__law_heard (by rfl) m__law_heard b__law_heard sc__law_heard rfl (.inl rfl) (fun cdv => heard_gives T eN eT kNV kTN m_BadPrice (hr.mono (by decide))) TB rfl hmT huT (hr.mono (by decide)) (LamX.lamS_by (sc := defScope s_law) (by decide +kernel)) rfl (fun _ _ _ _ _ => rfl) (fun A outer s H E f c2 hr => (pe_mkc c_Row (hr.mono (by decide)) (by rfl) passLm (pa_cons (pv 3) (pa_cons (pv 4) (pa_cons (pv 5) pa_nil)))))) pa_nil)) (pe_callB (call_repr hgd hr hsys) (by rfl) (T.bn _ (by decide +kernel)) (by decide +kernel) (pa_cons (pv 6) pa_nil)) (nomark _)) (pss_one (ps_ret pe_bl)) pss_nil)
      (pss_cons (ps_set (i := 7) sc_law.nd rfl (by first | exact Or.inl rfl | exact Or.inr rfl) (pe_mkc c_Row (hr.mono (by decide)) (by rfl) passN (pa_cons (pe_lst (pa_cons pe_int (pa_cons pe_int (pa_cons pe_int pa_nil)))) (pa_cons pe_int (pa_cons pe_int pa_nil)))))
      (pss_cons (ps_set (i := 8) sc_law.nd rfl (by first | exact Or.inl rfl | exact Or.inr rfl) (pe_cal c__law_pick (hr.mono (by decide)) (by rfl) pass0 (pa_cons (pv 1) (pa_cons (pe_lst (pa_cons (pe_cal c__law_odd (hr.mono (by decide)) (by rfl) pass0 (pa_cons (pv 1) pa_nil)) (pa_cons (pe_un un_neg pe_int) (pa_cons (pe_un un_neg (pe_op op_pow pe_int pe_int)) pa_nil)))) pa_nil))))
      (pss_cons (ps_set (i := 9) sc_law.nd rfl (by first | exact Or.inl rfl | exact Or.inr rfl) (pe_lst (pa_cons (pe_lamS (T := TT) (k := 9) F__law_heard (by rfl) m__law_heard b__law_heard sc__law_heard rfl (.inl rfl) (fun cdv => heard_gives T eN eT kNV kTN m_BadPrice (hr.mono (by decide))) TB rfl hmT huT (hr.mono (by decide)) (LamX.lamS_by (sc := defScope s_law) (by decide +kernel)) rfl (fun _ _ _ _ _ => rfl) (fun A outer s H E f c2 hr => (pe_ixO rGet hGet (hr.mono (by decide)) passLm (pv 7) (pv 8) (fun _ _ => rfl)))) pa_nil)))
      (pss_cons (ps_expr (pe_bm PySem.F.plainAttrs_list PySem.F.slot_list_append PySem.F.type_list_append mt_append (pv 9) (pa_cons (pe_lamS (T := TT) (k := 9) F__law_heard (by rfl) m__law_heard b__law_heard sc__law_heard rfl (.inl rfl) (fun cdv => heard_gives T eN eT kNV kTN m_BadPrice (hr.mono (by decide))) TB rfl hmT huT (hr.mono (by decide)) (LamX.lamS_by (sc := defScope s_law) (by decide +kernel)) rfl (fun _ _ _ _ _ => rfl) (fun A outer s H E f c2 hr => (pe_listGC (pgen_m g_numbers (hr.mono (by decide)) (pv 7) (pa_cons (pv 8) pa_nil)) (passLm1 (C := CN)) (noStop_only nsN) (hr.mono (by decide)) (by rfl) (T.bn _ (by decide +kernel)) (by decide +kernel)))) pa_nil)))
      (pss_cut (ps_if ((pw_or (pt_cmpR op_ne (pe_callB (call_repr hgd hr hsys) (by rfl) (T.bn _ (by decide +kernel)) (by decide +kernel) (pa_cons (pv 9) pa_nil)) (pe_callB (call_repr hgd hr hsys) (by rfl) (T.bn _ (by decide +kernel)) (by decide +kernel) (pa_cons (pe_op op_rep (pe_lst (pa_cons (pe_tup (pa_cons pe_str (pa_cons (pv 8) pa_nil))) pa_nil)) pe_int) pa_nil)) (nomark _)) (pw_or1 (pt_cmpR (op_neD hr.units) (pe_listGC (pgen_mk g_numbers_kw (hr.mono (by decide)) (pv 7) (pk_cons pe_int pk_nil)) passN noStop0 (hr.mono (by decide)) (by rfl) (T.bn _ (by decide +kernel)) (by decide +kernel)) (pe_lst (pa_cons pe_int (pa_cons pe_int pa_nil))) (nomark _))))).pt (pss_one (ps_ret pe_bl)) pss_nil)
      (pss_cons (ps_set (i := 8) sc_law.nd rfl (by first | exact Or.inl rfl | exact Or.inr rfl) (pe_cal c__law_odd (hr.mono (by decide)) (by rfl) pass0 (pa_cons (pv 1) pa_nil)))
      (pss_cons (ps_set (i := 9) sc_law.nd rfl (by first | exact Or.inl rfl | exact Or.inr rfl) (pe_lst (pa_cons (pe_lamS (T := TT) (k := 9) F__law_heard (by rfl) m__law_heard b__law_heard sc__law_heard rfl (.inl rfl) (fun cdv => heard_gives T eN eT kNV kTN m_BadPrice (hr.mono (by decide))) TB rfl hmT huT (hr.mono (by decide)) (LamX.lamS_by (sc := defScope s_law) (by decide +kernel)) rfl (fun _ _ _ _ _ => rfl) (fun A outer s H E f c2 hr => (pe_stm c_Row_even (hr.mono (by decide)) (pe_gref (by rfl) T.m_Row) passLm (pa_cons (pv 8) (pa_cons pe_int pa_nil))))) pa_nil)))
      (pss_cons (ps_expr (pe_bm PySem.F.plainAttrs_list PySem.F.slot_list_append PySem.F.type_list_append mt_append (pv 9) (pa_cons (pe_lamS (T := TT) (k := 9) F__law_heard (by rfl) m__law_heard b__law_heard sc__law_heard rfl (.inl rfl) (fun cdv => heard_gives T eN eT kNV kTN m_BadPrice (hr.mono (by decide))) TB rfl hmT huT (hr.mono (by decide)) (LamX.lamS_by (sc := defScope s_law) (by decide +kernel)) rfl (fun _ _ _ _ _ => rfl) (fun A outer s H E f c2 hr => (pe_stm c_Row_even (hr.mono (by decide)) (pe_gref (by rfl) T.m_Row) passLm (pa_cons pe_int (pa_cons (pv 8) pa_nil))))) pa_nil)))
      (pss_cut (ps_if ((pw_or (pt_cmpR op_ne (pe_callB (call_repr hgd hr hsys) (by rfl) (T.bn _ (by decide +kernel)) (by decide +kernel) (pa_cons (pv 9) pa_nil)) (pe_callB (call_repr hgd hr hsys) (by rfl) (T.bn _ (by decide +kernel)) (by decide +kernel) (pa_cons (pe_op op_rep (pe_lst (pa_cons (pe_tup (pa_cons pe_str (pa_cons (pv 8) pa_nil))) pa_nil)) pe_int) pa_nil)) (nomark _)) (pw_or1 (pt_cmpR (op_neO rE hfe (hr.mono (by decide)) pass0) (pe_clmk c_Row_read_kw (hr.mono (by decide)) (pe_gref (by rfl) T.m_Row) pass0 (pk_cons pe_str pk_nil)) (pv 7) (nomark _))))).pt (pss_one (ps_ret pe_bl)) pss_nil)
      (pss_one (ps_if (pt_cmpR (op_neD hr.units) (pe_lamS (T := TT) (k := 9) F__law_heard (by rfl) m__law_heard b__law_heard sc__law_heard rfl (.inl rfl) (fun cdv => heard_gives T eN eT kNV kTN m_BadPrice (hr.mono (by decide))) TB rfl hmT huT (hr.mono (by decide)) (LamX.lamS_by (sc := defScope s_law) (by decide +kernel)) rfl (fun _ _ _ _ _ => rfl) (fun A outer s H E f c2 hr => (pe_stm c_Row_even (hr.mono (by decide)) (pe_gref (by rfl) T.m_Row) passLm (pa_cons pe_non (pa_cons pe_str pa_nil))))) (pe_tup (pa_cons pe_str (pa_cons pe_str pa_nil))) (nomark _)) (pss_one (ps_ret pe_bl)) pss_nil))))))))))))))
      (pss_one (ps_ret (pe_cal c__law_bounds_right (hr.mono (by decide)) (by rfl) pass0 (pa_cons (pv 1) pa_nil)))))), ?_⟩
    refine ⟨_, rfl, a, ns, rfl, ha, by omega, fun p c H1 hp e1 _ _ => ?_⟩
    have T1 := hT.ext e1
    refine ⟨20, rfl, by decide, by decide, for_range (n := 20) (fun i σ H' => ∃ x2 x3 x4 x5 x6 x7 x8 x9, σ = [some (.ref a), some (.ref p), x2, x3, x4, x5, x6, x7, x8, x9] ∧ PenAt H' p c (i * 100) ∧ LamX.Tabs TT H') ⟨_, _, _, _, _, _, _, _, rfl, hp, T1⟩ ?_ ?_⟩
    · rintro i σ H2 hi ⟨o2, o3, o4, o5, o6, o7, o8, o9, rfl, hp2, T2⟩
      have hi : i < 20 := hi
      refine ⟨_, rfl, p, c, i * 100, rfl, hp2, by omega, fun L N P' S due H3 fL nLp nLc pa hp3 kp3 => ?_⟩
      have T3 := hp2.tabs T2 kp3
      refine ⟨L, _, rfl, SqL.of fL, rfl, _, _, rfl, _, _, rfl, _, _, rfl, _, _, rfl, rfl, ?_⟩
      refine ⟨fun σ H' => ∃ x2 x3 x4 x5 x6 x7 x8 x9, σ = [some (.ref a), some (.ref p), x2, x3, x4, x5, x6, x7, x8, x9] ∧ PenAt H' p c (i * 100 + 50) ∧ LamX.Tabs TT H', ?_, ?_⟩
      · refine ⟨T3, fun HJ eJ TJ => fun E' Q' HK eK hE hV => ?_⟩
        refine ⟨_, rfl, _, rfl, _, rfl, ?_⟩
        have xK : LamX.ExtN H3 HK := eJ.trans (.of eK)
        rcases id pa with ⟨l, xs, q, d, rfl, fl_, rfl, rfl, p1, pm, l10, rfl⟩ | ⟨t, bad, D, rfl, ft, hN, tv, br⟩
        · have f1 := xK _ _ fl_ fun ps z => nomatch z
          rw [fl_ints xs q d] at f1
          have q0 := ext_eq (xs := xs) (p := q) (d := d) p1 pm
          refine mk_good (.inl f1) q0 pm (by omega) fun s q' e' cc => ?_
          have l1 := cc.low _ _ _ q0
          have l2 := cc.few _ _ _ q0
          refine ⟨fun _ x H4 e4 r4 => ⟨rfl, hV _ _ fun H5 e5 => ?_⟩, fun hm' => absurd hm' (by omega)⟩
          refine ⟨.non, .none, rfl, .non, (by decide), (by decide), (by decide +kernel), ?_⟩
          refine ⟨_, rfl, .non, .none, rfl, .non, (by decide), (by decide), (by decide +kernel), rfl, _, rfl, iteNo (by rw [decide_eq_true rfl]; rfl) ?_⟩
          exact ⟨_, _, _, _, _, _, _, _, rfl, ((hp3.extN eJ).ext (eK.trans (e4.trans e5))).mono (by omega), TJ.ext (eK.trans (e4.trans e5))⟩
        · refine mk_bad (br.extN xK) fun dd H4 e4 n4 => ?_
          refine hE _ _ _ (.inl ⟨dd, bad, rfl, rfl, nw_ext _ _ n4, fun t2 H5 e5 n5 => ?_⟩)
          have f5 := nw_ext _ _ n5
          have x5 : LamX.ExtN H3 H5 := xK.trans (.of (e4.trans e5))
          have tv5 : TV H5 bad D := (tv.ext (vis_extN x5)).ext vis_ext
          have ft5 := x5 _ _ ft fun ps z => nomatch z
          obtain ⟨s1, s2, s3⟩ := hN
          refine ⟨.ref t2, .tuple [.str "number", D], rfl, .tup f5 (.cons (.str _) (.cons tv5 .nil)), s1, s2, Nat.le_trans s3 (by decide), ?_⟩
          refine ⟨_, rfl, .ref t, .tuple [.str "number", D], rfl, .tup ft5 (.cons (.str _) (.cons tv5 .nil)), s1, s2, Nat.le_trans s3 (by decide), rfl, _, rfl, iteNo (by rw [decide_eq_true rfl]; rfl) ?_⟩
          exact ⟨_, _, _, _, _, _, _, _, rfl, (hp3.extN x5).mono (by omega), TJ.ext (eK.trans (e4.trans e5))⟩
      clear pa fL hp3 kp3 T3 hp2 T2
      rintro σ H2 ⟨o2, o3, o4, o5, o6, o7, o8, o9, rfl, hp2, T2⟩
      -- row[n], row.numbers(n)
      refine ⟨(by show 3 ≤ sizeLine; decide), fun l6 n6 => ?_⟩
      have e26 : Ext H2 (upd H2 l6 (.lst [V.int 0, V.int 3, V.int 4])) := Ext.upd n6
      have f26 : (upd H2 l6 (.lst [V.int 0, V.int 3, V.int 4])) l6 = some (.lst [V.int 0, V.int 3, V.int 4]) := upd_same
      generalize (upd H2 l6 (.lst [V.int 0, V.int 3, V.int 4])) = H3 at e26 f26
      refine mk_good (h := f034) (L := 3) (p := 2) (.inl f26) f034_eq (by decide) (by decide) fun s q e' cc => ?_
      obtain ⟨rfl, rfl, rfl⟩ := can034 cc
      refine ⟨fun _ am H4 e4 r4 => ⟨rfl, ?_⟩, fun hm' => absurd hm' (by decide)⟩
      have hp4 := hp2.ext (e26.trans e4)
      have T4 := T2.ext (e26.trans e4)
      refine ⟨_, rfl, _, rfl, p, c, _, rfl, hp4, by omega, fun x D H5 hD tv hp5 kp5 => ?_⟩
      refine ⟨1, rfl, 10, 20, rfl, rfl, ⟨by decide, by decide, by decide⟩, _, rfl, (by show 3 ≤ sizeLine; decide), fun O hO => ?_⟩
      have eO := Ext.upd (o := .lst [x, .int (-1), .int (-(10 ^ (20 : Int).toNat))]) hO
      obtain ⟨npO, ncO⟩ := hp5.ne hO
      have tv6 := (tv_new (pen_some hp4) tv).ext (vis_mono eO)
      have hp6 := hp5.ext eO
      have T6 := (hp4.tabs T4 kp5).ext eO
      have r6 := (r4.keep hp4 kp5).ext eO
      refine ⟨p, c, _, .ref O, rfl, hp6, by omega, .inl ⟨O, _, rfl, npO.symm, ncO.symm, upd_same, (by show 0 < 3; decide), (by show 3 ≤ 1000; decide), fun y H7 hy hp7 kp7 => ?_⟩⟩
      have T7 := hp6.tabs T6 kp7
      have r7 := r6.keep hp6 kp7
      obtain ⟨D', hD', tv7⟩ : ∃ D' : PyData, D' ∈ oddL ++ neg2 ∧ TV (vis [p, c] H7) y D' := by
        rcases List.mem_cons.mp hy with rfl | hy
        · exact ⟨D, List.mem_append_left _ hD, tv6.ext (vis_keep kp7 (by simp) (by simp))⟩
        rcases List.mem_cons.mp hy with rfl | hy
        · exact ⟨.int (-1), by simp [neg2], .int _⟩
        cases List.mem_singleton.mp hy
        exact ⟨.int (-(10 ^ 20)), by simp [neg2], .int _⟩
      have ng := neg_all D' hD'
      have tv7 := tv7.ext (vis_less (S' := []) (by simp))
      clear tv tv6 hD hp5 hp6 T6 r6 r4 hp4 T4
      have told : ∀ {HA : Hp} {Qx : VK} {Ex : XK}, (∀ cls d H', HeardE CN CT Qx cls d H' → Ex cls d H') → (∀ t1 H8, Ext HA H8 → H8 t1 = some (.tup [.str "number", y]) → Qx (.ref t1) H8) → Errs CN "value" y HA Ex := fun {HA Qx Ex} hE hq => fun dd H4 e4 n4 =>
        hE _ _ _ (.inl ⟨dd, y, rfl, rfl, nw_ext _ _ n4, fun t2 H5 e5 n5 => hq t2 H5 (e4.trans e5) (nw_ext _ _ n5)⟩)
      refine ⟨T7, fun HJ eJ TJ => fun E' Q' HK eK hE hV => ?_⟩
      have xK : LamX.ExtN H7 HK := eJ.trans (.of eK)
      have rK := r7.extN xK
      obtain ⟨dx7, t7, w7, _⟩ := id rK.ex
      refine ⟨_, rfl, _, rfl, am, dx7, _, rfl, w7, am, f034, 1, 2, 3, y, D', rfl, rK, (tv7.ext (vis_extN xK)).ext vis_ext, (by decide), fun n e => absurd (ng _ e) (by omega), fun _ => told hE fun t1 H8 e8 f8 => ?_⟩
      have x8 : LamX.ExtN H7 H8 := xK.trans (.of e8)
      have T8 := TJ.ext (eK.trans e8)
      have hp8 := hp7.extN x8
      have r8 := r7.extN x8
      refine ⟨(by show 1 ≤ sizeLine; decide), fun U nU => ?_⟩
      have e9 : Ext H8 (upd H8 U (.lst [.ref t1])) := Ext.upd nU
      have f9 : (upd H8 U (.lst [.ref t1])) U = some (.lst [.ref t1]) := upd_same
      obtain ⟨npU, ncU⟩ := hp8.ne nU
      generalize (upd H8 U (.lst [.ref t1])) = H9 at e9 f9
      refine ⟨_, rfl, .inl ⟨rfl, _, SqL.of f9⟩, T8.ext e9, fun HJ2 eJ2 TJ2 => fun E2 Q2 HK2 eK2 hE2 hV2 => ?_⟩
      have x9 : LamX.ExtN H9 HK2 := eJ2.trans (.of eK2)
      have rK2 := (r8.ext e9).extN x9
      obtain ⟨dx9, t9, w9, _⟩ := id rK2.ex
      have x79 : LamX.ExtN H7 HK2 := (x8.trans (.of e9)).trans x9
      refine ⟨_, rfl, am, dx9, _, rfl, w9, rfl, _, rfl, am, f034, 1, 2, 3, y, D', rfl, rK2, (by decide), (tv7.ext (vis_extN x79)).ext vis_ext, fun n e => absurd (ng _ e) (by omega), fun _ => fun ddx Hx ex nx => ⟨told hE2 (fun t2 H10 e10 f10 => ?_) ddx Hx ex nx, rfl⟩⟩
      have x10 : LamX.ExtN H9 H10 := x9.trans (.of e10)
      have T10 := TJ2.ext (eK2.trans e10)
      have hp10 := (hp8.ext e9).extN x10
      have fU := x10 _ _ f9 fun ps z => nomatch z
      have f8 := x10 _ _ (e9 _ _ f8) fun ps z => nomatch z
      have r10 := (r8.ext e9).extN x10
      refine ⟨U, _, .ref t2, rfl, rfl, fU, (by show 1 < sizeLine; decide), ?_⟩
      have nt1 : t1 ≠ U := fun z => by rw [z, fU] at f8; cases f8
      have nt2 : t2 ≠ U := fun z => by rw [z, fU] at f10; cases f10
      have T11 := tabs_lst (o := .lst ([.ref t1] ++ [.ref t2])) T10 fU
      have hp11 := hp10.upd (o := .lst ([.ref t1] ++ [.ref t2])) npU ncU
      have r11 := r10.updL (o := .lst ([.ref t1] ++ [.ref t2])) fU
      have tv11 : TV (vis ([] ++ [U]) (upd H10 U (.lst ([.ref t1] ++ [.ref t2])))) y D' := by
        rw [vis_upd (by simp)]
        exact (((tv7.ext (vis_extN x8)).ext (vis_add nU)).ext (vis_mono e9)).ext (vis_extN x10)
      have g0 : (upd H10 U (.lst ([.ref t1] ++ [.ref t2]))) U = some (.lst [.ref t1, .ref t2]) := upd_same
      have g1 : (upd H10 U (.lst ([.ref t1] ++ [.ref t2]))) t1 = some (.tup [.str "number", y]) := by rw [upd_ne nt1]; exact f8
      have g2 : (upd H10 U (.lst ([.ref t1] ++ [.ref t2]))) t2 = some (.tup [.str "number", y]) := by rw [upd_ne nt2]; exact f10
      generalize (upd H10 U (.lst ([.ref t1] ++ [.ref t2]))) = H11 at T11 hp11 r11 tv11 g0 g1 g2
      have tv11 := tv11.ext vis_ext
      obtain ⟨s1, s2, s3⟩ := nice2_all D' hD'
      clear fU f8 f10 r10 hp10 T10 told tv7 r7 hp7 T7 r8 hp8 T8
      refine ⟨fun σ H' => ∃ x2 x3 x4 x5 x6 x8 x9, σ = [some (.ref a), some (.ref p), x2, x3, x4, x5, x6, some (.ref am), x8, x9] ∧ RowAt CR H' am f034 1 2 3 ∧ PenAt H' p c (i * 100 + 60) ∧ LamX.Tabs TT H', ?_, ?_⟩
      · refine ⟨_, rfl, .ref U, _, rfl, .lst g0 (.cons (.tup g1 (.cons (.str _) (.cons tv11 .nil))) (.cons (.tup g2 (.cons (.str _) (.cons tv11 .nil))) .nil)), s1, s2, Nat.le_trans s3 (by decide), ?_⟩
        refine ⟨_, rfl, (by show 2 ≤ sizeLine; decide), fun b1 n1 => ?_⟩
        have e12 : Ext H11 (upd H11 b1 (.tup [.str "number", y])) := Ext.upd n1
        have k1 : (upd H11 b1 (.tup [.str "number", y])) b1 = some (.tup [.str "number", y]) := upd_same
        generalize (upd H11 b1 (.tup [.str "number", y])) = H12 at e12 k1
        refine ⟨(by show 1 ≤ sizeLine; decide), fun b2 n2 => ?_⟩
        have e13 := Ext.upd (o := .lst [.ref b1]) n2
        refine ⟨b2, 2, _, rfl, rfl, upd_same, (by decide), (by decide), (by show 1 * 2 ≤ sizeLine; decide), fun b3 n3 => ?_⟩
        have e14 := Ext.upd (o := .lst (List.replicate (2 : Int).toNat [V.ref b1]).flatten) n3
        have e1214 := e12.trans (e13.trans e14)
        have k1 := (e13.trans e14) _ _ k1
        refine ⟨.ref b3, .list [.tuple [.str "number", D'], .tuple [.str "number", D']], rfl, .lst (xs := [.ref b1, .ref b1]) upd_same (.cons (.tup k1 (.cons (.str _) (.cons (tv11.ext e1214) .nil))) (.cons (.tup k1 (.cons (.str _) (.cons (tv11.ext e1214) .nil))) .nil)), s1, s2, Nat.le_trans s3 (by decide), rfl, _, rfl, iteNo (by rw [decide_eq_true rfl]; rfl) ?_⟩
        have r15 := r11.ext e1214
        have hp15 := hp11.ext e1214
        have T15 := T11.ext e1214
        generalize (upd (upd H12 b2 (.lst [V.ref b1])) b3 (.lst (List.replicate (2 : Int).toNat [V.ref b1]).flatten)) = H15 at r15 hp15 T15
        obtain ⟨dx15, t15, w15, _⟩ := id r15.ex
        refine ⟨_, rfl, am, dx15, _, rfl, w15, rfl, .int 2, rfl, am, f034, 1, 2, 3, .int 2, .int 2, rfl, r15, (by decide), .int _, fun n e => ?_, fun hb => by have := hb 2 rfl; omega⟩
        have en : n = 2 := by have := PyData.int.inj e; omega
        subst en
        refine ⟨by decide, fun M nM => ?_⟩
        have e16 : Ext H15 (upd H15 M (.lst (fl f034 2))) := Ext.upd nM
        have f16 : (upd H15 M (.lst (fl f034 2))) M = some (.lst [.int 0, .int 3]) := by
          rw [upd_same]
          exact congrArg (fun l => some (HO.lst l)) (by decide : fl f034 2 = [.int 0, .int 3])
        generalize (upd H15 M (.lst (fl f034 2))) = H16 at e16 f16
        refine ⟨(by show 2 ≤ sizeLine; decide), fun b4 n4 => ?_⟩
        have e17 : Ext H16 (upd H16 b4 (.lst [.int 0, .int 3])) := Ext.upd n4
        have e1517 := e16.trans e17
        refine ⟨.list [.int 0, .int 3], .list [.int 0, .int 3], .lst (SqL.of (e17 _ _ f16)) (.cons (.int _) (.cons (.int _) .nil)), .lst (SqL.of upd_same) (.cons (.int _) (.cons (.int _) .nil)), (by decide +kernel), (by decide +kernel), _, rfl, iteNo (by decide +kernel) ?_⟩
        exact ⟨_, _, _, _, _, _, _, rfl, r15.ext e1517, (hp15.ext e1517).mono (by omega), T15.ext e1517⟩
      clear g0 g1 g2 tv11 r11 hp11 T11 hp2 T2
      rintro σ H2 ⟨o2, o3, o4, o5, o6, o8, o9, rfl, r2, hp2, T2⟩
      -- Row.even(..)
      refine ⟨_, rfl, p, c, _, rfl, hp2, by omega, fun y D H7 hD tv hp7 kp7 => ?_⟩
      have T7 := hp2.tabs T2 kp7
      have r7 := r2.keep hp2 kp7
      have tv7 := (tv_new (pen_some hp2) tv).ext (vis_less (S' := []) (by simp))
      have told : ∀ {HA : Hp} {Qx : VK} {Ex : XK}, (∀ cls d H', HeardE CN CT Qx cls d H' → Ex cls d H') → (∀ t1 H8, Ext HA H8 → H8 t1 = some (.tup [.str "number", y]) → Qx (.ref t1) H8) → Errs CN "value" y HA Ex := fun {HA Qx Ex} hE hq => fun dd H4 e4 n4 =>
        hE _ _ _ (.inl ⟨dd, y, rfl, rfl, nw_ext _ _ n4, fun t2 H5 e5 n5 => hq t2 H5 (e4.trans e5) (nw_ext _ _ n5)⟩)
      refine ⟨T7, fun HJ eJ TJ => fun E' Q' HK eK hE hV => ?_⟩
      have xK : LamX.ExtN H7 HK := eJ.trans (.of eK)
      refine ⟨rfl, _, rfl, .inr ⟨y, .int 1, y, D, rfl, (tv7.ext (vis_extN xK)).ext vis_ext, odd_no D hD, told hE fun t1 H8 e8 f8 => ?_, .inr ⟨⟨1, rfl⟩, rfl⟩⟩⟩
      have x8 : LamX.ExtN H7 H8 := xK.trans (.of e8)
      have T8 := TJ.ext (eK.trans e8)
      have hp8 := hp7.extN x8
      have r8 := r7.extN x8
      refine ⟨(by show 1 ≤ sizeLine; decide), fun U nU => ?_⟩
      have e9 : Ext H8 (upd H8 U (.lst [.ref t1])) := Ext.upd nU
      have f9 : (upd H8 U (.lst [.ref t1])) U = some (.lst [.ref t1]) := upd_same
      obtain ⟨npU, ncU⟩ := hp8.ne nU
      generalize (upd H8 U (.lst [.ref t1])) = H9 at e9 f9
      refine ⟨_, rfl, .inl ⟨rfl, _, SqL.of f9⟩, T8.ext e9, fun HJ2 eJ2 TJ2 => fun E2 Q2 HK2 eK2 hE2 hV2 => ?_⟩
      have x9 : LamX.ExtN H9 HK2 := eJ2.trans (.of eK2)
      have x79 : LamX.ExtN H7 HK2 := (x8.trans (.of e9)).trans x9
      refine ⟨rfl, _, rfl, .inr ⟨.int 2, y, y, D, rfl, (tv7.ext (vis_extN x79)).ext vis_ext, odd_no D hD, told hE2 fun t2 H10 e10 f10 => ?_, .inl rfl⟩⟩
      have x10 : LamX.ExtN H9 H10 := x9.trans (.of e10)
      have T10 := TJ2.ext (eK2.trans e10)
      have hp10 := (hp8.ext e9).extN x10
      have fU := x10 _ _ f9 fun ps z => nomatch z
      have f8 := x10 _ _ (e9 _ _ f8) fun ps z => nomatch z
      have r10 := (r8.ext e9).extN x10
      refine ⟨U, _, .ref t2, rfl, rfl, fU, (by show 1 < sizeLine; decide), ?_⟩
      have nt1 : t1 ≠ U := fun z => by rw [z, fU] at f8; cases f8
      have nt2 : t2 ≠ U := fun z => by rw [z, fU] at f10; cases f10
      have T11 := tabs_lst (o := .lst ([.ref t1] ++ [.ref t2])) T10 fU
      have hp11 := hp10.upd (o := .lst ([.ref t1] ++ [.ref t2])) npU ncU
      have r11 := r10.updL (o := .lst ([.ref t1] ++ [.ref t2])) fU
      have tv11 : TV (vis ([] ++ [U]) (upd H10 U (.lst ([.ref t1] ++ [.ref t2])))) y D := by
        rw [vis_upd (by simp)]
        exact (((tv7.ext (vis_extN x8)).ext (vis_add nU)).ext (vis_mono e9)).ext (vis_extN x10)
      have g0 : (upd H10 U (.lst ([.ref t1] ++ [.ref t2]))) U = some (.lst [.ref t1, .ref t2]) := upd_same
      have g1 : (upd H10 U (.lst ([.ref t1] ++ [.ref t2]))) t1 = some (.tup [.str "number", y]) := by rw [upd_ne nt1]; exact f8
      have g2 : (upd H10 U (.lst ([.ref t1] ++ [.ref t2]))) t2 = some (.tup [.str "number", y]) := by rw [upd_ne nt2]; exact f10
      generalize (upd H10 U (.lst ([.ref t1] ++ [.ref t2]))) = H11 at T11 hp11 r11 tv11 g0 g1 g2
      have tv11 := tv11.ext vis_ext
      obtain ⟨s1, s2, s3⟩ := nice2_all D (List.mem_append_left _ hD)
      clear fU f8 f10 r10 hp10 T10 told tv7 tv r7 hp7 T7 r8 hp8 T8
      refine ⟨fun σ H' => ∃ x2 x3 x4 x5 x6 x7 x8 x9, σ = [some (.ref a), some (.ref p), x2, x3, x4, x5, x6, x7, x8, x9] ∧ PenAt H' p c (i * 100 + 70) ∧ LamX.Tabs TT H', ?_, ?_⟩
      · refine ⟨_, rfl, .ref U, _, rfl, .lst g0 (.cons (.tup g1 (.cons (.str _) (.cons tv11 .nil))) (.cons (.tup g2 (.cons (.str _) (.cons tv11 .nil))) .nil)), s1, s2, Nat.le_trans s3 (by decide), ?_⟩
        refine ⟨_, rfl, (by show 2 ≤ sizeLine; decide), fun b1 n1 => ?_⟩
        have e12 : Ext H11 (upd H11 b1 (.tup [.str "number", y])) := Ext.upd n1
        have k1 : (upd H11 b1 (.tup [.str "number", y])) b1 = some (.tup [.str "number", y]) := upd_same
        generalize (upd H11 b1 (.tup [.str "number", y])) = H12 at e12 k1
        refine ⟨(by show 1 ≤ sizeLine; decide), fun b2 n2 => ?_⟩
        have e13 := Ext.upd (o := .lst [.ref b1]) n2
        refine ⟨b2, 2, _, rfl, rfl, upd_same, (by decide), (by decide), (by show 1 * 2 ≤ sizeLine; decide), fun b3 n3 => ?_⟩
        have e14 := Ext.upd (o := .lst (List.replicate (2 : Int).toNat [V.ref b1]).flatten) n3
        have e1214 := e12.trans (e13.trans e14)
        have k1 := (e13.trans e14) _ _ k1
        refine ⟨.ref b3, .list [.tuple [.str "number", D], .tuple [.str "number", D]], rfl, .lst (xs := [.ref b1, .ref b1]) upd_same (.cons (.tup k1 (.cons (.str _) (.cons (tv11.ext e1214) .nil))) (.cons (.tup k1 (.cons (.str _) (.cons (tv11.ext e1214) .nil))) .nil)), s1, s2, Nat.le_trans s3 (by decide), rfl, _, rfl, iteNo (by rw [decide_eq_true rfl]; rfl) ?_⟩
        have r15 := r11.ext e1214
        have hp15 := hp11.ext e1214
        have T15 := T11.ext e1214
        generalize (upd (upd H12 b2 (.lst [V.ref b1])) b3 (.lst (List.replicate (2 : Int).toNat [V.ref b1]).flatten)) = H15 at r15 hp15 T15
        refine ⟨rfl, _, rfl, .ref CR, f034, 1, 2, 3, congrArg (fun z => [V.ref CR, V.str z]) txt2.symm, r15.can, (by decide), fun n hn => ?_, (by decide), fun ar H16 e16 r16 => ⟨_, rfl, ne_row hC C r16 (r15.ext e16) rfl ⟨_, rfl, iteF ?_⟩⟩⟩
        · match n, hn with
          | 0, _ => decide +kernel
          | 1, _ => decide +kernel
          | 2, _ => decide +kernel
        exact ⟨_, _, _, _, _, _, _, _, rfl, (hp15.ext e16).mono (by omega), T15.ext e16⟩
      clear g0 g1 g2 tv11 r11 hp11 T11 hp2 T2
      rintro σ H2 ⟨o2, o3, o4, o5, o6, o7, o8, o9, rfl, hp2, T2⟩
      refine ⟨T2, fun HJ eJ TJ => fun E' Q' HK eK hE hV => ?_⟩
      refine ⟨rfl, .inr ⟨.non, .str "1", .str "1", .str "1", rfl, .str _, rfl, fun dd H4 e4 n4 => ?_, .inl rfl⟩⟩
      refine hE _ _ _ (.inl ⟨dd, .str "1", rfl, rfl, nw_ext _ _ n4, fun t2 H5 e5 n5 => ?_⟩)
      have f5 := nw_ext _ _ n5
      have e45 := eK.trans (e4.trans e5)
      refine ⟨(by show 2 ≤ sizeLine; decide), fun v nv => ?_⟩
      have e6 := Ext.upd (o := .tup [.str "number", .str "1"]) nv
      refine ⟨.tuple [.str "number", .str "1"], .tuple [.str "number", .str "1"], .tup (SqT.of (e6 _ _ f5)) (.cons (.str _) (.cons (.str _) .nil)), .tup (SqT.of upd_same) (.cons (.str _) (.cons (.str _) .nil)), (by decide +kernel), (by decide +kernel), _, rfl, iteNo (by decide +kernel) ?_⟩
      exact ⟨_, _, _, _, _, _, _, _, rfl, (((hp2.extN eJ).ext e45).ext e6).mono (by omega), (TJ.ext e45).ext e6⟩
    · rintro σ H2 ⟨o2, o3, o4, o5, o6, o7, o8, o9, rfl, hp2, T2⟩
      exact ⟨_, rfl, p, c, _, rfl, hp2, by omega, T2, fun H' => k _⟩
end
end K10
end
section
set_option Elab.async false
set_option autoImplicit false
set_option linter.all false
set_option maxRecDepth 100000
set_option maxHeartbeats 4000000
namespace K10
open PySem PySem.Spec PyProof.Rows L2 Ls
open C8 (pss_cut tCut)
open TL
section
variable {P : Program} {w : World} {K : PySem.W.Frag} {mg : Str → Option Value} {base : Heap} {CE CN CT CB CR : Addr} {tM tP tF : Tok}
abbrev s_BadNumber_init : Stmt := inClass (top 2) 0
theorem sc_BadNumber_init : ScS ["self", "value"] ["self", "value"] (defScope s_BadNumber_init) := ⟨rfl, rfl, rfl, by decide +kernel, rfl, by decide +kernel, by decide +kernel, by decide +kernel⟩
theorem ok_BadNumber_init {f cda cc C : Addr} {fd : FuncData} (F : Ls.FunS K "__init__" "BadNumber.__init__" s_BadNumber_init f fd cda cc) (S : SupE P K mg C C cc cda) (no : PySem.W.findIn K (.ref C) "value" = some none) :
    FnOk P w K mg base CX0 1 f fd ["self", "value"] (spX C ["value"]) := by
  obtain ⟨oc, od, kV, doc, pm, an, ct, osl, rfl, lk, hcd⟩ := F.ex
  refine fn_superE (N := ["self", "value"]) lk hcd sc_BadNumber_init rfl rfl rfl rfl rfl (fun vs H Q E h => ?_) (fun A outer s H vs Q E hr h => ?_) (fun _ => rfl) (fun _ => rfl) (fun _ => rfl) (fun _ => rfl) (fun _ => rfl)
  · obtain ⟨a, ys, rfl, hl, _⟩ := h
    simpa using hl
  · obtain ⟨a, ys, rfl, hl, ha, k⟩ := h
    obtain ⟨y, rfl⟩ : ∃ y, ys = [y] := by
      match ys, hl with
      | [y], _ => exact ⟨y, rfl⟩
    refine ⟨a, C, C, [y], _, _, rfl, ha, S, pa_cons pe_str pa_nil, pss_one (ps_ost (pv 0) (pv 1) rfl), ?_⟩
    refine ⟨(by show 1 ≤ 1000; decide), ha, _, rfl, _, rfl, a, C, rfl, S.oex, no, .inl ⟨ha, fun dx n ne => ?_⟩⟩
    refine k dx _ n ne upd_same (by rw [upd_ne ne]; exact upd_same) fun b h1 h2 => ?_
    rw [upd_ne h1, upd_ne h2]
abbrev s_TooMany_init : Stmt := inClass (top 4) 0
theorem sc_TooMany_init : ScS ["self", "most"] ["self", "most"] (defScope s_TooMany_init) := ⟨rfl, rfl, rfl, by decide +kernel, rfl, by decide +kernel, by decide +kernel, by decide +kernel⟩
theorem ok_TooMany_init {f cda cc C : Addr} {fd : FuncData} (F : Ls.FunS K "__init__" "TooMany.__init__" s_TooMany_init f fd cda cc) (S : SupE P K mg C C cc cda) (no : PySem.W.findIn K (.ref C) "most" = some none) :
    FnOk P w K mg base CX0 1 f fd ["self", "most"] (spX C ["most"]) := by
  obtain ⟨oc, od, kV, doc, pm, an, ct, osl, rfl, lk, hcd⟩ := F.ex
  refine fn_superE (N := ["self", "most"]) lk hcd sc_TooMany_init rfl rfl rfl rfl rfl (fun vs H Q E h => ?_) (fun A outer s H vs Q E hr h => ?_) (fun _ => rfl) (fun _ => rfl) (fun _ => rfl) (fun _ => rfl) (fun _ => rfl)
  · obtain ⟨a, ys, rfl, hl, _⟩ := h
    simpa using hl
  · obtain ⟨a, ys, rfl, hl, ha, k⟩ := h
    obtain ⟨y, rfl⟩ : ∃ y, ys = [y] := by
      match ys, hl with
      | [y], _ => exact ⟨y, rfl⟩
    refine ⟨a, C, C, [y], _, _, rfl, ha, S, pa_cons pe_str pa_nil, pss_one (ps_ost (pv 0) (pv 1) rfl), ?_⟩
    refine ⟨(by show 1 ≤ 1000; decide), ha, _, rfl, _, rfl, a, C, rfl, S.oex, no, .inl ⟨ha, fun dx n ne => ?_⟩⟩
    refine k dx _ n ne upd_same (by rw [upd_ne ne]; exact upd_same) fun b h1 h2 => ?_
    rw [upd_ne h1, upd_ne h2]
end
end K10
end
section
set_option Elab.async false
set_option linter.all false
set_option maxRecDepth 100000
set_option maxHeartbeats 8000000
namespace K10
open PySem PySem.Spec PyProof.Rows L2 Ls RowM
theorem all_mk {l : PySem.W.OpenLaw} {w : World} {K : PySem.W.Frag} {q : Program} {h : Heap} {mg : Str → Option Value} {fa : Addr} (X : K.In h) (G : h.Ns mainGlobals mg) (hfa : mg "law" = some (.ref fa))
    (ow : ∀ (x : Str) (fx : Addr), ((recsOf q).any fun e => e.name == x) = true → mg x = some (.ref fx) → LamX.OwnTab K fx h)
    {CE : Addr}
    {tM tP tF : Tok} {zF : Str}
    {vP : Int}
    {CB : Addr}
    {CN : Addr}
    {CT : Addr}
    {fN_ ccN cdaN : Addr} {clN cclN : Value} {cldN cddN : Option Addr} {cslN ccsN : Array (Option Value)} {vsN : Array Value} {fileN : Str} {tfN : Tok} {cdatN : ClassData}
    {xnmN xqN : Str} {xNN : Addr} {xbsN xbmN xsubN : List Value} {xsnN : List Str} {xabN : Bool} {xcolN : Option Bool} {xddN : Option Addr} {xaN xbN xcN xdN xeN : Option Value}
    {odIN anIN : Option Addr} {slIN : Array (Option Value)} {ocIN kVIN dcIN pmIN ctIN : Value}
    {fT_ ccT cdaT : Addr} {clT cclT : Value} {cldT cddT : Option Addr} {cslT ccsT : Array (Option Value)} {vsT : Array Value} {fileT : Str} {tfT : Tok} {cdatT : ClassData}
    {xnmT xqT : Str} {xNT : Addr} {xbsT xbmT xsubT : List Value} {xsnT : List Str} {xabT : Bool} {xcolT : Option Bool} {xddT : Option Addr} {xaT xbT xcT xdT xeT : Option Value}
    {odIT anIT : Option Addr} {slIT : Array (Option Value)} {ocIT kVIT dcIT pmIT ctIT : Value}
    {CR fR_ : Addr}
    {odRI anRI : Option Addr} {slRI : Array (Option Value)} {ocRI kVRI dcRI pmRI ctRI : Value}
    {cdRI : Value}
    {fG : Addr}
    {odG anG : Option Addr} {slG : Array (Option Value)} {ocG kVG dcG pmG ctG : Value}
    {cdG : Value}
    {fE : Addr}
    {odE anE : Option Addr} {slE : Array (Option Value)} {ocE kVE dcE pmE ctE : Value}
    {cdE : Value}
    {fV : Addr}
    {odV anV : Option Addr} {slV : Array (Option Value)} {ocV kVV dcV pmV ctV : Value}
    {cdV : Value}
    {fM : Addr}
    {odM anM : Option Addr} {slM : Array (Option Value)} {ocM kVM dcM pmM ctM : Value}
    {cdM : Value}
    {fT : Addr}
    {odT anT : Option Addr} {slT : Array (Option Value)} {ocT kVT dcT pmT ctT : Value}
    {cdT : Value}
    {fO : Addr}
    {odO anO : Option Addr} {slO : Array (Option Value)} {ocO kVO dcO pmO ctO : Value}
    {cdO : Value}
    {fI : Addr}
    {odI anI : Option Addr} {slI : Array (Option Value)} {ocI kVI dcI pmI ctI : Value}
    {cdI : Value}
    {p_start g_start : Addr} {rest_start : List Value}
    {odPstart anPstart : Option Addr} {slPstart : Array (Option Value)} {ocPstart kVPstart dcPstart pmPstart ctPstart : Value}
    {cdPstart : Value}
    {p_period g_period : Addr} {rest_period : List Value}
    {odPperiod anPperiod : Option Addr} {slPperiod : Array (Option Value)} {ocPperiod kVPperiod dcPperiod pmPperiod ctPperiod : Value}
    {cdPperiod : Value}
    {p_step g_step : Addr} {rest_step : List Value}
    {odPstep anPstep : Option Addr} {slPstep : Array (Option Value)} {ocPstep kVPstep dcPstep pmPstep ctPstep : Value}
    {cdPstep : Value}
    {p_first g_first : Addr} {rest_first : List Value}
    {odPfirst anPfirst : Option Addr} {slPfirst : Array (Option Value)} {ocPfirst kVPfirst dcPfirst pmPfirst ctPfirst : Value}
    {cdPfirst : Value}
    {CPr : Addr}
    {mcR : Value}
    {fC pC : Addr} {restC : List Value}
    {odC anC : Option Addr} {slC : Array (Option Value)} {ocC kVC dcC pmC ctC : Value}
    {cdC : Value}
    {fX pX : Addr} {restX : List Value}
    {odX anX : Option Addr} {slX : Array (Option Value)} {ocX kVX dcX pmX ctX : Value}
    {cdX : Value}
    {tMo : Tok}
    {f_is_integer : Addr}
    {od_is_integer an_is_integer : Option Addr} {sl_is_integer : Array (Option Value)} {oc_is_integer kV_is_integer dc_is_integer pm_is_integer ct_is_integer : Value}
    {cd_is_integer : Value}
    {f_goes_on : Addr}
    {od_goes_on an_goes_on : Option Addr} {sl_goes_on : Array (Option Value)} {oc_goes_on kV_goes_on dc_goes_on pm_goes_on ct_goes_on : Value}
    {cd_goes_on : Value}
    {f_least_period : Addr}
    {od_least_period an_least_period : Option Addr} {sl_least_period : Array (Option Value)} {oc_least_period kV_least_period dc_least_period pm_least_period ct_least_period : Value}
    {cd_least_period : Value}
    {f_settled : Addr}
    {od_settled an_settled : Option Addr} {sl_settled : Array (Option Value)} {oc_settled kV_settled dc_settled pm_settled ct_settled : Value}
    {cd_settled : Value}
    {f_need_from : Addr}
    {od_need_from an_need_from : Option Addr} {sl_need_from : Array (Option Value)} {oc_need_from kV_need_from dc_need_from pm_need_from ct_need_from : Value}
    {cd_need_from : Value}
    {f_divisor : Addr}
    {od_divisor an_divisor : Option Addr} {sl_divisor : Array (Option Value)} {oc_divisor kV_divisor dc_divisor pm_divisor ct_divisor : Value}
    {cd_divisor : Value}
    {f_greater : Addr}
    {od_greater an_greater : Option Addr} {sl_greater : Array (Option Value)} {oc_greater kV_greater dc_greater pm_greater ct_greater : Value}
    {cd_greater : Value}
    {f_multiple : Addr}
    {od_multiple an_multiple : Option Addr} {sl_multiple : Array (Option Value)} {oc_multiple kV_multiple dc_multiple pm_multiple ct_multiple : Value}
    {cd_multiple : Value}
    {f_step_over : Addr}
    {od_step_over an_step_over : Option Addr} {sl_step_over : Array (Option Value)} {oc_step_over kV_step_over dc_step_over pm_step_over ct_step_over : Value}
    {cd_step_over : Value}
    {f_frame : Addr}
    {od_frame an_frame : Option Addr} {sl_frame : Array (Option Value)} {oc_frame kV_frame dc_frame pm_frame ct_frame : Value}
    {cd_frame : Value}
    {f_figures_of : Addr}
    {od_figures_of an_figures_of : Option Addr} {sl_figures_of : Array (Option Value)} {oc_figures_of kV_figures_of dc_figures_of pm_figures_of ct_figures_of : Value}
    {cd_figures_of : Value}
    {f_is_integer_text : Addr}
    {od_is_integer_text an_is_integer_text : Option Addr} {sl_is_integer_text : Array (Option Value)} {oc_is_integer_text kV_is_integer_text dc_is_integer_text pm_is_integer_text ct_is_integer_text : Value}
    {cd_is_integer_text : Value}
    {f_number_of : Addr}
    {od_number_of an_number_of : Option Addr} {sl_number_of : Array (Option Value)} {oc_number_of kV_number_of dc_number_of pm_number_of ct_number_of : Value}
    {cd_number_of : Value}
    {f_row_of : Addr}
    {od_row_of an_row_of : Option Addr} {sl_row_of : Array (Option Value)} {oc_row_of kV_row_of dc_row_of pm_row_of ct_row_of : Value}
    {cd_row_of : Value}
    {f__law_pen : Addr}
    {od__law_pen an__law_pen : Option Addr} {sl__law_pen : Array (Option Value)} {oc__law_pen kV__law_pen dc__law_pen pm__law_pen ct__law_pen : Value}
    {cd__law_pen : Value}
    {f__law_draw : Addr}
    {od__law_draw an__law_draw : Option Addr} {sl__law_draw : Array (Option Value)} {oc__law_draw kV__law_draw dc__law_draw pm__law_draw ct__law_draw : Value}
    {cd__law_draw : Value}
    {f__law_pick : Addr}
    {od__law_pick an__law_pick : Option Addr} {sl__law_pick : Array (Option Value)} {oc__law_pick kV__law_pick dc__law_pick pm__law_pick ct__law_pick : Value}
    {cd__law_pick : Value}
    {f__law_heard : Addr}
    {od__law_heard an__law_heard : Option Addr} {sl__law_heard : Array (Option Value)} {oc__law_heard kV__law_heard dc__law_heard pm__law_heard ct__law_heard : Value}
    {cd__law_heard : Value}
    {f__law_odd : Addr}
    {od__law_odd an__law_odd : Option Addr} {sl__law_odd : Array (Option Value)} {oc__law_odd kV__law_odd dc__law_odd pm__law_odd ct__law_odd : Value}
    {cd__law_odd : Value}
    {f__law_parts : Addr}
    {od__law_parts an__law_parts : Option Addr} {sl__law_parts : Array (Option Value)} {oc__law_parts kV__law_parts dc__law_parts pm__law_parts ct__law_parts : Value}
    {cd__law_parts : Value}
    {f__law_wide : Addr}
    {od__law_wide an__law_wide : Option Addr} {sl__law_wide : Array (Option Value)} {oc__law_wide kV__law_wide dc__law_wide pm__law_wide ct__law_wide : Value}
    {cd__law_wide : Value}
    {f__law_bounds_right : Addr}
    {q1 P1 : Addr} {qd1 : Option Addr} {qv1 : Array Value} {qs1 : Array (Option Value)} {qf1 : Str} {qt1 qg1 qh1 : Tok} {qi1 qj1 : Int} {qb1 : Bool}
    {od__law_bounds_right an__law_bounds_right : Option Addr} {sl__law_bounds_right : Array (Option Value)} {oc__law_bounds_right kV__law_bounds_right dc__law_bounds_right pm__law_bounds_right ct__law_bounds_right : Value}
    {f_law : Addr}
    {q2 P2 : Addr} {qd2 : Option Addr} {qv2 : Array Value} {qs2 : Array (Option Value)} {qf2 : Str} {qt2 qg2 qh2 : Tok} {qi2 qj2 : Int} {qb2 : Bool}
    {od_law an_law : Option Addr} {sl_law : Array (Option Value)} {oc_law kV_law dc_law pm_law ct_law : Value}
    (b0 : PySem.W.nsIn K mainGlobals "len" = some none)
    (b1 : PySem.W.nsIn K mainGlobals "int" = some none)
    (b2 : PySem.W.nsIn K mainGlobals "abs" = some none)
    (b3 : PySem.W.nsIn K mainGlobals "list" = some none)
    (b4 : PySem.W.nsIn K mainGlobals "isinstance" = some none)
    (b5 : PySem.W.nsIn K mainGlobals "all" = some none)
    (b6 : PySem.W.nsIn K mainGlobals "range" = some none)
    (b7 : PySem.W.nsIn K mainGlobals "tuple" = some none)
    (b8 : PySem.W.nsIn K mainGlobals "super" = some none)
    (b9 : PySem.W.nsIn K mainGlobals "repr" = some none)
    (b10 : PySem.W.nsIn K mainGlobals "bool" = some none)
    (b11 : PySem.W.nsIn K mainGlobals "str" = some none)
    (b12 : PySem.W.nsIn K mainGlobals "max" = some none)
    (b13 : PySem.W.nsIn K mainGlobals "ValueError" = some none)
    (hn : PySem.W.specialIn K (.builtin "object.__class__") "__get__" = some (some (.builtin "getset_descriptor.__get__")))
    (htk : PySem.W.takesIn K (.builtin "object.__class__") = some true)
    (any_ : PySem.W.nsIn K cStatics "thirdparty.any" = some none)
    (top_ : (l.prog.main.scope.names.lookup ("super" : Str)).isSome = false)
    (gCE : PySem.W.nsIn K mainGlobals "StowError" = some (some (.ref CE)))
    (eE1 : PySem.W.subIn K (.ref CE) (.type "BaseException") = some true)
    (eE2 : PySem.W.hasDictIn K CE = true)
    (eE3 : PySem.W.typeIn K (.ref CE) = some (.type "type"))
    (gM : PySem.W.nsIn K mainGlobals "MOST_NUMBERS" = some (some (.int 2000 tM)))
    (gP : PySem.W.nsIn K mainGlobals "PIECE" = some (some (.int vP tP)))
    (eP : vP = 10 ^ 60)
    (gF : PySem.W.nsIn K mainGlobals "FIGURES" = some (some (.str zF tF)))
    (eF : zF = "0123456789")
    (gB_ : PySem.W.nsIn K mainGlobals "BadText" = some (some (.ref CB)))
    (gN_ : PySem.W.nsIn K mainGlobals "BadNumber" = some (some (.ref CN)))
    (xoN : K.lookup CN = some (excClassObj xnmN xqN CN xNN xbsN xbmN true xsnN xsubN xabN xcolN xddN xaN xbN xcN xdN xeN "ValueError.__new__"))
    (xrN : PySem.HandSPX.refsVE xbmN = true)
    (saN : PySem.W.findIn K (.ref CN) "__setattr__" = some (some (.builtin "object.__setattr__")))
    (beN : PySem.W.subIn K (.ref CN) (.type "BaseException") = some true)
    (tyN : PySem.W.typeIn K (.ref CN) = some (.type "type"))
    (kpN : PySem.W.keepIn K (.ref CN) = true)
    (inN : PySem.W.findIn K (.ref CN) "__init__" = some (some (.ref fN_)))
    (tf_N : PySem.W.typeIn K (.ref fN_) = some (.type "function"))
    (lIN : K.lookup fN_ = some ⟨ocIN, odIN, .func (PySem.W.ksFn "__init__" "BadNumber.__init__" (defArgs s_BadNumber_init) (defBody s_BadNumber_init) (defScope s_BadNumber_init) .none kVIN dcIN pmIN anIN (.ref cdaN) ctIN ccN), slIN⟩)
    (cIN : PySem.W.codeIn K (.ref cdaN) "BadNumber.__init__" = true)
    (kIN : PySem.W.keepIn K (.ref fN_) = true)
    (ceN : K.lookup ccN = some ⟨clN, cldN, .cell (some (.ref CN)), cslN⟩)
    (coN : K.lookup cdaN = some ⟨cclN, cddN, .fields vsN, ccsN⟩)
    (v2N : vsN[2]? = some (.str fileN tfN))
    (flN : ((l.prog.main.file : Str) == fileN) = true)
    (cd_N : PySem.W.clsIn K CN = some cdatN)
    (sbN : PySem.W.mroIn K CN (.ref CN) = some true)
    (svN : PySem.W.mroIn K CN (.type "ValueError") = some true)
    (fd_N : PySem.W.ks_superIn K CN CN "__init__" = some (some (.builtin "ValueError.__init__")))
    (noN_value : PySem.W.findIn K (.ref CN) "value" = some none)
    (suN : PySem.W.subIn K (.ref CN) (.ref CE) = some true)
    (xgN : PySem.W.findIn K (.ref CN) "__getattribute__" = some (some (.builtin "BaseException.__getattribute__")))
    (xkN : PySem.W.findIn K (.ref CN) "__getattr__" = some none)
    (hdN : PySem.W.hasDictIn K CN = true)
    (haN : PySem.W.findIn K (.ref CN) "__class__" = some (some (.builtin "object.__class__")))
    (hmN : PySem.W.mroIn K CN (.type "object") = some true)
    (gT_ : PySem.W.nsIn K mainGlobals "TooMany" = some (some (.ref CT)))
    (xoT : K.lookup CT = some (excClassObj xnmT xqT CT xNT xbsT xbmT true xsnT xsubT xabT xcolT xddT xaT xbT xcT xdT xeT "ValueError.__new__"))
    (xrT : PySem.HandSPX.refsVE xbmT = true)
    (saT : PySem.W.findIn K (.ref CT) "__setattr__" = some (some (.builtin "object.__setattr__")))
    (beT : PySem.W.subIn K (.ref CT) (.type "BaseException") = some true)
    (tyT : PySem.W.typeIn K (.ref CT) = some (.type "type"))
    (kpT : PySem.W.keepIn K (.ref CT) = true)
    (inT : PySem.W.findIn K (.ref CT) "__init__" = some (some (.ref fT_)))
    (tf_T : PySem.W.typeIn K (.ref fT_) = some (.type "function"))
    (lIT : K.lookup fT_ = some ⟨ocIT, odIT, .func (PySem.W.ksFn "__init__" "TooMany.__init__" (defArgs s_TooMany_init) (defBody s_TooMany_init) (defScope s_TooMany_init) .none kVIT dcIT pmIT anIT (.ref cdaT) ctIT ccT), slIT⟩)
    (cIT : PySem.W.codeIn K (.ref cdaT) "TooMany.__init__" = true)
    (kIT : PySem.W.keepIn K (.ref fT_) = true)
    (ceT : K.lookup ccT = some ⟨clT, cldT, .cell (some (.ref CT)), cslT⟩)
    (coT : K.lookup cdaT = some ⟨cclT, cddT, .fields vsT, ccsT⟩)
    (v2T : vsT[2]? = some (.str fileT tfT))
    (flT : ((l.prog.main.file : Str) == fileT) = true)
    (cd_T : PySem.W.clsIn K CT = some cdatT)
    (sbT : PySem.W.mroIn K CT (.ref CT) = some true)
    (svT : PySem.W.mroIn K CT (.type "ValueError") = some true)
    (fd_T : PySem.W.ks_superIn K CT CT "__init__" = some (some (.builtin "ValueError.__init__")))
    (noT_most : PySem.W.findIn K (.ref CT) "most" = some none)
    (suT : PySem.W.subIn K (.ref CT) (.ref CE) = some true)
    (xgT : PySem.W.findIn K (.ref CT) "__getattribute__" = some (some (.builtin "BaseException.__getattribute__")))
    (xkT : PySem.W.findIn K (.ref CT) "__getattr__" = some none)
    (hdT : PySem.W.hasDictIn K CT = true)
    (haT : PySem.W.findIn K (.ref CT) "__class__" = some (some (.builtin "object.__class__")))
    (hmT : PySem.W.mroIn K CT (.type "object") = some true)
    (gR_ : PySem.W.nsIn K mainGlobals "Row" = some (some (.ref CR)))
    (pgR : PySem.W.plainGet K CR Str.empty = true)
    (hdR : PySem.W.hasDictIn K CR = true)
    (poR : PySem.W.plainOver K CR = true)
    (saR : PySem.W.findIn K (.ref CR) "__setattr__" = some (some (.builtin "object.__setattr__")))
    (nR_told : PySem.W.findIn K (.ref CR) "told" = some none)
    (nR_many : PySem.W.findIn K (.ref CR) "many" = some none)
    (nR_gain : PySem.W.findIn K (.ref CR) "gain" = some none)
    (haR : PySem.W.findIn K (.ref CR) "__class__" = some (some (.builtin "object.__class__")))
    (hmR : PySem.W.mroIn K CR (.type "object") = some true)
    (mkR : PySem.W.makesIn K CR = true)
    (inR : PySem.W.findIn K (.ref CR) "__init__" = some (some (.ref fR_)))
    (fnR : PySem.W.isFn K (.ref fR_) = true)
    (kpR : PySem.W.keepIn K (.ref CR) = true)
    (lRI : K.lookup fR_ = some ⟨ocRI, odRI, .func (PySem.W.fnOf "__init__" "Row.__init__" (defArgs s_Row_init) (defBody s_Row_init) (defScope s_Row_init) .none kVRI dcRI pmRI anRI cdRI ctRI), slRI⟩)
    (cRI : PySem.W.codeIn K cdRI "Row.__init__" = true)
    (kRI : PySem.W.keepIn K (.ref fR_) = true)
    (kRR : PySem.W.kitOne K (.ref CR) (.ref CR) = some true)
    (kRN : PySem.W.kitOne K (.type "int") (.ref CR) = some false)
    (neR : PySem.W.findIn K (.ref CR) "__ne__" = some (some (.builtin "object.__ne__")))
    (nfR : PySem.W.notFirst K CR (.ref CR) = true)
    (sfR : PySem.W.selfFirst K CR = true)
    (aG : PySem.W.findIn K (.ref CR) "__getitem__" = some (some (.ref fG)))
    (iG : PySem.W.isFn K (.ref fG) = true)
    (lG : K.lookup fG = some ⟨ocG, odG, .func (PySem.W.fnOf "__getitem__" "Row.__getitem__" (defArgs s_Row_getitem) (defBody s_Row_getitem) (defScope s_Row_getitem) .none kVG dcG pmG anG cdG ctG), slG⟩)
    (cG : PySem.W.codeIn K cdG "Row.__getitem__" = true)
    (kG : PySem.W.keepIn K (.ref fG) = true)
    (aE : PySem.W.findIn K (.ref CR) "__eq__" = some (some (.ref fE)))
    (iE : PySem.W.isFn K (.ref fE) = true)
    (lE : K.lookup fE = some ⟨ocE, odE, .func (PySem.W.fnOf "__eq__" "Row.__eq__" (defArgs s_Row_eq) (defBody s_Row_eq) (defScope s_Row_eq) .none kVE dcE pmE anE cdE ctE), slE⟩)
    (cE : PySem.W.codeIn K cdE "Row.__eq__" = true)
    (kE : PySem.W.keepIn K (.ref fE) = true)
    (aV : PySem.W.findIn K (.ref CR) "every" = some (some (.ref fV)))
    (iV : PySem.W.isFn K (.ref fV) = true)
    (lV : K.lookup fV = some ⟨ocV, odV, .func (PySem.W.fnOf "every" "Row.every" (defArgs s_Row_every) (defBody s_Row_every) (defScope s_Row_every) .none kVV dcV pmV anV cdV ctV), slV⟩)
    (cV : PySem.W.codeIn K cdV "Row.every" = true)
    (kV : PySem.W.keepIn K (.ref fV) = true)
    (aM : PySem.W.findIn K (.ref CR) "number" = some (some (.ref fM)))
    (iM : PySem.W.isFn K (.ref fM) = true)
    (lM : K.lookup fM = some ⟨ocM, odM, .func (PySem.W.fnOf "number" "Row.number" (defArgs s_Row_number) (defBody s_Row_number) (defScope s_Row_number) .none kVM dcM pmM anM cdM ctM), slM⟩)
    (cM : PySem.W.codeIn K cdM "Row.number" = true)
    (kM : PySem.W.keepIn K (.ref fM) = true)
    (aT : PySem.W.findIn K (.ref CR) "__str__" = some (some (.ref fT)))
    (iT : PySem.W.isFn K (.ref fT) = true)
    (lT : K.lookup fT = some ⟨ocT, odT, .func (PySem.W.fnOf "__str__" "Row.__str__" (defArgs s_Row_str) (defBody s_Row_str) (defScope s_Row_str) .none kVT dcT pmT anT cdT ctT), slT⟩)
    (cT : PySem.W.codeIn K cdT "Row.__str__" = true)
    (kT : PySem.W.keepIn K (.ref fT) = true)
    (aO : PySem.W.findIn K (.ref CR) "above" = some (some (.ref fO)))
    (iO : PySem.W.isFn K (.ref fO) = true)
    (lO : K.lookup fO = some ⟨ocO, odO, .func (PySem.W.fnOf "above" "Row.above" (defArgs s_Row_above) (defBody s_Row_above) (defScope s_Row_above) .none kVO dcO pmO anO cdO ctO), slO⟩)
    (cO : PySem.W.codeIn K cdO "Row.above" = true)
    (kO : PySem.W.keepIn K (.ref fO) = true)
    (aI : PySem.W.findIn K (.ref CR) "numbers" = some (some (.ref fI)))
    (iI : PySem.W.isFn K (.ref fI) = true)
    (lI : K.lookup fI = some ⟨ocI, odI, .func (PySem.W.fnOf "numbers" "Row.numbers" (defArgs s_Row_numbers) (defBody s_Row_numbers) (defScope s_Row_numbers) .none kVI dcI pmI anI cdI ctI), slI⟩)
    (cI : PySem.W.codeIn K cdI "Row.numbers" = true)
    (kI : PySem.W.keepIn K (.ref fI) = true)
    (pa_start : PySem.W.findIn K (.ref CR) "start" = some (some (.ref p_start)))
    (pg_start : PySem.W.specialIn K (.ref p_start) "__get__" = some (some (.builtin "property.__get__")))
    (pt_start : PySem.W.takesIn K (.ref p_start) = some true)
    (pr_start : PySem.W.recIn K p_start "property" = some (.ref g_start :: rest_start))
    (lPstart : K.lookup g_start = some ⟨ocPstart, odPstart, .func (PySem.W.fnOf "start" "Row.start" (defArgs s_Row_start) (defBody s_Row_start) (defScope s_Row_start) .none kVPstart dcPstart pmPstart anPstart cdPstart ctPstart), slPstart⟩)
    (cPstart : PySem.W.codeIn K cdPstart "Row.start" = true)
    (kPstart : PySem.W.keepIn K (.ref g_start) = true)
    (pa_period : PySem.W.findIn K (.ref CR) "period" = some (some (.ref p_period)))
    (pg_period : PySem.W.specialIn K (.ref p_period) "__get__" = some (some (.builtin "property.__get__")))
    (pt_period : PySem.W.takesIn K (.ref p_period) = some true)
    (pr_period : PySem.W.recIn K p_period "property" = some (.ref g_period :: rest_period))
    (lPperiod : K.lookup g_period = some ⟨ocPperiod, odPperiod, .func (PySem.W.fnOf "period" "Row.period" (defArgs s_Row_period) (defBody s_Row_period) (defScope s_Row_period) .none kVPperiod dcPperiod pmPperiod anPperiod cdPperiod ctPperiod), slPperiod⟩)
    (cPperiod : PySem.W.codeIn K cdPperiod "Row.period" = true)
    (kPperiod : PySem.W.keepIn K (.ref g_period) = true)
    (pa_step : PySem.W.findIn K (.ref CR) "step" = some (some (.ref p_step)))
    (pg_step : PySem.W.specialIn K (.ref p_step) "__get__" = some (some (.builtin "property.__get__")))
    (pt_step : PySem.W.takesIn K (.ref p_step) = some true)
    (pr_step : PySem.W.recIn K p_step "property" = some (.ref g_step :: rest_step))
    (lPstep : K.lookup g_step = some ⟨ocPstep, odPstep, .func (PySem.W.fnOf "step" "Row.step" (defArgs s_Row_step) (defBody s_Row_step) (defScope s_Row_step) .none kVPstep dcPstep pmPstep anPstep cdPstep ctPstep), slPstep⟩)
    (cPstep : PySem.W.codeIn K cdPstep "Row.step" = true)
    (kPstep : PySem.W.keepIn K (.ref g_step) = true)
    (pa_first : PySem.W.findIn K (.ref CR) "first" = some (some (.ref p_first)))
    (pg_first : PySem.W.specialIn K (.ref p_first) "__get__" = some (some (.builtin "property.__get__")))
    (pt_first : PySem.W.takesIn K (.ref p_first) = some true)
    (pr_first : PySem.W.recIn K p_first "property" = some (.ref g_first :: rest_first))
    (lPfirst : K.lookup g_first = some ⟨ocPfirst, odPfirst, .func (PySem.W.fnOf "first" "Row.first" (defArgs s_Row_first) (defBody s_Row_first) (defScope s_Row_first) .none kVPfirst dcPfirst pmPfirst anPfirst cdPfirst ctPfirst), slPfirst⟩)
    (cPfirst : PySem.W.codeIn K cdPfirst "Row.first" = true)
    (kPfirst : PySem.W.keepIn K (.ref g_first) = true)
    (kNN : PySem.W.kitOne K (.ref CN) (.ref CN) = some true)
    (kTT : PySem.W.kitOne K (.ref CT) (.ref CT) = some true)
    (kTN : PySem.W.kitOne K (.ref CT) (.ref CN) = some false)
    (kNV : PySem.W.kitOne K (.ref CN) (.type "ValueError") = some true)
    (nsN : PySem.W.subIn K (.ref CN) (.type "StopIteration") = some false)
    (gPr_ : PySem.W.nsIn K mainGlobals "BadPrice" = some (some (.ref CPr)))
    (fnG : PySem.W.fnIn K fG = true)
    (tyR : PySem.W.typeIn K (.ref CR) = some mcR)
    (rdR : PySem.W.readsIn K CR mcR = true)
    (gaR : PySem.W.specialIn K (.ref CR) "__getattribute__" = some (some (.builtin "type.__getattribute__")))
    (atC : PySem.W.findCls K (.ref CR) mcR "even" = some (.get (.builtin "staticmethod.__get__") (.ref pC) .none (.ref CR)))
    (rcC : PySem.W.recIn K pC "staticmethod" = some (.ref fC :: restC))
    (lC : K.lookup fC = some ⟨ocC, odC, .func (PySem.W.fnOf "even" "Row.even" (defArgs s_Row_even) (defBody s_Row_even) (defScope s_Row_even) .none kVC dcC pmC anC cdC ctC), slC⟩)
    (cC : PySem.W.codeIn K cdC "Row.even" = true)
    (kC : PySem.W.keepIn K (.ref fC) = true)
    (atX : PySem.W.findCls K (.ref CR) mcR "read" = some (.get (.builtin "classmethod.__get__") (.ref pX) .none (.ref CR)))
    (rcX : PySem.W.recIn K pX "classmethod" = some (.ref fX :: restX))
    (fiX : PySem.W.fnIn K fX = true)
    (lX : K.lookup fX = some ⟨ocX, odX, .func (PySem.W.fnOf "read" "Row.read" (defArgs s_Row_read) (defBody s_Row_read) (defScope s_Row_read) .none kVX dcX pmX anX cdX ctX), slX⟩)
    (cX : PySem.W.codeIn K cdX "Row.read" = true)
    (kX : PySem.W.keepIn K (.ref fX) = true)
    (moR : PySem.W.findCls K (.ref CR) mcR "MOST" = some (.val (.int 2000 tMo)))
    (a_is_integer : PySem.W.nsIn K mainGlobals "is_integer" = some (some (.ref f_is_integer)))
    (l_is_integer : K.lookup f_is_integer = some ⟨oc_is_integer, od_is_integer, .func (PySem.W.fnOf "is_integer" "is_integer" (defArgs s_is_integer) (defBody s_is_integer) (defScope s_is_integer) .none kV_is_integer dc_is_integer pm_is_integer an_is_integer cd_is_integer ct_is_integer), sl_is_integer⟩)
    (c_is_integer : PySem.W.codeIn K cd_is_integer "is_integer" = true)
    (k_is_integer : PySem.W.keepIn K (.ref f_is_integer) = true)
    (a_goes_on : PySem.W.nsIn K mainGlobals "goes_on" = some (some (.ref f_goes_on)))
    (l_goes_on : K.lookup f_goes_on = some ⟨oc_goes_on, od_goes_on, .func (PySem.W.fnOf "goes_on" "goes_on" (defArgs s_goes_on) (defBody s_goes_on) (defScope s_goes_on) .none kV_goes_on dc_goes_on pm_goes_on an_goes_on cd_goes_on ct_goes_on), sl_goes_on⟩)
    (c_goes_on : PySem.W.codeIn K cd_goes_on "goes_on" = true)
    (k_goes_on : PySem.W.keepIn K (.ref f_goes_on) = true)
    (a_least_period : PySem.W.nsIn K mainGlobals "least_period" = some (some (.ref f_least_period)))
    (l_least_period : K.lookup f_least_period = some ⟨oc_least_period, od_least_period, .func (PySem.W.fnOf "least_period" "least_period" (defArgs s_least_period) (defBody s_least_period) (defScope s_least_period) .none kV_least_period dc_least_period pm_least_period an_least_period cd_least_period ct_least_period), sl_least_period⟩)
    (c_least_period : PySem.W.codeIn K cd_least_period "least_period" = true)
    (k_least_period : PySem.W.keepIn K (.ref f_least_period) = true)
    (a_settled : PySem.W.nsIn K mainGlobals "settled" = some (some (.ref f_settled)))
    (l_settled : K.lookup f_settled = some ⟨oc_settled, od_settled, .func (PySem.W.fnOf "settled" "settled" (defArgs s_settled) (defBody s_settled) (defScope s_settled) .none kV_settled dc_settled pm_settled an_settled cd_settled ct_settled), sl_settled⟩)
    (c_settled : PySem.W.codeIn K cd_settled "settled" = true)
    (k_settled : PySem.W.keepIn K (.ref f_settled) = true)
    (a_need_from : PySem.W.nsIn K mainGlobals "need_from" = some (some (.ref f_need_from)))
    (l_need_from : K.lookup f_need_from = some ⟨oc_need_from, od_need_from, .func (PySem.W.fnOf "need_from" "need_from" (defArgs s_need_from) (defBody s_need_from) (defScope s_need_from) .none kV_need_from dc_need_from pm_need_from an_need_from cd_need_from ct_need_from), sl_need_from⟩)
    (c_need_from : PySem.W.codeIn K cd_need_from "need_from" = true)
    (k_need_from : PySem.W.keepIn K (.ref f_need_from) = true)
    (a_divisor : PySem.W.nsIn K mainGlobals "divisor" = some (some (.ref f_divisor)))
    (l_divisor : K.lookup f_divisor = some ⟨oc_divisor, od_divisor, .func (PySem.W.fnOf "divisor" "divisor" (defArgs s_divisor) (defBody s_divisor) (defScope s_divisor) .none kV_divisor dc_divisor pm_divisor an_divisor cd_divisor ct_divisor), sl_divisor⟩)
    (c_divisor : PySem.W.codeIn K cd_divisor "divisor" = true)
    (k_divisor : PySem.W.keepIn K (.ref f_divisor) = true)
    (a_greater : PySem.W.nsIn K mainGlobals "greater" = some (some (.ref f_greater)))
    (l_greater : K.lookup f_greater = some ⟨oc_greater, od_greater, .func (PySem.W.fnOf "greater" "greater" (defArgs s_greater) (defBody s_greater) (defScope s_greater) .none kV_greater dc_greater pm_greater an_greater cd_greater ct_greater), sl_greater⟩)
    (c_greater : PySem.W.codeIn K cd_greater "greater" = true)
    (k_greater : PySem.W.keepIn K (.ref f_greater) = true)
    (a_multiple : PySem.W.nsIn K mainGlobals "multiple" = some (some (.ref f_multiple)))
    (l_multiple : K.lookup f_multiple = some ⟨oc_multiple, od_multiple, .func (PySem.W.fnOf "multiple" "multiple" (defArgs s_multiple) (defBody s_multiple) (defScope s_multiple) .none kV_multiple dc_multiple pm_multiple an_multiple cd_multiple ct_multiple), sl_multiple⟩)
    (c_multiple : PySem.W.codeIn K cd_multiple "multiple" = true)
    (k_multiple : PySem.W.keepIn K (.ref f_multiple) = true)
    (a_step_over : PySem.W.nsIn K mainGlobals "step_over" = some (some (.ref f_step_over)))
    (l_step_over : K.lookup f_step_over = some ⟨oc_step_over, od_step_over, .func (PySem.W.fnOf "step_over" "step_over" (defArgs s_step_over) (defBody s_step_over) (defScope s_step_over) .none kV_step_over dc_step_over pm_step_over an_step_over cd_step_over ct_step_over), sl_step_over⟩)
    (c_step_over : PySem.W.codeIn K cd_step_over "step_over" = true)
    (k_step_over : PySem.W.keepIn K (.ref f_step_over) = true)
    (a_frame : PySem.W.nsIn K mainGlobals "frame" = some (some (.ref f_frame)))
    (l_frame : K.lookup f_frame = some ⟨oc_frame, od_frame, .func (PySem.W.fnOf "frame" "frame" (defArgs s_frame) (defBody s_frame) (defScope s_frame) .none kV_frame dc_frame pm_frame an_frame cd_frame ct_frame), sl_frame⟩)
    (c_frame : PySem.W.codeIn K cd_frame "frame" = true)
    (k_frame : PySem.W.keepIn K (.ref f_frame) = true)
    (a_figures_of : PySem.W.nsIn K mainGlobals "figures_of" = some (some (.ref f_figures_of)))
    (l_figures_of : K.lookup f_figures_of = some ⟨oc_figures_of, od_figures_of, .func (PySem.W.fnOf "figures_of" "figures_of" (defArgs s_figures_of) (defBody s_figures_of) (defScope s_figures_of) .none kV_figures_of dc_figures_of pm_figures_of an_figures_of cd_figures_of ct_figures_of), sl_figures_of⟩)
    (c_figures_of : PySem.W.codeIn K cd_figures_of "figures_of" = true)
    (k_figures_of : PySem.W.keepIn K (.ref f_figures_of) = true)
    (a_is_integer_text : PySem.W.nsIn K mainGlobals "is_integer_text" = some (some (.ref f_is_integer_text)))
    (l_is_integer_text : K.lookup f_is_integer_text = some ⟨oc_is_integer_text, od_is_integer_text, .func (PySem.W.fnOf "is_integer_text" "is_integer_text" (defArgs s_is_integer_text) (defBody s_is_integer_text) (defScope s_is_integer_text) .none kV_is_integer_text dc_is_integer_text pm_is_integer_text an_is_integer_text cd_is_integer_text ct_is_integer_text), sl_is_integer_text⟩)
    (c_is_integer_text : PySem.W.codeIn K cd_is_integer_text "is_integer_text" = true)
    (k_is_integer_text : PySem.W.keepIn K (.ref f_is_integer_text) = true)
    (a_number_of : PySem.W.nsIn K mainGlobals "number_of" = some (some (.ref f_number_of)))
    (l_number_of : K.lookup f_number_of = some ⟨oc_number_of, od_number_of, .func (PySem.W.fnOf "number_of" "number_of" (defArgs s_number_of) (defBody s_number_of) (defScope s_number_of) .none kV_number_of dc_number_of pm_number_of an_number_of cd_number_of ct_number_of), sl_number_of⟩)
    (c_number_of : PySem.W.codeIn K cd_number_of "number_of" = true)
    (k_number_of : PySem.W.keepIn K (.ref f_number_of) = true)
    (a_row_of : PySem.W.nsIn K mainGlobals "row_of" = some (some (.ref f_row_of)))
    (l_row_of : K.lookup f_row_of = some ⟨oc_row_of, od_row_of, .func (PySem.W.fnOf "row_of" "row_of" (defArgs s_row_of) (defBody s_row_of) (defScope s_row_of) .none kV_row_of dc_row_of pm_row_of an_row_of cd_row_of ct_row_of), sl_row_of⟩)
    (c_row_of : PySem.W.codeIn K cd_row_of "row_of" = true)
    (k_row_of : PySem.W.keepIn K (.ref f_row_of) = true)
    (a__law_pen : PySem.W.nsIn K mainGlobals "_law_pen" = some (some (.ref f__law_pen)))
    (l__law_pen : K.lookup f__law_pen = some ⟨oc__law_pen, od__law_pen, .func (PySem.W.fnOf "_law_pen" "_law_pen" (defArgs s__law_pen) (defBody s__law_pen) (defScope s__law_pen) .none kV__law_pen dc__law_pen pm__law_pen an__law_pen cd__law_pen ct__law_pen), sl__law_pen⟩)
    (c__law_pen : PySem.W.codeIn K cd__law_pen "_law_pen" = true)
    (k__law_pen : PySem.W.keepIn K (.ref f__law_pen) = true)
    (a__law_draw : PySem.W.nsIn K mainGlobals "_law_draw" = some (some (.ref f__law_draw)))
    (l__law_draw : K.lookup f__law_draw = some ⟨oc__law_draw, od__law_draw, .func (PySem.W.fnOf "_law_draw" "_law_draw" (defArgs s__law_draw) (defBody s__law_draw) (defScope s__law_draw) .none kV__law_draw dc__law_draw pm__law_draw an__law_draw cd__law_draw ct__law_draw), sl__law_draw⟩)
    (c__law_draw : PySem.W.codeIn K cd__law_draw "_law_draw" = true)
    (k__law_draw : PySem.W.keepIn K (.ref f__law_draw) = true)
    (a__law_pick : PySem.W.nsIn K mainGlobals "_law_pick" = some (some (.ref f__law_pick)))
    (l__law_pick : K.lookup f__law_pick = some ⟨oc__law_pick, od__law_pick, .func (PySem.W.fnOf "_law_pick" "_law_pick" (defArgs s__law_pick) (defBody s__law_pick) (defScope s__law_pick) .none kV__law_pick dc__law_pick pm__law_pick an__law_pick cd__law_pick ct__law_pick), sl__law_pick⟩)
    (c__law_pick : PySem.W.codeIn K cd__law_pick "_law_pick" = true)
    (k__law_pick : PySem.W.keepIn K (.ref f__law_pick) = true)
    (a__law_heard : PySem.W.nsIn K mainGlobals "_law_heard" = some (some (.ref f__law_heard)))
    (l__law_heard : K.lookup f__law_heard = some ⟨oc__law_heard, od__law_heard, .func (PySem.W.fnOf "_law_heard" "_law_heard" (defArgs s__law_heard) (defBody s__law_heard) (defScope s__law_heard) .none kV__law_heard dc__law_heard pm__law_heard an__law_heard cd__law_heard ct__law_heard), sl__law_heard⟩)
    (c__law_heard : PySem.W.codeIn K cd__law_heard "_law_heard" = true)
    (k__law_heard : PySem.W.keepIn K (.ref f__law_heard) = true)
    (a__law_odd : PySem.W.nsIn K mainGlobals "_law_odd" = some (some (.ref f__law_odd)))
    (l__law_odd : K.lookup f__law_odd = some ⟨oc__law_odd, od__law_odd, .func (PySem.W.fnOf "_law_odd" "_law_odd" (defArgs s__law_odd) (defBody s__law_odd) (defScope s__law_odd) .none kV__law_odd dc__law_odd pm__law_odd an__law_odd cd__law_odd ct__law_odd), sl__law_odd⟩)
    (c__law_odd : PySem.W.codeIn K cd__law_odd "_law_odd" = true)
    (k__law_odd : PySem.W.keepIn K (.ref f__law_odd) = true)
    (a__law_parts : PySem.W.nsIn K mainGlobals "_law_parts" = some (some (.ref f__law_parts)))
    (l__law_parts : K.lookup f__law_parts = some ⟨oc__law_parts, od__law_parts, .func (PySem.W.fnOf "_law_parts" "_law_parts" (defArgs s__law_parts) (defBody s__law_parts) (defScope s__law_parts) .none kV__law_parts dc__law_parts pm__law_parts an__law_parts cd__law_parts ct__law_parts), sl__law_parts⟩)
    (c__law_parts : PySem.W.codeIn K cd__law_parts "_law_parts" = true)
    (k__law_parts : PySem.W.keepIn K (.ref f__law_parts) = true)
    (a__law_wide : PySem.W.nsIn K mainGlobals "_law_wide" = some (some (.ref f__law_wide)))
    (l__law_wide : K.lookup f__law_wide = some ⟨oc__law_wide, od__law_wide, .func (PySem.W.fnOf "_law_wide" "_law_wide" (defArgs s__law_wide) (defBody s__law_wide) (defScope s__law_wide) .none kV__law_wide dc__law_wide pm__law_wide an__law_wide cd__law_wide ct__law_wide), sl__law_wide⟩)
    (c__law_wide : PySem.W.codeIn K cd__law_wide "_law_wide" = true)
    (k__law_wide : PySem.W.keepIn K (.ref f__law_wide) = true)
    (a__law_bounds_right : PySem.W.nsIn K mainGlobals "_law_bounds_right" = some (some (.ref f__law_bounds_right)))
    (l__law_bounds_right : K.lookup f__law_bounds_right = some ⟨oc__law_bounds_right, od__law_bounds_right, .func (PySem.W.fnOf "_law_bounds_right" "_law_bounds_right" (defArgs s__law_bounds_right) (defBody s__law_bounds_right) (defScope s__law_bounds_right) .none kV__law_bounds_right dc__law_bounds_right pm__law_bounds_right an__law_bounds_right (.ref q1) ct__law_bounds_right), sl__law_bounds_right⟩)
    (c__law_bounds_right : PySem.W.codeIn K (.ref q1) "_law_bounds_right" = true)
    (k__law_bounds_right : PySem.W.keepIn K (.ref f__law_bounds_right) = true)
    (qo1 : K.lookup q1 = some ⟨.type "code", qd1, .fields qv1, qs1⟩)
    (qp1 : qv1[11]? = some (.ref P1))
    (qr1 : qv1.getD 11 .none = .ref P1)
    (qs_1 : qv1.getD 18 .none = .str qf1 qt1)
    (qu1 : qv1.getD 7 .none = .int qi1 qg1)
    (qv_1 : qv1.getD 9 .none = .bool qb1)
    (qw1 : qv1.getD 10 .none = .int qj1 qh1)
    (qx1 : q1 ≠ P1)
    (qn1 : K.lookup P1 = none)
    (rc1 : ((recsOf q).any fun e => e.name == "_law_bounds_right") = true)
    (a_law : PySem.W.nsIn K mainGlobals "law" = some (some (.ref f_law)))
    (l_law : K.lookup f_law = some ⟨oc_law, od_law, .func (PySem.W.fnOf "law" "law" (defArgs s_law) (defBody s_law) (defScope s_law) .none kV_law dc_law pm_law an_law (.ref q2) ct_law), sl_law⟩)
    (c_law : PySem.W.codeIn K (.ref q2) "law" = true)
    (k_law : PySem.W.keepIn K (.ref f_law) = true)
    (qo2 : K.lookup q2 = some ⟨.type "code", qd2, .fields qv2, qs2⟩)
    (qp2 : qv2[11]? = some (.ref P2))
    (qr2 : qv2.getD 11 .none = .ref P2)
    (qs_2 : qv2.getD 18 .none = .str qf2 qt2)
    (qu2 : qv2.getD 7 .none = .int qi2 qg2)
    (qv_2 : qv2.getD 9 .none = .bool qb2)
    (qw2 : qv2.getD 10 .none = .int qj2 qh2)
    (qx2 : q2 ≠ P2)
    (qn2 : K.lookup P2 = none)
    (rc2 : ((recsOf q).any fun e => e.name == "law") = true)
    (qne12 : P1 ≠ P2) :
    LawG l w K CX0 15 63 "_law_script" mg fa h := by
  have e := hfa.symm.trans (PySem.W.mg_of X G a_law)
  cases e
  subst eP
  subst eF
  have T : Tx K mg CE CN CT CB CR tM tP tF := ⟨by
    intro x hx
    simp only [bns, List.mem_cons, List.not_mem_nil, or_false] at hx
    rcases hx with rfl | rfl | rfl | rfl | rfl | rfl | rfl | rfl | rfl | rfl | rfl | rfl | rfl | rfl
    · exact PySem.W.mg_none_of X G b0
    · exact PySem.W.mg_none_of X G b1
    · exact PySem.W.mg_none_of X G b2
    · exact PySem.W.mg_none_of X G b3
    · exact PySem.W.mg_none_of X G b4
    · exact PySem.W.mg_none_of X G b5
    · exact PySem.W.mg_none_of X G b6
    · exact PySem.W.mg_none_of X G b7
    · exact PySem.W.mg_none_of X G b8
    · exact PySem.W.mg_none_of X G b9
    · exact PySem.W.mg_none_of X G b10
    · exact PySem.W.mg_none_of X G b11
    · exact PySem.W.mg_none_of X G b12
    · exact PySem.W.mg_none_of X G b13, PySem.W.mg_of X G gM, PySem.W.mg_of X G gP, PySem.W.mg_of X G gF, PySem.W.mg_of X G gCE, PySem.W.mg_of X G gN_, PySem.W.mg_of X G gT_, PySem.W.mg_of X G gB_, PySem.W.mg_of X G gR_⟩
  have FSN : Ls.FunS K "__init__" "BadNumber.__init__" s_BadNumber_init fN_ _ cdaN ccN := ⟨⟨_, _, _, _, _, _, _, _, rfl, lIN, cIN⟩, kIN⟩
  have OXN : OexC K CN := ⟨⟨_, _, _, _, _, _, _, _, _, _, _, _, _, _, _, xoN, xrN⟩, saN, beN, tyN, kpN⟩
  have SEN : SupE l.prog K mg CN CN ccN cdaN := ⟨⟨_, _, _, ceN⟩, ⟨_, _, _, _, _, _, coN, v2N, flN⟩, ⟨_, cd_N⟩, sbN, svN, T.bn _ (by decide +kernel), top_, any_, fd_N, OXN⟩
  have exmN := PySem.W.exm_ref eE1 eE2 eE3 suN
  have ecN : ExcC K CN := ⟨xgN, xkN, beN, hdN, haN, hn, htk, hmN⟩
  have xfN : XfC K CN := ⟨xgN, xkN, beN, hdN⟩
  have FST : Ls.FunS K "__init__" "TooMany.__init__" s_TooMany_init fT_ _ cdaT ccT := ⟨⟨_, _, _, _, _, _, _, _, rfl, lIT, cIT⟩, kIT⟩
  have OXT : OexC K CT := ⟨⟨_, _, _, _, _, _, _, _, _, _, _, _, _, _, _, xoT, xrT⟩, saT, beT, tyT, kpT⟩
  have SET : SupE l.prog K mg CT CT ccT cdaT := ⟨⟨_, _, _, ceT⟩, ⟨_, _, _, _, _, _, coT, v2T, flT⟩, ⟨_, cd_T⟩, sbT, svT, T.bn _ (by decide +kernel), top_, any_, fd_T, OXT⟩
  have exmT := PySem.W.exm_ref eE1 eE2 eE3 suT
  have ecT : ExcC K CT := ⟨xgT, xkT, beT, hdT, haT, hn, htk, hmT⟩
  have xfT : XfC K CT := ⟨xgT, xkT, beT, hdT⟩
  have CL_R : Cls K CR := ⟨pgR, hdR, poR, saR⟩
  have hC : ClR K CR := ⟨CL_R, nR_told, nR_many, nR_gain⟩
  have RK : RowK K CR fE := ⟨haR, hn, htk, hmR, kRR, kRN, aE, neR, nfR, iE⟩
  have FRI := fun_mk (st := s_Row_init) lRI cRI kRI
  have BRI := FRI.binds (ps := ["self", "numbers", "period", "step"]) fun _ _ _ _ _ _ us hl => match us, hl with | [_, _, _, _], _ => rfl
  have MR : Mk K CR fR_ := ⟨mkR, inR, fnR, kpR⟩
  have FG := fun_mk (st := s_Row_getitem) lG cG kG
  have BG := FG.binds (ps := ["self", "n"]) fun _ _ _ _ _ _ us hl => match us, hl with | [_, _], _ => rfl
  have FE := fun_mk (st := s_Row_eq) lE cE kE
  have BE := FE.binds (ps := ["self", "other"]) fun _ _ _ _ _ _ us hl => match us, hl with | [_, _], _ => rfl
  have FV := fun_mk (st := s_Row_every) lV cV kV
  have BV := FV.binds (ps := ["self", "j"]) fun _ _ _ _ _ _ us hl => match us, hl with | [_, _], _ => rfl
  have FM := fun_mk (st := s_Row_number) lM cM kM
  have BM := FM.binds (ps := ["self", "n"]) fun _ _ _ _ _ _ us hl => match us, hl with | [_, _], _ => rfl
  have FT := fun_mk (st := s_Row_str) lT cT kT
  have BT := FT.binds (ps := ["self"]) fun _ _ _ _ _ _ us hl => match us, hl with | [_], _ => rfl
  have FO := fun_mk (st := s_Row_above) lO cO kO
  have BO := FO.binds (ps := ["self", "other"]) fun _ _ _ _ _ _ us hl => match us, hl with | [_, _], _ => rfl
  have FI := fun_mk (st := s_Row_numbers) lI cI kI
  have BI := FI.binds (ps := ["self", "n"]) fun _ _ _ _ _ _ us hl => match us, hl with | [_, _], _ => rfl
  have FPstart := fun_mk (st := s_Row_start) lPstart cPstart kPstart
  have BPstart := FPstart.binds (ps := ["self"]) fun _ _ _ _ _ _ us hl => match us, hl with | [_], _ => rfl
  have FPperiod := fun_mk (st := s_Row_period) lPperiod cPperiod kPperiod
  have BPperiod := FPperiod.binds (ps := ["self"]) fun _ _ _ _ _ _ us hl => match us, hl with | [_], _ => rfl
  have FPstep := fun_mk (st := s_Row_step) lPstep cPstep kPstep
  have BPstep := FPstep.binds (ps := ["self"]) fun _ _ _ _ _ _ us hl => match us, hl with | [_], _ => rfl
  have FPfirst := fun_mk (st := s_Row_first) lPfirst cPfirst kPfirst
  have BPfirst := FPfirst.binds (ps := ["self"]) fun _ _ _ _ _ _ us hl => match us, hl with | [_], _ => rfl
  have m_BadPrice := PySem.W.mg_of X G gPr_
  have eN : ErrF K CE CN "value" := ⟨exmN, ecN, kNN, xfN, noN_value⟩
  have eT : ErrF K CE CT "most" := ⟨exmT, ecT, kTT, xfT, noT_most⟩
  have hGet : OwnGet K CR fG := ⟨aG, fnG, iG⟩
  have FC := fun_mk (st := s_Row_even) lC cC kC
  have BC := FC.binds (ps := ["first", "step"]) fun _ _ _ _ _ _ us hl => match us, hl with | [_, _], _ => rfl
  have FX := fun_mk (st := s_Row_read) lX cX kX
  have BX := FX.binds (ps := ["cls", "text"]) fun _ _ _ _ _ _ us hl => match us, hl with | [_, _], _ => rfl
  have hM : Most K CR := ⟨_, _, ⟨rdR, gaR⟩, ⟨moR, ⟨_, rfl⟩⟩⟩
  have F_is_integer := fun_mk (st := s_is_integer) l_is_integer c_is_integer k_is_integer
  have B_is_integer := F_is_integer.binds (ps := ["value"]) fun _ _ _ _ _ _ us hl => match us, hl with | [_], _ => rfl
  have F_goes_on := fun_mk (st := s_goes_on) l_goes_on c_goes_on k_goes_on
  have B_goes_on := F_goes_on.binds (ps := ["numbers", "start", "period", "step"]) fun _ _ _ _ _ _ us hl => match us, hl with | [_, _, _, _], _ => rfl
  have F_least_period := fun_mk (st := s_least_period) l_least_period c_least_period k_least_period
  have B_least_period := F_least_period.binds (ps := ["numbers", "start", "period", "step"]) fun _ _ _ _ _ _ us hl => match us, hl with | [_, _, _, _], _ => rfl
  have F_settled := fun_mk (st := s_settled) l_settled c_settled k_settled
  have B_settled := F_settled.binds (ps := ["numbers", "period", "step"]) fun _ _ _ _ _ _ us hl => match us, hl with | [_, _, _], _ => rfl
  have F_need_from := fun_mk (st := s_need_from) l_need_from c_need_from k_need_from
  have B_need_from := F_need_from.binds (ps := ["value", "least"]) fun _ _ _ _ _ _ us hl => match us, hl with | [_, _], _ => rfl
  have F_divisor := fun_mk (st := s_divisor) l_divisor c_divisor k_divisor
  have B_divisor := F_divisor.binds (ps := ["one", "other"]) fun _ _ _ _ _ _ us hl => match us, hl with | [_, _], _ => rfl
  have F_greater := fun_mk (st := s_greater) l_greater c_greater k_greater
  have B_greater := F_greater.binds (ps := ["one", "other"]) fun _ _ _ _ _ _ us hl => match us, hl with | [_, _], _ => rfl
  have F_multiple := fun_mk (st := s_multiple) l_multiple c_multiple k_multiple
  have B_multiple := F_multiple.binds (ps := ["one", "other"]) fun _ _ _ _ _ _ us hl => match us, hl with | [_, _], _ => rfl
  have F_step_over := fun_mk (st := s_step_over) l_step_over c_step_over k_step_over
  have B_step_over := F_step_over.binds (ps := ["row", "period"]) fun _ _ _ _ _ _ us hl => match us, hl with | [_, _], _ => rfl
  have F_frame := fun_mk (st := s_frame) l_frame c_frame k_frame
  have B_frame := F_frame.binds (ps := ["one", "other"]) fun _ _ _ _ _ _ us hl => match us, hl with | [_, _], _ => rfl
  have F_figures_of := fun_mk (st := s_figures_of) l_figures_of c_figures_of k_figures_of
  have B_figures_of := F_figures_of.binds (ps := ["number"]) fun _ _ _ _ _ _ us hl => match us, hl with | [_], _ => rfl
  have F_is_integer_text := fun_mk (st := s_is_integer_text) l_is_integer_text c_is_integer_text k_is_integer_text
  have B_is_integer_text := F_is_integer_text.binds (ps := ["word"]) fun _ _ _ _ _ _ us hl => match us, hl with | [_], _ => rfl
  have F_number_of := fun_mk (st := s_number_of) l_number_of c_number_of k_number_of
  have B_number_of := F_number_of.binds (ps := ["word"]) fun _ _ _ _ _ _ us hl => match us, hl with | [_], _ => rfl
  have F_row_of := fun_mk (st := s_row_of) l_row_of c_row_of k_row_of
  have B_row_of := F_row_of.binds (ps := ["words"]) fun _ _ _ _ _ _ us hl => match us, hl with | [_], _ => rfl
  have F__law_pen := fun_mk (st := s__law_pen) l__law_pen c__law_pen k__law_pen
  have B__law_pen := F__law_pen.binds (ps := ["_law_script"]) fun _ _ _ _ _ _ us hl => match us, hl with | [_], _ => rfl
  have F__law_draw := fun_mk (st := s__law_draw) l__law_draw c__law_draw k__law_draw
  have B__law_draw := F__law_draw.binds (ps := ["_law_pen_here", "_law_many"]) fun _ _ _ _ _ _ us hl => match us, hl with | [_, _], _ => rfl
  have F__law_pick := fun_mk (st := s__law_pick) l__law_pick c__law_pick k__law_pick
  have B__law_pick := F__law_pick.binds (ps := ["_law_pen_here", "_law_some"]) fun _ _ _ _ _ _ us hl => match us, hl with | [_, _], _ => rfl
  have F__law_heard := fun_mk (st := s__law_heard) l__law_heard c__law_heard k__law_heard
  have B__law_heard := F__law_heard.binds (ps := ["_law_ask"]) fun _ _ _ _ _ _ us hl => match us, hl with | [_], _ => rfl
  have F__law_odd := fun_mk (st := s__law_odd) l__law_odd c__law_odd k__law_odd
  have B__law_odd := F__law_odd.binds (ps := ["_law_pen_here"]) fun _ _ _ _ _ _ us hl => match us, hl with | [_], _ => rfl
  have F__law_parts := fun_mk (st := s__law_parts) l__law_parts c__law_parts k__law_parts
  have B__law_parts := F__law_parts.binds (ps := ["_law_pen_here"]) fun _ _ _ _ _ _ us hl => match us, hl with | [_], _ => rfl
  have F__law_wide := fun_mk (st := s__law_wide) l__law_wide c__law_wide k__law_wide
  have B__law_wide := F__law_wide.binds (ps := ["_law_many", "_law_head"]) fun _ _ _ _ _ _ us hl => match us, hl with | [_, _], _ => rfl
  have F__law_bounds_right := fun_mk (st := s__law_bounds_right) l__law_bounds_right c__law_bounds_right k__law_bounds_right
  have B__law_bounds_right := F__law_bounds_right.binds (ps := ["_law_pen_here"]) fun _ _ _ _ _ _ us hl => match us, hl with | [_], _ => rfl
  have F_law := fun_mk (st := s_law) l_law c_law k_law
  refine ⟨_, [(q1, P1), (q2, P2)], spLaw K [(P1, ("_law_bounds_right.<locals>.<lambda>" : Str)), (P2, ("law.<locals>.<lambda>" : Str))], ?_, ?_, ?_, fun s u => .of_eq (fd := PySem.W.fnOf "law" "law" (defArgs s_law) (defBody s_law) (defScope s_law) .none kV_law dc_law pm_law an_law (.ref q2) ct_law) rfl, ?_, ?_⟩
  · intro p hp
    simp only [List.mem_cons, List.not_mem_nil, or_false] at hp
    rcases hp with rfl | rfl
    · exact ow "_law_bounds_right" _ rc1 (PySem.W.mg_of X G a__law_bounds_right) q1 P1 _ _ _ _ _ _ l__law_bounds_right rfl rfl qo1 qp1
    · exact ow "law" _ rc2 (PySem.W.mg_of X G a_law) q2 P2 _ _ _ _ _ _ l_law rfl rfl qo2 qp2
  · intro p hp
    simp only [List.mem_cons, List.not_mem_nil, or_false] at hp
    rcases hp with rfl | rfl
    · exact qn1
    · exact qn2
  · intro p hp
    simp only [List.mem_cons, List.not_mem_nil, or_false] at hp
    rcases hp with rfl | rfl
    · exact ⟨_, _, _, _, _, _, _, _, _, X _ _ qo1, rfl, rfl, qp1, qr1, qs_1, qu1, qv_1, qw1, qx1⟩
    · exact ⟨_, _, _, _, _, _, _, _, _, X _ _ qo2, rfl, rfl, qp2, qr2, qs_2, qu2, qv_2, qw2, qx2⟩
  · intro H a ns hl _ hH hS
    refine ⟨a, ns, rfl, hS, hl, fun p hp => ?_, fun _ => rfl⟩
    simp only [List.mem_cons, List.not_mem_nil, or_false] at hp
    rcases hp with rfl | rfl
    · exact LamX.TabS.nil (hH (q1, P1) (by simp))
    · exact LamX.TabS.nil (hH (q2, P2) (by simp))
  intro base _ _ TBs hsys
  have TB1 := TBs (q1, P1) (by simp)
  have TB2 := TBs (q2, P2) (by simp)
  have hu1 : ∀ p ∈ [(P1, ("_law_bounds_right.<locals>.<lambda>" : Str)), (P2, ("law.<locals>.<lambda>" : Str))], p.1 = P1 → p.2 = ("_law_bounds_right.<locals>.<lambda>" : Str) := fun p hp e => by
    simp only [List.mem_cons, List.not_mem_nil, or_false] at hp
    rcases hp with rfl | rfl
    · rfl
    · exact absurd e.symm qne12
  have hu2 : ∀ p ∈ [(P1, ("_law_bounds_right.<locals>.<lambda>" : Str)), (P2, ("law.<locals>.<lambda>" : Str))], p.1 = P2 → p.2 = ("law.<locals>.<lambda>" : Str) := fun p hp e => by
    simp only [List.mem_cons, List.not_mem_nil, or_false] at hp
    rcases hp with rfl | rfl
    · exact absurd e qne12
    · rfl
  have raw : ∀ {CX : CXT} {k : Nat} {f : Addr} {fd : FuncData} {ps : List Str} {sp : Sp}, FnOk l.prog w K mg base CX k f fd ps sp → Binds K fd ps [] → FnR l.prog w K mg base CX k f sp := fun {CX k f fd ps sp} F b => (F.raw b .nil).imp fun vs H Q E h => by rw [List.append_nil]; exact h
  have x_BadNumber : Xer l.prog w K mg base CN "BadNumber" ["value"] := ⟨T.m_BadNumber, OXN, _, _, _, inN, tf_N, ok_BadNumber_init FSN SEN noN_value, Binds.all fun us hl => match us, hl with | [_, _], _ => rfl⟩
  have x_TooMany : Xer l.prog w K mg base CT "TooMany" ["most"] := ⟨T.m_TooMany, OXT, _, _, _, inT, tf_T, ok_TooMany_init FST SET noT_most, Binds.all fun us hl => match us, hl with | [_, _], _ => rfl⟩
  have c_is_integer : Cal l.prog w K mg base CX0 1 "is_integer" spInt := ⟨_, PySem.W.mg_of X G a_is_integer, k_is_integer, raw (ok_int F_is_integer T) B_is_integer⟩
  have c_goes_on : Cal l.prog w K mg base CX0 1 "goes_on" spGoes := ⟨_, PySem.W.mg_of X G a_goes_on, k_goes_on, raw (ok_goes F_goes_on T) B_goes_on⟩
  have c_least_period : Cal l.prog w K mg base CX0 2 "least_period" (spLP K) := ⟨_, PySem.W.mg_of X G a_least_period, k_least_period, raw (ok_lp F_least_period T c_goes_on) B_least_period⟩
  have c_settled : Cal l.prog w K mg base CX0 3 "settled" spSet := ⟨_, PySem.W.mg_of X G a_settled, k_settled, raw (ok_settled F_settled T c_least_period) B_settled⟩
  have c_Row : Mkc l.prog w K mg base (L2.CX l.prog w) 4 CR "Row" (spRow0 CT CR) := ⟨fR_, T.m_Row, MR, raw (ok_Row_init FRI T hC c_is_integer c_settled x_BadNumber x_TooMany) BRI⟩
  have c_need_from : Cal l.prog w K mg base (L2.CX l.prog w) 3 "need_from" (spNeed CN) := ⟨_, PySem.W.mg_of X G a_need_from, k_need_from, raw (ok_need F_need_from T c_is_integer x_BadNumber) B_need_from⟩
  have c_start : Prp l.prog w K mg base CX0 1 (· = CR) "start" (spStart CR) := ⟨p_start, g_start, _, fun C h => by
    cases h
    exact ⟨CL_R, pa_start, pg_start, pt_start, _, pr_start⟩, ok_start FPstart T hC, BPstart⟩
  have c_period : Prp l.prog w K mg base CX0 1 (· = CR) "period" (spPeriod CR) := ⟨p_period, g_period, _, fun C h => by
    cases h
    exact ⟨CL_R, pa_period, pg_period, pt_period, _, pr_period⟩, ok_period FPperiod T hC, BPperiod⟩
  have c_step : Prp l.prog w K mg base CX0 1 (· = CR) "step" (spStep CR) := ⟨p_step, g_step, _, fun C h => by
    cases h
    exact ⟨CL_R, pa_step, pg_step, pt_step, _, pr_step⟩, ok_step FPstep T hC, BPstep⟩
  have c_first : Prp l.prog w K mg base CX0 1 (· = CR) "first" (spFirst CR) := ⟨p_first, g_first, _, fun C h => by
    cases h
    exact ⟨CL_R, pa_first, pg_first, pt_first, _, pr_first⟩, ok_first FPfirst T hC, BPfirst⟩
  have c_RowX : Mkc l.prog w K mg base (L2.CX l.prog w) 4 CR "Row" (spRowX CN CT CR K) := ⟨fR_, T.m_Row, MR, raw (ok_RowX FRI T hC c_is_integer c_settled x_BadNumber x_TooMany) BRI⟩
  have c_Row_even : Stm l.prog w K mg base (L2.CX l.prog w) 6 CR "even" (spEvenX CN CR) := ⟨_, pC, fC, restC, tyR, ⟨rdR, gaR⟩, atC, rcC, kC, raw (ok_evenX FC T c_RowX) BC⟩
  have o_number : OwnM l.prog w K mg base CX0 3 CR "number" (spNum CR) := ⟨fM, CL_R, ⟨aM, iM, kM⟩, raw (ok_number FM T hC c_start) BM⟩
  have rGet : FnR l.prog w K mg base (L2.CX l.prog w) 4 fG (spGet CN CR) := raw (ok_get FG T c_need_from o_number) BG
  have rE : FnR l.prog w K mg base CX0 2 fE (spEq CR) := raw (ok_eq FE T hC RK) BE
  have c_divisor : Cal l.prog w K mg base CX0 1 "divisor" spDivr := ⟨_, PySem.W.mg_of X G a_divisor, k_divisor, raw (ok_divr F_divisor T) B_divisor⟩
  have c_greater : Cal l.prog w K mg base CX0 1 "greater" spGr := ⟨_, PySem.W.mg_of X G a_greater, k_greater, raw (ok_gr F_greater T) B_greater⟩
  have c_multiple : Cal l.prog w K mg base CX0 2 "multiple" spMult := ⟨_, PySem.W.mg_of X G a_multiple, k_multiple, raw (ok_mult F_multiple T c_divisor) B_multiple⟩
  have c_step_over : Cal l.prog w K mg base CX0 3 "step_over" (spSO CR) := ⟨_, PySem.W.mg_of X G a_step_over, k_step_over, raw (ok_so F_step_over T c_step c_period) B_step_over⟩
  have c_frame : Cal l.prog w K mg base CX0 3 "frame" (spFrame CR) := ⟨_, PySem.W.mg_of X G a_frame, k_frame, raw (ok_frame F_frame T c_start c_period c_greater c_multiple) B_frame⟩
  have o_every_kw : OwnMK l.prog w K mg base (L2.CX l.prog w) 6 CR "every" "j" (spEvery CN CT CR) := ⟨fV, _, _, CL_R, ⟨aV, iV, kV⟩, ok_every FV T hC c_need_from c_start c_divisor o_number c_Row, fun s v u => .of_eq rfl⟩
  have o_above_kw : OwnMK l.prog w K mg base CX0 5 CR "above" "other" (spAboveL CR) := ⟨fO, _, _, CL_R, ⟨aO, iO, kO⟩, ok_aboveL FO T c_frame c_step_over o_number, fun s v u => .of_eq rfl⟩
  have g_numbers : GenM l.prog w K mg base 6 CR "numbers" (spNumsG CN CR) := ⟨fI, _, _, CL_R, ⟨aI, iI, kI⟩, ok_numsG FI T c_need_from o_number, BI⟩
  have g_numbers_kw : GenMK l.prog w K mg base 6 CR "numbers" "n" (spNumsG CN CR) := ⟨fI, _, _, CL_R, ⟨aI, iI, kI⟩, ok_numsG FI T c_need_from o_number, fun s v u => .of_eq rfl⟩
  have c_figures_of : Cal l.prog w K mg base CX0 1 "figures_of" spFig := ⟨_, PySem.W.mg_of X G a_figures_of, k_figures_of, raw (ok_fig F_figures_of T) B_figures_of⟩
  have rStr : FnR l.prog w K mg base CX0 3 fT (spStr CR) := raw (ok_str FT T hC c_start c_figures_of) BT
  have c_is_integer_text : Cal l.prog w K mg base CX0 1 "is_integer_text" spIT := ⟨_, PySem.W.mg_of X G a_is_integer_text, k_is_integer_text, raw (ok_itext F_is_integer_text T) B_is_integer_text⟩
  have c_number_of : Cal l.prog w K mg base CX0 1 "number_of" spNO := ⟨_, PySem.W.mg_of X G a_number_of, k_number_of, raw (ok_numof F_number_of T) B_number_of⟩
  have c_row_of : Cal l.prog w K mg base CX0 6 "row_of" (spRowOf CR) := ⟨_, PySem.W.mg_of X G a_row_of, k_row_of, raw (ok_rowof F_row_of T c_is_integer_text c_number_of c_Row) B_row_of⟩
  have c_Row_read_kw : ClmK l.prog w K mg base CX0 7 CR "read" "text" (spRead CR) := ⟨mcR, pX, fX, _, _, ⟨rdR, gaR⟩, ⟨atX, ⟨_, rcX⟩, fiX⟩, ok_read FX T c_row_of aT iT rStr, fun s u => .of_eq rfl⟩
  have c__law_pen : Cal l.prog w K mg base CX0 1 "_law_pen" (spPen K) := ⟨_, PySem.W.mg_of X G a__law_pen, k__law_pen, raw (ok_pen F__law_pen T) B__law_pen⟩
  have c__law_draw : Cal l.prog w K mg base CX0 1 "_law_draw" spDraw := ⟨_, PySem.W.mg_of X G a__law_draw, k__law_draw, raw (ok_draw F__law_draw T) B__law_draw⟩
  have c__law_pick : Cal l.prog w K mg base CX0 2 "_law_pick" (spPick K) := ⟨_, PySem.W.mg_of X G a__law_pick, k__law_pick, raw (ok_pick F__law_pick T c__law_draw) B__law_pick⟩
  have c__law_odd : Cal l.prog w K mg base CX0 3 "_law_odd" spOdd := ⟨_, PySem.W.mg_of X G a__law_odd, k__law_odd, raw (ok_odd F__law_odd T c__law_pick) B__law_odd⟩
  have c__law_parts : Cal l.prog w K mg base CX0 4 "_law_parts" (spParts K) := ⟨_, PySem.W.mg_of X G a__law_parts, k__law_parts, raw (ok_parts F__law_parts T c__law_draw c__law_pick c__law_odd) B__law_parts⟩
  have c__law_wide : Cal l.prog w K mg base CX0 1 "_law_wide" spWide := ⟨_, PySem.W.mg_of X G a__law_wide, k__law_wide, raw (ok_wide F__law_wide T) B__law_wide⟩
  have mh := PySem.W.mg_of X G a__law_heard
  have c__law_bounds_right : Cal l.prog w K mg base CX0 13 "_law_bounds_right" (spBounds [(P1, ("_law_bounds_right.<locals>.<lambda>" : Str)), (P2, ("law.<locals>.<lambda>" : Str))]) := ⟨_, PySem.W.mg_of X G a__law_bounds_right, k__law_bounds_right, raw (ok_bounds F__law_bounds_right T hC RK hM F__law_heard mh B__law_heard eN eT kNV kTN m_BadPrice rfl TB1 (by simp) hu1 rE iE aT iT rStr rGet hGet c_RowX c_Row_even o_above_kw o_every_kw c_start c_period c_first c__law_draw c__law_pick c__law_wide) B__law_bounds_right⟩
  exact ok_law (fT := fT) F_law T hC RK F__law_heard mh B__law_heard eN eT kNV kTN m_BadPrice nsN rfl TB2 (by simp) hu2 hsys rE iE rGet hGet c_RowX c_Row_even c_Row_read_kw g_numbers g_numbers_kw c__law_pen c__law_pick c__law_odd c__law_parts c__law_bounds_right
theorem walk {l : PySem.W.OpenLaw} {q : Program} {loose : List Str} {XP : (Str → Option Value) → Heap → Prop} {YP : World → Heap → Prop} {d : DefRec} {K : Params → PySem.W.Frag} (hn : l.most = some 63) (hdf : d.params.defaults = []) (him : importsNone q = true)
    (hY : ∀ (w : World) (h : Heap), YP w h → (K w.params).In h)
    (F : ∀ (w : World) (mg : Str → Option Value) (fa : Addr) (h : Heap), (K w.params).In h → h.Ns mainGlobals mg → mg d.name = some (.ref fa) → (∀ (x : Str) (fx : Addr), ((recsOf q).any fun e => e.name == x) = true → mg x = some (.ref fx) → LamX.OwnTab (K w.params) fx h) → LawG l w (K w.params) CX0 15 63 "_law_script" mg fa h) :
    PySem.W.WalkO q loose XP YP l.row.toRowW d [] (fun f vs => PySem.call f vs) :=
  walk_G (n := 63) (k := 15) (x := "_law_script") (CX := fun _ => CX0) hn (by decide) hdf ⟨rfl, by decide, by decide⟩ him hY (fun w mg fa h _ => F w mg fa h) fun _ _ _ _ _ z => z
end K10
end
section
set_option Elab.async false
set_option linter.all false
set_option maxRecDepth 100000
set_option maxHeartbeats 8000000
namespace HeadH
open PySem PySem.W PySem.Calls PyProof.Rows
def nms0 : List PySem.Str := ["StowError", "BadNumber", "BadPrice", "TooMany", "BadText", "is_integer", "MOST_NUMBERS", "FIGURES", "PIECE", "need_from", "figures_of", "divisor", "multiple", "goes_on", "least_period", "settled", "is_integer_text", "number_of", "row_of", "frame", "step_over", "joined", "scaled", "chosen_of", "last_above", "chosen", "lesser", "greater", "Row", "_law_pen"]
def nms1 : List PySem.Str := ["_law_draw", "_law_pick", "_law_heard", "_law_odd", "_law_parts", "_law_wide"]
def nms : List PySem.Str := nms0 ++ nms1
end HeadH
open PySem PySem.W PySem.Calls PyProof.Rows
local macro_rules
  | `(tactic| o_head $H) => do
    let a := H.raw[1][1]
    let as : Lean.TSyntax `term := ⟨a[1]⟩
    let ob ← `(fun s => (List.map (HandSHeadRun.getT s) $as, List.map (HandSHeadRun.getT s) $(⟨a[3]⟩)))
    let (ho, run, hw, hc) := (Lean.mkIdent `ho, Lean.mkIdent `run, Lean.mkIdent `hw, Lean.mkIdent `hc)
    `(tactic| refine HandSHeadRun.head_any (r := OpenLaw.row PySem.Challenge.rw_loopstow_k10_rows_refused) (q := view (OpenLaw.row PySem.Challenge.rw_loopstow_k10_rows_refused).prog [40, 41]) (H := $H) (ob := $ob) (M := 12000) (loose := HeadH.nms) (d := HandSHeadRun.topDef (OpenLaw.row PySem.Challenge.rw_loopstow_k10_rows_refused).prog 41) (kwd := []) ?$ho (by kernel_rfl) (fun s => by kernel_rfl) ?$run (by kernel_rfl) (by kernel_rfl) (by kernel_rfl) (by rfl) (by first | assumption | decide +kernel) (by decide +kernel) ⟨rfl, rfl, rfl, rfl, rfl, by decide +kernel⟩ ?$hw ?$hc)
set_option maxRecDepth 100000 in
set_option maxHeartbeats 0 in
theorem PySem.Challenge.cw_loopstow_k10_rows_refused_holds : PySem.Challenge.rw_loopstow_k10_rows_refused.Holds := by
  w_on; o_law; k_head; (case ho => intro s; exact Prod.ext (congrArg (fun f => List.map f _) (funext fun a => HandSHeadRun.getT_eq s a)) (congrArg (fun f => List.map f _) (funext fun a => HandSHeadRun.getT_eq s a))); (case run => intro w os; kernel_rfl); (case hw => w_witness2)
  k_fill
  refine K10.walk (l := PySem.Challenge.rw_loopstow_k10_rows_refused) rfl rfl (by decide +kernel) (fun w h Y => PySem.W.km_in_of Y) ?F
  case F =>
    intro w mg fa h KX G hmg ow
    refine' K10.all_mk KX G hmg ow ?b0 ?b1 ?b2 ?b3 ?b4 ?b5 ?b6 ?b7 ?b8 ?b9 ?b10 ?b11 ?b12 ?b13 ?hn ?htk ?any_ ?top_ ?gCE ?eE1 ?eE2 ?eE3 ?gM ?gP ?eP ?gF ?eF ?gB_ ?gN_ ?xoN ?xrN ?saN ?beN ?tyN ?kpN ?inN ?tf_N ?lIN ?cIN ?kIN ?ceN ?coN ?v2N ?flN ?cd_N ?sbN ?svN ?fd_N ?noN_value ?suN ?xgN ?xkN ?hdN ?haN ?hmN ?gT_ ?xoT ?xrT ?saT ?beT ?tyT ?kpT ?inT ?tf_T ?lIT ?cIT ?kIT ?ceT ?coT ?v2T ?flT ?cd_T ?sbT ?svT ?fd_T ?noT_most ?suT ?xgT ?xkT ?hdT ?haT ?hmT ?gR_ ?pgR ?hdR ?poR ?saR ?nR_told ?nR_many ?nR_gain ?haR ?hmR ?mkR ?inR ?fnR ?kpR ?lRI ?cRI ?kRI ?kRR ?kRN ?neR ?nfR ?sfR ?aG ?iG ?lG ?cG ?kG ?aE ?iE ?lE ?cE ?kE ?aV ?iV ?lV ?cV ?kV ?aM ?iM ?lM ?cM ?kM ?aT ?iT ?lT ?cT ?kT ?aO ?iO ?lO ?cO ?kO ?aI ?iI ?lI ?cI ?kI ?pa_start ?pg_start ?pt_start ?pr_start ?lPstart ?cPstart ?kPstart ?pa_period ?pg_period ?pt_period ?pr_period ?lPperiod ?cPperiod ?kPperiod ?pa_step ?pg_step ?pt_step ?pr_step ?lPstep ?cPstep ?kPstep ?pa_first ?pg_first ?pt_first ?pr_first ?lPfirst ?cPfirst ?kPfirst ?kNN ?kTT ?kTN ?kNV ?nsN ?gPr_ ?fnG ?tyR ?rdR ?gaR ?atC ?rcC ?lC ?cC ?kC ?atX ?rcX ?fiX ?lX ?cX ?kX ?moR ?a_is_integer ?l_is_integer ?c_is_integer ?k_is_integer ?a_goes_on ?l_goes_on ?c_goes_on ?k_goes_on ?a_least_period ?l_least_period ?c_least_period ?k_least_period ?a_settled ?l_settled ?c_settled ?k_settled ?a_need_from ?l_need_from ?c_need_from ?k_need_from ?a_divisor ?l_divisor ?c_divisor ?k_divisor ?a_greater ?l_greater ?c_greater ?k_greater ?a_multiple ?l_multiple ?c_multiple ?k_multiple ?a_step_over ?l_step_over ?c_step_over ?k_step_over ?a_frame ?l_frame ?c_frame ?k_frame ?a_figures_of ?l_figures_of ?c_figures_of ?k_figures_of ?a_is_integer_text ?l_is_integer_text ?c_is_integer_text ?k_is_integer_text ?a_number_of ?l_number_of ?c_number_of ?k_number_of ?a_row_of ?l_row_of ?c_row_of ?k_row_of ?a__law_pen ?l__law_pen ?c__law_pen ?k__law_pen ?a__law_draw ?l__law_draw ?c__law_draw ?k__law_draw ?a__law_pick ?l__law_pick ?c__law_pick ?k__law_pick ?a__law_heard ?l__law_heard ?c__law_heard ?k__law_heard ?a__law_odd ?l__law_odd ?c__law_odd ?k__law_odd ?a__law_parts ?l__law_parts ?c__law_parts ?k__law_parts ?a__law_wide ?l__law_wide ?c__law_wide ?k__law_wide ?a__law_bounds_right ?l__law_bounds_right ?c__law_bounds_right ?k__law_bounds_right ?qo1 ?qp1 ?qr1 ?qs_1 ?qu1 ?qv_1 ?qw1 ?qx1 ?qn1 ?rc1 ?a_law ?l_law ?c_law ?k_law ?qo2 ?qp2 ?qr2 ?qs_2 ?qu2 ?qv_2 ?qw2 ?qx2 ?qn2 ?rc2 ?qne12
    (case b0 => k_is)
    (case b1 => k_is)
    (case b2 => k_is)
    (case b3 => k_is)
    (case b4 => k_is)
    (case b5 => k_is)
    (case b6 => k_is)
    (case b7 => k_is)
    (case b8 => k_is)
    (case b9 => k_is)
    (case b10 => k_is)
    (case b11 => k_is)
    (case b12 => k_is)
    (case b13 => k_is)
    (case hn => k_is)
    (case htk => k_is)
    (case any_ => k_is)
    (case top_ => decide +kernel)
    (case gCE => k_is)
    (case eE1 => k_is)
    (case eE2 => k_is)
    (case eE3 => k_is)
    (case gM => k_is)
    (case gP => k_is)
    (case eP => decide +kernel)
    (case gF => k_is)
    (case eF => decide +kernel)
    (case gB_ => k_is)
    (case gN_ => k_is)
    (case xoN => k_is)
    (case xrN => rfl)
    (case saN => k_is)
    (case beN => k_is)
    (case tyN => k_is)
    (case kpN => k_is)
    (case inN => k_is)
    (case tf_N => k_is)
    (case lIN => k_is)
    (case cIN => k_is)
    (case kIN => k_is)
    (case ceN => k_is)
    (case coN => k_is)
    (case v2N => rfl)
    (case flN => decide +kernel)
    (case cd_N => k_is)
    (case sbN => k_is)
    (case svN => k_is)
    (case fd_N => ks_is)
    (case noN_value => k_is)
    (case suN => k_is)
    (case xgN => k_is)
    (case xkN => k_is)
    (case hdN => k_is)
    (case haN => k_is)
    (case hmN => k_is)
    (case gT_ => k_is)
    (case xoT => k_is)
    (case xrT => rfl)
    (case saT => k_is)
    (case beT => k_is)
    (case tyT => k_is)
    (case kpT => k_is)
    (case inT => k_is)
    (case tf_T => k_is)
    (case lIT => k_is)
    (case cIT => k_is)
    (case kIT => k_is)
    (case ceT => k_is)
    (case coT => k_is)
    (case v2T => rfl)
    (case flT => decide +kernel)
    (case cd_T => k_is)
    (case sbT => k_is)
    (case svT => k_is)
    (case fd_T => ks_is)
    (case noT_most => k_is)
    (case suT => k_is)
    (case xgT => k_is)
    (case xkT => k_is)
    (case hdT => k_is)
    (case haT => k_is)
    (case hmT => k_is)
    (case gR_ => k_is)
    (case pgR => k_is)
    (case hdR => k_is)
    (case poR => k_is)
    (case saR => k_is)
    (case nR_told => k_is)
    (case nR_many => k_is)
    (case nR_gain => k_is)
    (case haR => k_is)
    (case hmR => k_is)
    (case mkR => k_is)
    (case inR => k_is)
    (case fnR => k_is)
    (case kpR => k_is)
    (case lRI => k_is)
    (case cRI => k_is)
    (case kRI => k_is)
    (case kRR => kit_is)
    (case kRN => kit_is)
    (case neR => k_is)
    (case nfR => k_is)
    (case sfR => k_is)
    (case aG => k_is)
    (case iG => k_is)
    (case lG => k_is)
    (case cG => k_is)
    (case kG => k_is)
    (case aE => k_is)
    (case iE => k_is)
    (case lE => k_is)
    (case cE => k_is)
    (case kE => k_is)
    (case aV => k_is)
    (case iV => k_is)
    (case lV => k_is)
    (case cV => k_is)
    (case kV => k_is)
    (case aM => k_is)
    (case iM => k_is)
    (case lM => k_is)
    (case cM => k_is)
    (case kM => k_is)
    (case aT => k_is)
    (case iT => k_is)
    (case lT => k_is)
    (case cT => k_is)
    (case kT => k_is)
    (case aO => k_is)
    (case iO => k_is)
    (case lO => k_is)
    (case cO => k_is)
    (case kO => k_is)
    (case aI => k_is)
    (case iI => k_is)
    (case lI => k_is)
    (case cI => k_is)
    (case kI => k_is)
    (case pa_start => k_is)
    (case pg_start => k_is)
    (case pt_start => k_is)
    (case pr_start => k_is)
    (case lPstart => k_is)
    (case cPstart => k_is)
    (case kPstart => k_is)
    (case pa_period => k_is)
    (case pg_period => k_is)
    (case pt_period => k_is)
    (case pr_period => k_is)
    (case lPperiod => k_is)
    (case cPperiod => k_is)
    (case kPperiod => k_is)
    (case pa_step => k_is)
    (case pg_step => k_is)
    (case pt_step => k_is)
    (case pr_step => k_is)
    (case lPstep => k_is)
    (case cPstep => k_is)
    (case kPstep => k_is)
    (case pa_first => k_is)
    (case pg_first => k_is)
    (case pt_first => k_is)
    (case pr_first => k_is)
    (case lPfirst => k_is)
    (case cPfirst => k_is)
    (case kPfirst => k_is)
    (case kNN => kit_is)
    (case kTT => kit_is)
    (case kTN => kit_is)
    (case kNV => kit_is)
    (case nsN => k_is)
    (case gPr_ => k_is)
    (case fnG => k_is)
    (case tyR => k_is)
    (case rdR => k_is)
    (case gaR => k_is)
    (case atC => k_is)
    (case rcC => k_is)
    (case lC => k_is)
    (case cC => k_is)
    (case kC => k_is)
    (case atX => k_is)
    (case rcX => k_is)
    (case fiX => k_is)
    (case lX => k_is)
    (case cX => k_is)
    (case kX => k_is)
    (case moR => k_is)
    (case a_is_integer => k_is)
    (case l_is_integer => k_is)
    (case c_is_integer => k_is)
    (case k_is_integer => k_is)
    (case a_goes_on => k_is)
    (case l_goes_on => k_is)
    (case c_goes_on => k_is)
    (case k_goes_on => k_is)
    (case a_least_period => k_is)
    (case l_least_period => k_is)
    (case c_least_period => k_is)
    (case k_least_period => k_is)
    (case a_settled => k_is)
    (case l_settled => k_is)
    (case c_settled => k_is)
    (case k_settled => k_is)
    (case a_need_from => k_is)
    (case l_need_from => k_is)
    (case c_need_from => k_is)
    (case k_need_from => k_is)
    (case a_divisor => k_is)
    (case l_divisor => k_is)
    (case c_divisor => k_is)
    (case k_divisor => k_is)
    (case a_greater => k_is)
    (case l_greater => k_is)
    (case c_greater => k_is)
    (case k_greater => k_is)
    (case a_multiple => k_is)
    (case l_multiple => k_is)
    (case c_multiple => k_is)
    (case k_multiple => k_is)
    (case a_step_over => k_is)
    (case l_step_over => k_is)
    (case c_step_over => k_is)
    (case k_step_over => k_is)
    (case a_frame => k_is)
    (case l_frame => k_is)
    (case c_frame => k_is)
    (case k_frame => k_is)
    (case a_figures_of => k_is)
    (case l_figures_of => k_is)
    (case c_figures_of => k_is)
    (case k_figures_of => k_is)
    (case a_is_integer_text => k_is)
    (case l_is_integer_text => k_is)
    (case c_is_integer_text => k_is)
    (case k_is_integer_text => k_is)
    (case a_number_of => k_is)
    (case l_number_of => k_is)
    (case c_number_of => k_is)
    (case k_number_of => k_is)
    (case a_row_of => k_is)
    (case l_row_of => k_is)
    (case c_row_of => k_is)
    (case k_row_of => k_is)
    (case a__law_pen => k_is)
    (case l__law_pen => k_is)
    (case c__law_pen => k_is)
    (case k__law_pen => k_is)
    (case a__law_draw => k_is)
    (case l__law_draw => k_is)
    (case c__law_draw => k_is)
    (case k__law_draw => k_is)
    (case a__law_pick => k_is)
    (case l__law_pick => k_is)
    (case c__law_pick => k_is)
    (case k__law_pick => k_is)
    (case a__law_heard => k_is)
    (case l__law_heard => k_is)
    (case c__law_heard => k_is)
    (case k__law_heard => k_is)
    (case a__law_odd => k_is)
    (case l__law_odd => k_is)
    (case c__law_odd => k_is)
    (case k__law_odd => k_is)
    (case a__law_parts => k_is)
    (case l__law_parts => k_is)
    (case c__law_parts => k_is)
    (case k__law_parts => k_is)
    (case a__law_wide => k_is)
    (case l__law_wide => k_is)
    (case c__law_wide => k_is)
    (case k__law_wide => k_is)
    (case a__law_bounds_right => k_is)
    (case l__law_bounds_right => k_is)
    (case c__law_bounds_right => k_is)
    (case k__law_bounds_right => k_is)
    (case qo1 => k_is)
    (case qp1 => rfl)
    (case qr1 => rfl)
    (case qs_1 => rfl)
    (case qu1 => rfl)
    (case qv_1 => rfl)
    (case qw1 => rfl)
    (case qx1 => decide)
    (case qn1 => first | rfl | kernel_rfl)
    (case rc1 => decide +kernel)
    (case a_law => k_is)
    (case l_law => k_is)
    (case c_law => k_is)
    (case k_law => k_is)
    (case qo2 => k_is)
    (case qp2 => rfl)
    (case qr2 => rfl)
    (case qs_2 => rfl)
    (case qu2 => rfl)
    (case qv_2 => rfl)
    (case qw2 => rfl)
    (case qx2 => decide)
    (case qn2 => first | rfl | kernel_rfl)
    (case rc2 => decide +kernel)
    (case qne12 => decide)
end
