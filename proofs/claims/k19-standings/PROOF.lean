import PyProof.Rows.All
import Wide.All
import OpenK.AllK
import Wide.FinOn
import KE.KSuper
import KE.KCallOwn
import HandS.ForMost
import HandS.ClsMeth
import HandS.OwnEq
import HandS.FStr
import HandS.IsInst
import HandS.Star
import HandS.SlotsOwn
import HandS.Defaults
import HandS.RaiseMore
import PyProof.NeKinds
import HandS.Walk
import KE.KFromBytes
import HandS.Exc
import HandS.ExcInit
import HandS.ExcSuper
import HandS.ExcIs
import KE.KExcIs
import HandS.ExcField
import HandS.ExcValue
import HandS.Lambda
import HandS.EndTab
import HandS.EndOwn
import HandS.Words
import HandS.WordsExc
import HandS.Dict
import HandS.Text
import PyProof.InstNe
import PyProof.ReprLen
import KE.GoesRaise
import KE.KRevSl
import HandS.SetFor
import HandS.Style
import HandS.Set
import HandS.Strs
import HandS.SetKeys
import HandS.More
import HandS.Property
import HandS.List
import PyProof.P3Eq
import PyProof.FitsInt
import HandS.MakeKw
import KE.GoesMore
import KE.GoesEnum
import PyProof.EnumMake
import HandS.Iter
import HandS.Deep
import KE.KOpsOwn
import HandS.GenBody
import HandS.GenYield
import HandS.GenCall
import HandS.GenList
import HandS.Codes
import HandS.TupAny
import PySem.Challenge.RW_loopstow_k19_standings
import KE.RegKSuper
import KE.RegKIsAll
import KE.KStateDown
import HandS.Head0
import HandS.Head1
import HandS.Head2
section
set_option Elab.async false
set_option linter.all false
set_option maxRecDepth 100000
set_option maxHeartbeats 4000000
/-! Own rules over the hand layer. -/
namespace Ls
open PySem PySem.Spec PyProof.Rows L2

/-! ### what a for walks: one of two kinds -/
theorem PI.or {X : Cx} {tg iter : Expr} {w1 w2 : TI} (h1 : PI X tg iter w1) (h2 : PI X tg iter w2) : PI X tg iter (fun σ H R => w1 σ H R ∨ w2 σ H R) :=
  ⟨fun pins s σ H R I h => h.elim (fun h => h1.run pins s σ H R I h) (fun h => h2.run pins s σ H R I h)⟩
/-- a list or a tuple -/
theorem pi_seq {X : Cx} {tg l : Expr} {tl : TE} (hl : PE X l tl) : PI X tg l (fun σ H R => iList X.K tl σ H R ∨ iTup X.K tl σ H R) := PI.or (pi_list hl) (pi_tup hl)

/-! ### f(k = v, ..), no positional argument -/
section
variable {X : Cx} {CX : CXT} {k : Nat} {f : Addr} {fd : FuncData} {ps ks : List Str} {sp : Sp} {E : XK} {x : Str} {p pos : Pos} {kws : List Keyword} {tk : TA} {g : List Value → List Value → List Value} {gV : List V → List V → List V}
theorem pe_callK0 (F : FnOk X.prog X.w X.K X.mg X.base CX k f fd ps sp) (hr : Room k X.A) (hg : Gl X x) (hm : X.mg x = some (.ref f)) (hk : PySem.W.keepIn X.K (.ref f) = true) (hb : KBn X.K fd ps 0 ks g gV) (hx : Passes CX X E)
    (hkw : PK X kws tk) (hall : (backToKw pos (keywordEach kws X.env)).all (·.1.isSome) = true := by rfl) (hks : (backToKw pos (keywordEach kws X.env)).filterMap (·.1) = ks := by rfl)
    (hdb : (x == ("__debug__" : Str)) = false := by decide)
    (hpl : ((backTo pos (starEach [] X.env)).any (·.1) || (backToKw pos (keywordEach kws X.env)).any (·.1.isNone)) = false := by rfl) :
    PE X (.Call (.Name x p) [] kws pos) (tCallN 0 ks.length sp gV E tNil tk) := by
  refine ⟨fun pins s σ H Q I h => ?_⟩
  refine wpAny_Call_Name_kw (ld_glob I hg hm ?_ hdb)
  refine PySem.W.callWith_KW0 (h₀ := X.base) I.ok.mod.kin hk hall ?_ hpl
  refine thn (hkw.run pos pins s σ H _ I h) fun ws s2 ⟨zs, H2, I2, rz, l1, l2, q2⟩ => ⟨I2.kIn, ?_⟩
  rw [hks]
  exact run_fnN (us := []) (vs := []) F hr hb hx I2 .nil rz l1 l2 q2
/-- one parameter, given by its name -/
theorem kbn_one {K : PySem.W.Frag} {x qual : Str} {st : Stmt} {f : Addr} {fd : FuncData} {a : Str} (F : Fun K x qual st f fd)
    (h : ∀ (kV doc pm : Value) (an : Option Addr) (cdv ct u : Value), bindArgs (PySem.W.fnOf x qual (defArgs st) (defBody st) (defScope st) .none kV doc pm an cdv ct) ⟨[], [(a, u)]⟩ = pure [(a, u)]) :
    KBn K fd [a] 0 [a] (fun _ ws => ws) (fun _ zs => zs) := by
  obtain ⟨oc, od, kV, doc, pm, an, cdv, ct, osl, rfl, lk, hcd⟩ := F.ex
  refine ⟨fun s us ws _ l1 l2 => ?_, fun _ r => r⟩
  match us, ws, l1, l2 with
  | [], [u], _, _ => exact .of_eq (h kV doc pm an cdv ct u)
end

/-! ### str(x), x an instance whose class has the text's own __str__ -/
def rStrOwn (K : PySem.W.Frag) (g : Addr) (sp : Sp) (E : XK) : List V → Hp → VK → Prop := fun xs H Q => ∃ a C dx fs, xs = [V.ref a] ∧ H a = some (.ins C dx fs) ∧ PySem.W.findIn K (.ref C) "__str__" = some (some (.ref g)) ∧ sp [.ref a] H (fun z H' => ∃ y, z = .str y ∧ Q z H') E
section
variable {X : Cx} {CX : CXT} {g : Addr} {n : Nat} {sp : Sp} {E : XK}
theorem call_strOwn (hf : PySem.W.isFn X.K (.ref g) = true) (F : FnR X.prog X.w X.K X.mg X.base CX n g sp) (hr : Room (n + 2) X.A) (hx : Passes CX X E) : CallR X (.type "str") (rStrOwn X.K g sp E) := by
  intro pins s σ H xs us Q I r h
  obtain ⟨a, C, dx, fs, rfl, ha, hs, q⟩ := h
  obtain ⟨u, rfl, ru⟩ := r.one
  cases (show u = Value.ref a from ru)
  obtain ⟨mA, O, _⟩ := ins_get I.hok ha
  obtain ⟨od, J, _⟩ := O.look
  have hr2 : Room n X.A.in1.in1 := (show Room (n + 1) X.A.in1 from Room.in1 hr).in1
  refine PySem.W.kso_call hr2.units0 I.kIn J hs hf (wpAny_mono (wpAny_call (SlX.run_at (us := [.ref a]) (ws := [.ref a]) F hr2 I.env0.in1.in1 hx I (.cons rfl .nil) q)) (fun w s' z => ?_) fun _ _ x => x)
  obtain ⟨z', H', I', rz, y, ey, qz⟩ := z
  subst ey
  obtain ⟨t, e⟩ := (show ∃ t, w = Value.str y t from rz)
  cases e
  exact ⟨.str y, H', I', ⟨t, rfl⟩, qz⟩
/-- .. the written part by its own name (for a block) -/
theorem call_strOwnK {P : Program} {w : World} {K : PySem.W.Frag} {mg : Str → Option Value} {base : Heap} (hf : PySem.W.isFn K (.ref g) = true) (F : FnR P w K mg base CX n g sp) {A : Around} (hr : Room (n + 2) A) (hP : X.prog = P) (hw : X.w = w) (hK : X.K = K) (hmg : X.mg = mg) (hb : X.base = base) (hA : X.A = A) (hx : Passes CX X E) :
    CallR X (.type "str") (rStrOwn K g sp E) := by
  subst hP hw hK hmg hb hA
  exact call_strOwn hf F hr hx
end
end Ls
end
section
set_option Elab.async false
set_option linter.all false
set_option maxRecDepth 100000
set_option maxHeartbeats 4000000
namespace Ls
open PySem PySem.Spec PyProof.Rows L2

/-! ### a def that closes over __class__, its first statement super().__init__(..) -/
structure ScS (N ps : List Str) (sc : Scope) : Prop where
  kind : sc.kind = .function
  co : sc.isCoroutine = false
  gen : sc.isGenerator = false
  nd : N.Nodup
  pre : N.take ps.length = ps
  par : ∀ x ∈ ps, sc.names.lookup x = some .local
  nocell : ∀ y ∈ sc.names, y.2 ≠ .cell
  free : ∀ y ∈ sc.names, y.2 = .free → y.1 = "__class__"

def cxS (CX : CXT) (P : Program) (w : World) (K : PySem.W.Frag) (mg : Str → Option Value) (base : Heap) (N : List Str) (qual : Str) (scope : Scope) (f : Addr) (cd : Value) (cc : Addr) (A : Around) (outer : List Env) (s : Shared) (H : Hp) (E : XK) : Cx where
  prog := P
  w := w
  K := K
  mg := mg
  base := base
  A := A.deeper (PySem.W.ksEnv qual scope s.heap.objs.size f cd cc)
  N := N
  s_0 := s
  H_0 := H
  env := PySem.W.ksEnv qual scope s.heap.objs.size f cd cc
  outer := outer
  stack := PySem.W.ksEnv qual scope s.heap.objs.size f cd cc :: outer
  ex := []
  calm := true
  fn := fun x => !(x == ("__class__" : Str))
  pn := []
  xe := fun e s' => wpAny (model P w) (A.deeper (PySem.W.ksEnv qual scope s.heap.objs.size f cd cc)) (leaving (PySem.W.ksEnv qual scope s.heap.objs.size f cd cc) e) (fun _ s'' => CX outer H s E e s'') (fun e' s'' => CX outer H s E e' s'') s'

theorem rev_lookup {x : Str} {v : Value} : ∀ {ps : List Str} {us : List Value} {i : Nat}, ps.Nodup → ps[i]? = some x → us[i]? = some v → (ps.zip us).reverse.lookup x = some v
  | [], _, _, _, h, _ => by simp at h
  | _ :: _, [], _, _, _, h => by simp at h
  | p :: ps, u :: us, 0, nd, h1, h2 => by
    simp at h1 h2
    subst h1; subst h2
    rw [List.zip_cons_cons, List.reverse_cons, List.lookup_append]
    have : (ps.zip us).reverse.lookup p = none := by
      rw [List.lookup_eq_none_iff]
      rintro ⟨a, b⟩ hm
      have hm' := List.mem_reverse.mp hm
      have ha := (List.of_mem_zip hm').1
      have : p ≠ a := fun e => (List.nodup_cons.mp nd).1 (e ▸ ha)
      simpa using this
    rw [this]
    simp [List.lookup]
  | p :: ps, u :: us, i + 1, nd, h1, h2 => by
    rw [List.zip_cons_cons, List.reverse_cons, List.lookup_append, rev_lookup (i := i) (List.nodup_cons.mp nd).2 (by simpa using h1) (by simpa using h2)]
    rfl

section
variable {CX : CXT} {P : Program} {w : World} {K : PySem.W.Frag} {mg : Str → Option Value} {base : Heap} {N ps : List Str} {qual : Str} {scope : Scope} {f cc : Addr} {cd : Value} {A : Around} {outer : List Env} {s : Shared} {H : Hp} {E : XK} {us : List Value} {vs : List V}

theorem inv_startS {h1 : Heap} {tk : Nat} {ocell : Obj} {vc : Option Value} (S : ScS N ps scope) (hd : A.handled = none) (e0 : Env0 P w K mg base A outer s H) (hl : vs.length = ps.length) (r : Vals vs us)
    (hcell : K.lookup cc = some ocell) (hcd : ocell.data = .cell vc)
    (hns : h1.Ns s.heap.objs.size (fun x => (ps.zip us).reverse.lookup x)) (hk : ∀ b o, s.heap.get? b = some o → h1.get? b = some o) :
    Inv (cxS CX P w K mg base N qual scope f cd cc A outer s H E) [] (start N vs) H { s with heap := h1, toks := tk } := by
  have hpl : ps.length ≤ N.length := by have := congrArg List.length S.pre; rw [List.length_take] at this; omega
  have hccb : base.get? cc = some ocell := e0.mod.kin _ _ hcell
  have lkc : ∀ x c, List.lookup x [(("__class__" : Str), cc)] = some c → x = "__class__" ∧ c = cc := fun x c e => by
    by_cases hx : x = "__class__"
    · subst hx
      simp [List.lookup] at e
      exact ⟨rfl, e.symm⟩
    · have : (x == ("__class__" : Str)) = false := by simpa using hx
      simp [List.lookup, this] at e
  have noA : ∀ b : Addr, b ∉ (cxS CX P w K mg base N qual scope f cd cc A outer s H E).ex := fun b z => absurd (show b ∈ ([] : List Addr) from z) (by simp)
  refine ⟨⟨e0.mod, S.kind, rfl, rfl, Nat.le_refl _, fun y z c q1 q2 => ?_, fun y hy => ?_, fun y c hfn h => ?_, fun _ => hd, Around.frames_deeper e0.frames, .inr ⟨rfl, rfl⟩, fun b z => absurd z (noA b), e0.bs, e0.bsz, fun b _ _ => noA b, fun b z => absurd z (noA b), e0.funs, e0.frf⟩,
    rfl, e0.bare, Un.kept hk, ⟨_, hns, fun i y v q1 q2 q3 => ?_⟩, fun y c h => ?_, e0.hok.fresh (Nat.le_refl _), fun y c h => ?_, fun p hp => absurd (show p ∈ ([] : List (Addr × Obj)) from hp) (by simp), e0.hok.kept hk, ?_⟩
  · rw [(lkc y c q1).1, (lkc z c q2).1]
  · have hy : scope.names.lookup y = some .cell ∨ scope.names.lookup y = some .free := hy
    rcases hy with hy | hy
    · exact absurd rfl (S.nocell _ (PySem.mem_of_lookup hy))
    · have e := S.free _ (PySem.mem_of_lookup hy) rfl
      have e' : y = "__class__" := e
      subst e'
      exact ⟨cc, by show List.lookup _ [_] = _; simp [List.lookup]⟩
  · have e := (lkc y c h).1
    subst e
    exact absurd (show (!(("__class__" : Str) == ("__class__" : Str))) = true from hfn) (by simp)
  · have hi : i < vs.length := by
      unfold L2.start at q2
      by_cases hi : i < vs.length
      · exact hi
      · rw [List.getElem?_append_right (by simpa using hi)] at q2
        rw [List.getElem?_replicate] at q2
        split at q2 <;> cases q2
    have ha : vs[i]? = some v := by
      unfold L2.start at q2
      rw [List.getElem?_append_left (by simpa using hi), List.getElem?_map] at q2
      cases e : vs[i]? with
      | none => rw [e] at q2; cases q2
      | some a => rw [e] at q2; cases q2; rfl
    obtain ⟨u, hu, rv⟩ := r.get ha
    have hp : ps[i]? = some y := by
      rw [← S.pre, List.getElem?_take_of_lt (by omega)]; exact q1
    have ndP : ps.Nodup := by rw [← S.pre]; exact S.nd.sublist (List.take_sublist _ _)
    exact ⟨u, rv, .inl ⟨S.par y (List.mem_of_getElem? hp), rev_lookup ndP hp hu⟩⟩
  · obtain ⟨_, e⟩ := lkc y c h
    subst e
    exact ⟨vc, ocell, hk _ _ (e0.bs _ _ hccb).1, hcd⟩
  · obtain ⟨_, e⟩ := lkc y c h
    subst e
    exact (e0.bs _ _ hccb).2
  · unfold L2.start
    show _ = N.length
    rw [List.length_append, List.length_map, List.length_replicate]
    omega
end

/-- what the written part says for super().__init__ in a def of the class at D, of an instance of the class at C -/
structure SupT (P : Program) (K : PySem.W.Frag) (mg : Str → Option Value) (C D cc cda : Addr) (m : Str) (f2 : Addr) : Prop where
  cell : ∃ cl cld csl, K.lookup cc = some ⟨cl, cld, .cell (some (.ref D)), csl⟩
  code : ∃ ccl cdd vs ccs file tf, K.lookup cda = some ⟨ccl, cdd, .fields vs, ccs⟩ ∧ vs[2]? = some (.str file tf) ∧ ((P.main.file : Str) == file) = true
  clD : ∃ cdD, PySem.W.clsIn K D = some cdD
  sub : PySem.W.mroIn K C (.ref D) = some true
  sup : mg "super" = none
  top : (P.main.scope.names.lookup ("super" : Str)).isSome = false
  any : PySem.W.nsIn K cStatics "thirdparty.any" = some none
  fnd : PySem.W.ks_superIn K C D m = some (some (.ref f2))
  ty : PySem.W.typeIn K (.ref f2) = some (.type "function")
  fi : PySem.W.fnIn K f2 = true

section
variable {CX : CXT} {P : Program} {w : World} {K : PySem.W.Frag} {mg : Str → Option Value} {base : Heap} {k : Nat} {f cc cda : Addr} {name qual : Str} {params : Arguments} {scope : Scope} {dV kV doc pm ct oc : Value} {an od : Option Addr}
    {osl : Array (Option Value)} {N ps : List Str} {sp : Sp} {e : PySem.Expr} {es : List PySem.Expr} {rest : List Stmt} {m : Str} {p0 p1 apos pos epos : Pos} {pl : Sem Bool}
theorem fn_super (lk : K.lookup f = some ⟨oc, od, .func (PySem.W.ksFn name qual params (.Expr (.Call (.Attribute (.Call (.Name "super" p0) [] [] p1) m apos) (e :: es) [] pos) epos :: rest) scope dV kV doc pm an (.ref cda) ct cc), osl⟩)
    (hcd : PySem.W.codeIn K (.ref cda) qual = true) (S : ScS N ps scope)
    {ar : Arg} (hp0 : (params.posonlyargs ++ params.args).head? = some ar) (hps : ps.head? = some ar.arg) (hN0 : N.head? = some ar.arg) (har : scope.names.lookup ar.arg = some .local)
    (hks : scope.names.lookup ("super" : Str) = some .globalImplicit) (hkc : scope.names.lookup ("__class__" : Str) = some .free) (hmc : (m == ("__class__" : Str)) = false)
    (len : ∀ vs H Q E, sp vs H Q E → vs.length = ps.length)
    (hbody : ∀ (A : Around) (outer : List Env) (s : Shared) (H : Hp) (vs : List V) (Q : VK) (E : XK), Room k (A.deeper (PySem.W.ksEnv qual scope s.heap.objs.size f (.ref cda) cc)) → sp vs H Q E →
      ∃ (x C D dx f2 : Addr) (fs : List (Str × V)) (vs' : List V) (ta : TA) (u : TS) (spM : Sp) (CX' : CXT) (E' : XK), vs = .ref x :: vs' ∧ H x = some (.ins C dx fs) ∧ SupT P K mg C D cc cda m f2 ∧
        PA (cxS CX P w K mg base N qual scope f (.ref cda) cc A outer s H E) (e :: es) ta ∧ FnR P w K mg base CX' k f2 spM ∧ Passes CX' (cxS CX P w K mg base N qual scope f (.ref cda) cc A outer s H E) E' ∧
        PSs (cxS CX P w K mg base N qual scope f (.ref cda) cc A outer s H E) rest u ∧
        ta (start N vs) H (fun ws H1 => spM (.ref x :: ws) H1 (fun _ H2 => u { nx := fun _ H' => Q .non H', rt := Q } (start N vs) H2) E'))
    (hi : ∀ L, interactive (PySem.W.ksEnv qual scope L f (.ref cda) cc) = false) (hsw : ∀ L, swapsWith (.Call (.Attribute (.Call (.Name "super" p0) [] [] p1) m apos) (e :: es) [] pos) none epos.line (PySem.W.ksEnv qual scope L f (.ref cda) cc) = pure false)
    (he : ∀ L, eval (.Call (.Attribute (.Call (.Name "super" p0) [] [] p1) m apos) (e :: es) [] pos) (PySem.W.ksEnv qual scope L f (.ref cda) cc) = (do
      let ov ← attributeBase (.Call (.Name "super" p0) [] [] p1) m (PySem.W.ksEnv qual scope L f (.ref cda) cc) (eval (.Call (.Name "super" p0) [] [] p1) (PySem.W.ksEnv qual scope L f (.ref cda) cc))
      standAt apos.atName
      let (fn, first) ← holding [ov] (getMethod ov m pl)
      callWith pos fn first (backTo pos (starEach (e :: es) (PySem.W.ksEnv qual scope L f (.ref cda) cc))) []))
    (hst : ∀ L, starEach (e :: es) (PySem.W.ksEnv qual scope L f (.ref cda) cc) = (false, eval e (PySem.W.ksEnv qual scope L f (.ref cda) cc)) :: starEach es (PySem.W.ksEnv qual scope L f (.ref cda) cc))
    (hpl : ∀ L, (backTo pos (starEach es (PySem.W.ksEnv qual scope L f (.ref cda) cc))).any (·.1) = false) :
    FnOk P w K mg base CX (k + 1) f (PySem.W.ksFn name qual params (.Expr (.Call (.Attribute (.Call (.Name "super" p0) [] [] p1) m apos) (e :: es) [] pos) epos :: rest) scope dV kV doc pm an (.ref cda) ct cc) ps sp := by
  refine ⟨len, fun A outer s H args us vs Q E hr e0 hb r hsp => ?_⟩
  have hl := len _ _ _ _ hsp
  have KX : K.In s.heap := e0.mod.kin.keeps fun b o e => (e0.bs b o e).1
  have lim : s.heap.NoLimit := e0.mod.nolimit.keeps fun b o e => (e0.bs b o e).1
  obtain ⟨x, C, D, dx, f2, fs, vs', ta, u, spM, CX', E', rfl, hx, T, hta, FM, hpx, hrest, hq⟩ := hbody A outer s H vs Q E (hr.deeper _) hsp
  obtain ⟨cl, cld, csl, hcell⟩ := T.cell
  obtain ⟨ccl, cdd, cvs, ccs, file, tf, hcode, hvs, hfile⟩ := T.code
  obtain ⟨cdD, hD⟩ := T.clD
  refine PySem.ks_codeAny_call_defAt (binds := ps.zip us) hr.depth (KX _ _ lk) rfl lim (PySem.W.codeRec_of KX hcd) rfl hb S.nocell (fun y hy => S.par y.1 (List.of_mem_zip hy).1) (fun h1 hns hk => ?_) S.co S.gen S.kind
  have I : Inv (cxS CX P w K mg base N qual scope f (.ref cda) cc A outer s H E) [] (start N (.ref x :: vs')) H { s with heap := h1, toks := s.toks + (ps.zip us).length } :=
    inv_startS (vs := .ref x :: vs') S hr.hd e0 hl r hcell rfl hns hk
  have hX : K.In h1 := I.kIn
  obtain ⟨mA, O, _⟩ := ins_get I.hok hx
  obtain ⟨odx, J, _⟩ := O.look
  obtain ⟨oD, hD1, hD2⟩ : ∃ oD, h1.get? D = some oD ∧ oD.data = .cls cdD := by
    unfold PySem.W.clsIn at hD
    split at hD
    · rename_i c d cd' sl ho
      cases hD
      exact ⟨_, hX _ _ ho, rfl⟩
    · cases hD
  have hbase : ∀ b o, s.heap.get? b = some o → h1.get? b = some o := hk
  refine PySem.ks_wpAt_execs_cons (PySem.ks_wpAt_Expr_any (PySem.ks_wpAt_MethodCall (pl := pl) ?_ (he _)) (hi _) (hsw _))
  refine PySem.ks_wpAt_super_base (env := PySem.W.ksEnv qual scope s.heap.objs.size f (.ref cda) cc) hks hkc hmc rfl (hX _ _ lk) rfl hp0 rfl (hX _ _ hcode) rfl hvs hfile T.top ?_
  obtain ⟨mb, hb1, hb2⟩ := I.mod.blt
  refine PySem.W.ks_loadName_global S.kind hks (Calls.loadGlobal_builtin (env := PySem.W.ksEnv qual scope s.heap.objs.size f (.ref cda) cc) (I.mod.glob.keeps I.bk) T.sup (hb1.keeps I.bk) ((hb2 _ (by decide +kernel)).trans (show bootBuiltins "super" = some (.type "super") by first | rfl | kernel_rfl)) ⟨rfl, ?_⟩)
  refine wpAny_loadName_free S.kind hkc (by show List.lookup _ [_] = _; simp [List.lookup]) ⟨_, hX _ _ hcell, rfl⟩ ?_
  have hself : (ps.zip us).reverse.lookup ar.arg = some (.ref x) := by
    match ps, us, hps, r with
    | p :: ps', u' :: us', hp', .cons ru _ =>
      have hp'' : p = ar.arg := by simpa using hp'
      subst hp''
      cases (show u' = Value.ref x from ru)
      have ndP : (ar.arg :: ps').Nodup := by
        have := S.pre
        rw [← this]
        exact S.nd.sublist (List.take_sublist _ _)
      exact rev_lookup (i := 0) ndP rfl rfl
  refine wpAny_loadName_local S.kind har hns hself ?_
  refine PySem.ks_wpAny_isType_cls hD1 hD2 ⟨rfl, ?_⟩
  refine PySem.ks_wpAny_call_super hD1 hD2 J.at_ J.cls (fun c e => ?_) (PySem.W.looks_mroIn hX T.sub) (fun h' hso k' => ?_)
  · have := J.no
    unfold PySem.W.notCls at this
    rw [e] at this
    exact Bool.noConfusion this
  -- the super object is pinned
  have I1 : Inv (cxS CX P w K mg base N qual scope f (.ref cda) cc A outer s H E) [(h1.objs.size, PySem.W.ks_superObj D x C)] (start N (.ref x :: vs')) H { s with heap := h', toks := s.toks + (ps.zip us).length } :=
    ClX.pin_new (s := { s with heap := h1, toks := s.toks + (ps.zip us).length }) (t' := s.toks + (ps.zip us).length) I k' (Nat.le_refl _) hso (fun v z => nomatch z)
  have hX' : K.In h' := I1.kIn
  have fnd := T.fnd
  cases hc : PySem.W.clsIn K C with
  | none => unfold PySem.W.ks_superIn at fnd; rw [hc] at fnd; cases fnd
  | some cdC =>
    unfold PySem.W.ks_superIn at fnd
    rw [hc] at fnd
    obtain ⟨of, hof, hofc⟩ : ∃ of, h'.get? f2 = some of ∧ of.cls = .type "function" := by
      have ht' : (K.lookup f2).map (·.cls) = some (.type "function") := T.ty
      cases z : K.lookup f2 with
      | none => rw [z] at ht'; cases ht'
      | some of => rw [z] at ht'; exact ⟨of, hX' _ _ z, Option.some.inj ht'⟩
    refine PySem.ks_wpAny_getMethod_super (h := h') hso (PySem.W.looks_opaque hX' T.any) (l₀ := cdC.mro) ?_ rfl hX' fnd hof hofc (PySem.W.ks_ne hX J hc) hmc ?_
    · exact fun A Q E s k q => wpAny_bind ((PySem.W.looks_clsIn hX' hc) A _ E s k (wpAny_pure q))
    · have I2 := ClX.pin_new (s := { s with heap := h', toks := s.toks + (ps.zip us).length }) (o := PySem.W.methodObj (.ref f2) (.ref x)) (t' := s.toks + (ps.zip us).length + 1) I1 (fun _ _ z => Heap.get?_push_of_some _ z) (Nat.le_refl _) (Heap.get?_push_size h' rfl) (fun v z => nomatch z)
      refine ClX.callwith_cm (X := cxS CX P w K mg base N qual scope f (.ref cda) cc A outer s H E) I2 (ClX.base_none I1 (Nat.le_refl _)) T.fi (thn (hta.run pos _ _ _ H _ I2 hq) fun us2 s3 ⟨ws, H2, I3, rv, q2⟩ => ⟨⟨ClX.pin_at I3, I3.kIn⟩, ?_⟩) (hst _) (hpl _)
      refine thn (ClX.run_cm FM (hr.deeper _) hpx I3 rv q2) fun v s4 h4 => ?_
      obtain ⟨v4, H4, I4, _, q4⟩ := ClX.unpinE h4
      refine wpAt_of_wpAny (wpAny_mono (hrest.run [] s4 _ H4 _ I4 q4) (fun fl s' hs => ?_) fun e s' hs => hs)
      have fin : ∀ {σ' : L2.St} {H' : Hp} {v : V} {u : Value}, Inv (cxS CX P w K mg base N qual scope f (.ref cda) cc A outer s H E) [] σ' H' s' → RelV v u → Q v H' → CE outer P w H s Q u s' :=
        fun {σ' H' v u} J rv q => ⟨v, H', J.os, J.bare, J.base, J.hok, rv, q⟩
      cases fl with
      | ret u =>
        obtain ⟨v, σ', H', J, rv, q⟩ := hs
        exact fin J rv q
      | next =>
        obtain ⟨σ', H', J, q⟩ := hs
        exact fin (v := V.non) (u := Value.none) J rfl q
      | brk =>
        obtain ⟨_, _, _, q⟩ := hs
        exact False.elim q
      | cont =>
        obtain ⟨_, _, _, q⟩ := hs
        exact False.elim q
end
end Ls
end
section
set_option Elab.async false
set_option linter.all false
set_option maxRecDepth 100000
set_option maxHeartbeats 4000000
namespace LsN
open PySem PySem.SeqAt
open AutoSeq1 (wpAny_loadPart')
open MeetsSeq MeetsSeq2 MeetsSeq3 SeqRoads2
section
variable {prog : Program} {w : World} {A : Around} {R : Result → Shared → Prop}
theorem ne_loopG (l b : Addr) (N : Nat) (I : Nat → Shared → Prop) (hl : GQ.ListI prog w A (fun e s' => R (.error e) s') l b N I)
    (fin : ∀ s, I N s → R (.ok (.ret (.bool false))) s) (k : Nat) :
    ∀ i : Nat, N - i = k → i ≤ N → ∀ s, I i s →
      wpAny (model prog w) A.in1 (Builtin.«list.__eq__.loop» ⟨[.ref l, .ref b, rawInt i, rawInt 3], []⟩) (GQ.FinOf prog w A R) (fun e s' => R (.error e) s') s := by
  induction k with
  | zero =>
    intro i hk hi s h
    obtain ⟨items, items2, n, n2, hl1, hb1, hs1, hs2, _⟩ := hl _ _ h
    have hi' : i = N := by omega
    have hR : R (.ok (.ret (.bool false))) s := fin s (hi' ▸ h)
    obtain ⟨hp, g, d, tk, os⟩ := s
    wp_walk using wpAny_loadPart' hl1, wpAny_loadPart' hb1
    have hi1 : items[((i : Nat) : Int).toNat]? = none := by simp; omega
    have hi2 : items2[((i : Nat) : Int).toNat]? = none := by simp; omega
    rw [hi1, hi2]
    wp_walk using wpAny_loadPart' hl1, wpAny_loadPart' hb1
    show R (.ok (.ret (.bool (items.size != items2.size)))) _
    rw [hs1, hs2]
    simpa using hR
  | succ k ih =>
    intro i hk hi s h
    obtain ⟨items, items2, n, n2, hl1, hb1, hs1, hs2, turn⟩ := hl _ _ h
    have hlt : i < items.size := by omega
    have hlt2 : i < items2.size := by omega
    have ht := turn hlt hlt2
    obtain ⟨hp, g, d, tk, os⟩ := s
    wp_walk using wpAny_loadPart' hl1, wpAny_loadPart' hb1
    have hi1 : items[((i : Nat) : Int).toNat]? = some items[i] := by simp [hlt]
    have hi2 : items2[((i : Nat) : Int).toNat]? = some items2[i] := by simp [hlt2]
    have hc : ((i : Int) + 1) = ((i + 1 : Nat) : Int) := by omega
    rw [hi1, hi2]
    refine wpAny_bind (wpAny_mono ht (fun r s2 h2 => ?_) fun _ _ x => x)
    obtain ⟨hr, h2⟩ := h2
    subst hr
    have hrec := ih (i + 1) (by omega) (by omega) s2 h2
    obtain ⟨hp2, g2, d2, tk2, os2⟩ := s2
    wp_walk
    rw [hc]
    exact ⟨plainId_quiet plain_eq_loop _, codeAny_builtin entry_eq_loop (by
      rw [Around.under_plainId plain_eq_loop _]
      exact hrec)⟩
theorem list_neG (l b : Addr) (N : Nat) (I : Nat → Shared → Prop) (hl : GQ.ListI prog w A (fun e s' => R (.error e) s') l b N I)
    (fin : ∀ s, I N s → R (.ok (.ret (.bool false))) s) {s : Shared} (h : I 0 s) :
    wpAny (model prog w) A.in1 (Builtin.«list.__ne__» ⟨[.ref l, .ref b], []⟩) (GQ.FinOf prog w A R) (fun e s' => R (.error e) s') s := by
  obtain ⟨items, items2, n, n2, hl1, hb1, hs1, hs2, _⟩ := hl _ _ h
  have hrec := ne_loopG (A := A) (R := R) l b N I hl fin _ 0 rfl (Nat.zero_le _) s h
  obtain ⟨hp, g, d, tk, os⟩ := s
  have f3 := AutoSeq1.sub_list_list
  have hne : ¬ (items.size != items2.size) = true := by simp [hs1, hs2]
  wp_walk using wpAny_loadPart' hl1, wpAny_loadPart' hb1
  exact ⟨plainId_quiet plain_eq_loop _, codeAny_builtin entry_eq_loop (by
    rw [Around.under_plainId plain_eq_loop _]
    exact hrec)⟩
end
section
variable {prog : Program} {w : World} {A : Around} {E : Value → Shared → Prop} {s : Shared}
theorem rc_listNe {l b : Addr} {N : Nat} {Q : Value → Shared → Prop} (hu : A.units < cLine) (I : Nat → Shared → Prop) (hl : GQ.ListI prog w A E l b N I)
    (fin : ∀ s, I N s → Q (.bool false) s) (h : I 0 s) : wpAny (model prog w) A (richCompare .NotEq (.ref l) (.ref b)) Q E s := by
  obtain ⟨items, items2, n, n2, hl1, hb1, _, _, _⟩ := hl _ _ h
  refine wpAny_richCompare_same_room (op := .NotEq) ⟨_, hl1, rfl⟩ ⟨_, hb1, rfl⟩ F.slot_list_ne (GQ.call_here F.slot_list_ne ⟨_, hl1, rfl⟩ F.entry_list_ne (F.args_list_ne_2 _ _) ?_) hu
  exact list_neG (R := wants (fun v s' => v ≠ .notImplemented ∧ Q v s') E) l b N I hl (fun s' q => ⟨(fun x => nomatch x), fin s' q⟩) h
end
end LsN
namespace Ls
open PySem PySem.Spec PyProof.Rows L2
section
variable {X : Cx} {n : Nat} {D : Eqv}
/-- x != y of two lists whose items are equal (by ==, which only makes objects): False -/
def rNeG (D : Eqv) : R2 := fun x y H Q => DList D x y H ∧ ∀ H', Ext H H' → Q (.bl false) H'
theorem op_neG (hD : Mon D) (h : EqG X n D) (hr : Room (n + 1) X.A) : OpR X (compareOp .NotEq) (rNeG D) := by
  intro pins s σ H x y v u Q I rx ry hq
  obtain ⟨⟨a, b, xs, ys, rfl, rfl, ha, hb, p⟩, q⟩ := hq
  cases (show v = Value.ref a from rx)
  cases (show u = Value.ref b from ry)
  show wpAny (model X.prog X.w) X.A (richCompare .NotEq (.ref a) (.ref b)) (EP X pins σ Q) X.xe s
  have sb : L2.Sub X (n + 1) X.A := ⟨hr, rfl⟩
  refine LsN.rc_listNe (N := xs.length) hr.units0 (fun _ s' => LoopI X pins σ H s') (fun i s' q => ?_) (fun s' q' => ?_) ⟨H, I, Ext.rfl'⟩
  · obtain ⟨H1, I1, e1⟩ := id q
    obtain ⟨z, its, k, r, e⟩ := I1.hok a _ (e1 _ _ ha)
    obtain ⟨z2, its2, k2, r2, e2⟩ := I1.hok b _ (e1 _ _ hb)
    refine ⟨its.toArray, its2.toArray, k, k2, e, e2, by rw [List.size_toArray, ← r.length], by rw [List.size_toArray, ← r2.length, ← p.1], fun h1 h2 => ?_⟩
    exact turnG hD h sb p r r2 i h1 h2 s' q
  · obtain ⟨H', I', e'⟩ := q'
    exact ⟨.bl false, H', I', rfl, q H' e'⟩
end
end Ls
end
section
set_option Elab.async false
set_option linter.all false
set_option maxRecDepth 100000
set_option maxHeartbeats 4000000
namespace Ls
open PySem PySem.Spec PyProof.Rows L2

/-! ### callees in one word -/
section
variable (P : Program) (w : World) (K : PySem.W.Frag) (mg : Str → Option Value) (base : Heap) (CX : CXT) (k : Nat)
/-- the def under the module's name x keeps sp -/
structure Cal (x : Str) (sp : Sp) : Prop where
  ex : ∃ f, mg x = some (.ref f) ∧ PySem.W.keepIn K (.ref f) = true ∧ FnR P w K mg base CX k f sp
/-- .. called with one keyword -/
structure CalK (x a : Str) (sp : Sp) : Prop where
  ex : ∃ f fd, mg x = some (.ref f) ∧ PySem.W.keepIn K (.ref f) = true ∧ KBn K fd [a] 0 [a] (fun _ ws => ws) (fun _ zs => zs) ∧ FnOk P w K mg base CX k f fd [a] sp
/-- the class at C under the module's name x; its __init__ keeps sp -/
structure Mkc (C : Addr) (x : Str) (sp : Sp) : Prop where
  ex : ∃ f, mg x = some (.ref C) ∧ Mk K C f ∧ FnR P w K mg base CX k f sp
/-- the classmethod m of the class at C keeps sp -/
structure Clm (C : Addr) (m : Str) (sp : Sp) : Prop where
  ex : ∃ mc p g, ClX.CRead K C mc ∧ ClX.CMet K C mc m p g ∧ FnR P w K mg base CX k g sp
end
def tCl (sp : Sp) (E : XK) (t : TA) : TE := fun σ H Q => t σ H fun vs H1 => sp vs H1 Q E
section
variable {X : Cx} {CX : CXT} {k : Nat} {C : Addr} {sp : Sp} {E : XK} {x m a : Str} {p pos apos : Pos} {e o : PySem.Expr} {es : List PySem.Expr} {kws : List Keyword} {ta : TE} {t tk : TA} {pl : Sem Bool}
theorem pe_cal (c : Cal X.prog X.w X.K X.mg X.base CX k x sp) (hr : Room k X.A) (hg : Gl X x) (hx : Passes CX X E) (ha : PA X (e :: es) t) (hd : (x == ("__debug__" : Str)) = false := by decide)
    (he : starEach (e :: es) X.env = (false, eval e X.env) :: starEach es X.env := by rfl) (hpl : (backTo pos (starEach es X.env)).any (·.1) = false := by rfl) :
    PE X (.Call (.Name x p) (e :: es) [] pos) (tCl sp E t) := by
  obtain ⟨f, hm, hk, F⟩ := c.ex
  refine ⟨fun pins s σ H Q I h => ?_⟩
  refine wpAny_Call_Name_kw (ld_glob I hg hm ?_ hd)
  refine PySem.W.callWith_K (h₀ := X.base) I.ok.mod.kin hk (thn (ha.run pos pins s σ H _ I h) fun us s1 ⟨vs, H1, I1, r, q⟩ => ⟨I1.kIn, ?_⟩) he hpl
  exact wpAny_call (run_fnR F hr hx I1 r q)
theorem pe_calk (c : CalK X.prog X.w X.K X.mg X.base CX k x a sp) (hr : Room k X.A) (hg : Gl X x) (hx : Passes CX X E)
    (hkw : PK X kws tk) (hall : (backToKw pos (keywordEach kws X.env)).all (·.1.isSome) = true := by rfl) (hks : (backToKw pos (keywordEach kws X.env)).filterMap (·.1) = [a] := by rfl)
    (hdb : (x == ("__debug__" : Str)) = false := by decide)
    (hpl : ((backTo pos (starEach [] X.env)).any (·.1) || (backToKw pos (keywordEach kws X.env)).any (·.1.isNone)) = false := by rfl) :
    PE X (.Call (.Name x p) [] kws pos) (tCallN 0 1 sp (fun _ zs => zs) E tNil tk) := by
  obtain ⟨f, fd, hm, hk, hb, F⟩ := c.ex
  exact pe_callK0 F hr hg hm hk hb hx hkw hall hks hdb hpl
theorem pe_mkc (c : Mkc X.prog X.w X.K X.mg X.base CX k C x sp) (hr : Room (k + 1) X.A) (hg : Gl X x) (hx : Passes CX X E) (ha : PA X (e :: es) t) (hdb : (x == ("__debug__" : Str)) = false := by decide)
    (he : starEach (e :: es) X.env = (false, eval e X.env) :: starEach es X.env := by rfl) (hpl : (backTo pos (starEach es X.env)).any (·.1) = false := by rfl) :
    PE X (.Call (.Name x p) (e :: es) [] pos) (StX.tMakeR C sp E t) := by
  obtain ⟨f, hm, M, F⟩ := c.ex
  exact StX.pe_makeR M F hr hg hm hx ha hdb he hpl
theorem pe_clm (c : Clm X.prog X.w X.K X.mg X.base CX k C m sp) (hr : Room k X.A) (ho : PE X o ta) (hx : Passes CX X E) (ha : PA X (e :: es) t)
    (hst : starEach (e :: es) X.env = (false, eval e X.env) :: starEach es X.env := by rfl) (hpl : (backTo pos (starEach es X.env)).any (·.1) = false := by rfl)
    (ht : eval (.Call (.Attribute o m apos) (e :: es) [] pos) X.env = (do
      let ov ← eval o X.env
      standAt apos.atName
      let (f, first) ← holding [ov] (getMethod ov m pl)
      callWith pos f first (backTo pos (starEach (e :: es) X.env)) (backToKw pos (keywordEach [] X.env))) := by rfl) :
    PE X (.Call (.Attribute o m apos) (e :: es) [] pos) (ClX.tCMeth C sp E ta t) := by
  obtain ⟨mc, p, g, r, c, F⟩ := c.ex
  exact ClX.pe_cmeth (pl := pl) ho r c F hr hx ha hst hpl ht
end

theorem iteNo {c : Bool} {A B : Prop} (hc : c = false) (h : B) : if c = true then A else B := by rw [hc, if_neg Bool.false_ne_true]; exact h
theorem strNo {a b : Str} (h : ¬ a = b) : decide (V.str a = V.str b) = false := decide_eq_false fun e => h (V.str.inj e)
theorem iteYes {c : Bool} {A B : Prop} (hc : c = true) (h : A) : if c = true then A else B := by rw [hc, if_pos rfl]; exact h
/-! ### constants of the module -/
section
variable {X : Cx} {x z : Str} {i : Int} {tk : Tok} {a : Addr} {pos : Pos}
theorem pe_gstr (hg : Gl X x) (hm : X.mg x = some (.str z tk)) (hd : (x == ("__debug__" : Str)) = false := by decide) : PE X (.Name x pos) (tC (.str z)) := pe_glob hg hm ⟨_, rfl⟩ hd
theorem pe_gint (hg : Gl X x) (hm : X.mg x = some (.int i tk)) (hd : (x == ("__debug__" : Str)) = false := by decide) : PE X (.Name x pos) (tC (.int i)) := pe_glob hg hm ⟨_, rfl⟩ hd
theorem pe_gref (hg : Gl X x) (hm : X.mg x = some (.ref a)) (hd : (x == ("__debug__" : Str)) = false := by decide) : PE X (.Name x pos) (tC (.ref a)) := pe_glob hg hm rfl hd
theorem pe_gty {T : String} (hg : Gl X x) (hm : X.mg x = none) (hv : bootBuiltins x = some (.type T)) (hn : x ≠ "__name__" := by decide) (hd : (x == ("__debug__" : Str)) = false := by decide) : PE X (.Name x pos) (tC (.ty T)) := pe_bltn hg hm hv rfl hn hd
end

/-! ### what a dict's table says behind a store -/
theorem len_put {κ : Type} [DecidableEq κ] {kvs : List (κ × V)} {k : κ} {x v : V} (h : valV kvs k = some x) : (putK kvs k v).length = kvs.length := by
  unfold putK
  rw [valV_any, h]
  simp
theorem val_same {κ : Type} [DecidableEq κ] {kvs : List (κ × V)} {k : κ} {v : V} : valV (putK kvs k v) k = some v := by rw [valV_put, if_pos rfl]
theorem val_other {κ : Type} [DecidableEq κ] {kvs : List (κ × V)} {k j : κ} {v : V} {r : Option V} (hne : ¬ j = k) (h : valV kvs j = r) : valV (putK kvs k v) j = r := by rw [valV_put, if_neg hne]; exact h

/-! ### heaps that keep all but two objects -/
def Keep (p c : Addr) (H H' : Hp) : Prop := ∀ b o, H b = some o → b ≠ p → b ≠ c → H' b = some o
theorem Keep.refl {p c : Addr} {H : Hp} : Keep p c H H := fun _ _ e _ _ => e
theorem Keep.trans {p c : Addr} {H H1 H2 : Hp} (a : Keep p c H H1) (b : Keep p c H1 H2) : Keep p c H H2 := fun d o e h1 h2 => b d o (a d o e h1 h2) h1 h2
theorem Keep.upd1 {p c : Addr} {H : Hp} {o : HO} : Keep p c H (upd H p o) := fun b u e h1 _ => by rw [upd_ne h1]; exact e
theorem Keep.upd2 {p c : Addr} {H : Hp} {o : HO} : Keep p c H (upd H c o) := fun b u e _ h2 => by rw [upd_ne h2]; exact e
theorem Keep.ext {p c : Addr} {H H' : Hp} (e : Ext H H') : Keep p c H H' := fun b o h _ _ => e b o h
theorem Keep.new {p c a : Addr} {H : Hp} {o : HO} (h : H a = none) : Keep p c H (upd H a o) := Keep.ext (Ext.upd h)

/-! ### rules within a comprehension's block: the written part by its own name -/
section
variable {X : Cx} {K : PySem.W.Frag}
theorem pi_listK {tg l : PySem.Expr} {tl : TE} (hK : X.K = K) (hl : PE X l tl) : PI X tg l (iList K tl) := by subst hK; exact pi_list hl
theorem pi_tupK {tg l : PySem.Expr} {tl : TE} (hK : X.K = K) (hl : PE X l tl) : PI X tg l (iTup K tl) := by subst hK; exact pi_tup hl
def rTupOf (K : PySem.W.Frag) : List V → Hp → VK → Prop := fun xs H Q => ∃ p ys, xs = [.ref p] ∧ ((SqL K H p ys ∧ ∀ l, H l = none → Q (.ref l) (upd H l (.tup ys))) ∨ (SqT K H p ys ∧ Q (.ref p) H))
theorem call_tupK (hK : X.K = K) : CallR X (.type "tuple") (rTupOf K) := by subst hK; exact call_tuple_of
def rLenSeq (K : PySem.W.Frag) : List V → Hp → VK → Prop := fun xs H Q => ∃ p ys, xs = [.ref p] ∧ (SqL K H p ys ∨ SqT K H p ys) ∧ Q (.int ys.length) H
theorem call_lenK (hK : X.K = K) : CallR X (.builtin "len") (rLenSeq K) := by subst hK; exact call_len_seq
theorem call_isiB (hK : X.K = K) : CallR X (.builtin "isinstance") (rIsi K) := by subst hK; exact call_isi
def rJoinK (K : PySem.W.Frag) : V → List V → Hp → VK → Prop := fun x xs H Q => ∃ a p, ∃ ys : List Str, x = .str a ∧ xs = [.ref p] ∧ (SqL K H p (ys.map V.str) ∨ SqT K H p (ys.map V.str)) ∧ (ys.map (·.length)).sum + ys.length * a.length ≤ 16777216 ∧ Q (.str (Txt.join a ys)) H
theorem pe_joinK {o e : PySem.Expr} {to te : TE} {apos pos : Pos} (hK : X.K = K) (ho : PE X o to) (he : PE X e te) (hs : starEach [e] X.env = [(false, eval e X.env)] := by rfl) (hbase : attributeBase o "join" X.env (eval o X.env) = eval o X.env := by rfl) (hline : (apos.endLine == pos.line) = true := by rfl) :
    PE X (.Call (.Attribute o "join" apos) [e] [] pos) (tM1 (rJoinK K) to te) := by subst hK; exact pe_join ho he hs hbase hline
end

/-! ### a list beside [] -/
def rNeNil : R2 := fun x y H Q => ∃ a b xs, x = .ref a ∧ y = .ref b ∧ H a = some (.lst xs) ∧ H b = some (.lst []) ∧ Q (.bl (!xs.isEmpty)) H
def rEqNil : R2 := fun x y H Q => ∃ a b xs, x = .ref a ∧ y = .ref b ∧ H a = some (.lst xs) ∧ H b = some (.lst []) ∧ Q (.bl xs.isEmpty) H
section
variable {X : Cx}
theorem op_neNil {k : Nat} (hr : Room k X.A) : OpR X (compareOp .NotEq) rNeNil := by
  intro pins s σ H x y v u Q I rx ry hq
  obtain ⟨a, b, xs, rfl, rfl, ha, hb, q⟩ := hq
  cases (show v = Value.ref a from rx)
  cases (show u = Value.ref b from ry)
  show wpAny (model X.prog X.w) X.A (richCompare .NotEq (.ref a) (.ref b)) (EP X pins σ Q) X.xe s
  obtain ⟨its, r, p1, _⟩ := I.list (SqL.of (K := X.K) ha)
  obtain ⟨its2, r2, p2, _⟩ := I.list (SqL.of (K := X.K) hb)
  cases r2
  cases r with
  | nil => exact SeqAt.RcNeAt.lists (e := fun _ => true) p1.isList p2.isList rfl hr.units0 (fun j h1 _ => absurd h1 (by simp)) X.prog X.w X.xe _ ⟨.bl false, H, I, rfl, q⟩
  | cons r0 r1 => exact SeqAt.RcNeAt.lists_lengths p1.isList p2.isList (by simp) hr.units0 X.prog X.w X.xe _ ⟨.bl true, H, I, rfl, q⟩
theorem op_eqNil {k : Nat} (hr : Room k X.A) : OpR X (compareOp .Eq) rEqNil := by
  intro pins s σ H x y v u Q I rx ry hq
  obtain ⟨a, b, xs, rfl, rfl, ha, hb, q⟩ := hq
  cases (show v = Value.ref a from rx)
  cases (show u = Value.ref b from ry)
  show wpAny (model X.prog X.w) X.A (richCompare .Eq (.ref a) (.ref b)) (EP X pins σ Q) X.xe s
  obtain ⟨its, r, p1, _⟩ := I.list (SqL.of (K := X.K) ha)
  obtain ⟨its2, r2, p2, _⟩ := I.list (SqL.of (K := X.K) hb)
  cases r2
  cases r with
  | nil => exact SeqAt.RcAt.lists (e := fun _ => true) p1.isList p2.isList rfl hr.units0 (fun j h1 _ => absurd h1 (by simp)) X.prog X.w X.xe _ ⟨.bl true, H, I, rfl, q⟩
  | cons r0 r1 => exact SeqAt.RcAt.lists_lengths p1.isList p2.isList (by simp) hr.units0 X.prog X.w X.xe _ ⟨.bl false, H, I, rfl, q⟩
end
end Ls
end
section
set_option Elab.async false
set_option linter.all false
set_option maxRecDepth 100000
set_option maxHeartbeats 4000000
namespace Ls
open PySem PySem.Spec PyProof.Rows L2

/-! ### parts of a heap -/
/-- what is new in H' beside H -/
def nw (H H' : Hp) : Hp := fun b => match H b with | none => H' b | some _ => none
theorem nw_at {H H' : Hp} {b : Addr} (h : H b = none) : nw H H' b = H' b := by unfold nw; rw [h]
theorem nw_some {H H' : Hp} {b : Addr} {o : HO} (h : nw H H' b = some o) : H b = none ∧ H' b = some o := by
  unfold nw at h
  cases e : H b with
  | none => rw [e] at h; exact ⟨rfl, h⟩
  | some u => rw [e] at h; cases h
theorem nw_ext {H H' : Hp} : Ext (nw H H') H' := fun a o e => (nw_some e).2
/-- new beside H1, where H1 has grown from H: new beside H -/
theorem nw_back {H H1 H2 : Hp} (e : Ext H H1) : Ext (nw H1 H2) (nw H H2) := fun a o h => by
  obtain ⟨h1, h2⟩ := nw_some h
  have : H a = none := by
    cases q : H a with
    | none => rfl
    | some u => rw [e a u q] at h1; cases h1
  rw [nw_at this]; exact h2
theorem nw_more {H H1 H2 : Hp} (e : Ext H1 H2) : Ext (nw H H1) (nw H H2) := fun a o h => by
  obtain ⟨h1, h2⟩ := nw_some h
  rw [nw_at h1]; exact e a o h2
/-- H without the objects at S -/
def hid (S : List Addr) (H : Hp) : Hp := fun b => if b ∈ S then none else H b
theorem hid_at {S : List Addr} {H : Hp} {b : Addr} (h : b ∉ S) : hid S H b = H b := by unfold hid; rw [if_neg h]
theorem hid_some {S : List Addr} {H : Hp} {b : Addr} {o : HO} (h : hid S H b = some o) : b ∉ S ∧ H b = some o := by
  unfold hid at h
  by_cases e : b ∈ S
  · rw [if_pos e] at h; cases h
  · rw [if_neg e] at h; exact ⟨e, h⟩
theorem hid_ext {S : List Addr} {H : Hp} : Ext (hid S H) H := fun a o e => (hid_some e).2
theorem hid_nil {H : Hp} : hid [] H = H := by funext b; unfold hid; simp
theorem hid_mono {S : List Addr} {H H' : Hp} (e : Ext H H') : Ext (hid S H) (hid S H') := fun a o h => by
  obtain ⟨h1, h2⟩ := hid_some h
  rw [hid_at h1]; exact e a o h2
/-- a fresh place more is hidden -/
theorem hid_cons {S : List Addr} {H : Hp} {D : Addr} (h : H D = none) : Ext (hid S H) (hid (D :: S) H) := fun a o e => by
  obtain ⟨h1, h2⟩ := hid_some e
  have : a ≠ D := ne_of_none h2 h
  rw [hid_at (by simp [this, h1])]; exact h2
theorem hid_less {S S' : List Addr} {H : Hp} (h : ∀ b ∈ S', b ∈ S) : Ext (hid S H) (hid S' H) := fun a o e => by
  obtain ⟨h1, h2⟩ := hid_some e
  rw [hid_at fun z => h1 (h a z)]; exact h2
theorem hid_upd {S : List Addr} {H : Hp} {D : Addr} {o : HO} (h : D ∈ S) : hid S (upd H D o) = hid S H := by
  funext b
  unfold hid
  by_cases e : b ∈ S
  · rw [if_pos e, if_pos e]
  · rw [if_neg e, if_neg e, upd_ne (show b ≠ D from fun z => e (by rw [z]; exact h))]
theorem hid_upd_new {S : List Addr} {H : Hp} {a : Addr} {o : HO} (h : H a = none) : Ext (hid S H) (hid S (upd H a o)) := hid_mono (Ext.upd h)
/-- what is new beside H lies outside of what stood -/
theorem nw_hid {S : List Addr} {H H' : Hp} (h : ∀ b ∈ S, H b ≠ none) : Ext (nw H H') (hid S H') := fun a o e => by
  obtain ⟨h1, h2⟩ := nw_some e
  rw [hid_at fun z => h a z h1]; exact h2
theorem hid_keep {p c : Addr} {H H' : Hp} (k : Keep p c H H') : Ext (hid [p, c] H) (hid [p, c] H') := fun a o e => by
  obtain ⟨h1, h2⟩ := hid_some e
  rw [hid_at h1]
  exact k a o h2 (fun z => h1 (by simp [z])) fun z => h1 (by simp [z])

theorem hid_keepS {p c : Addr} {S : List Addr} {H H' : Hp} (k : Keep p c H H') (hp : p ∈ S) (hc : c ∈ S) : Ext (hid S H) (hid S H') := fun a o e => by
  obtain ⟨h1, h2⟩ := hid_some e
  rw [hid_at h1]
  exact k a o h2 (fun z => h1 (by rw [z]; exact hp)) fun z => h1 (by rw [z]; exact hc)
theorem Ext.at' {S : List Addr} {H H' : Hp} (e : Ext (hid S H) (hid S H')) {a : Addr} {o : HO} (h : a ∉ S) (q : H a = some o) : H' a = some o := (hid_some (e a o (by rw [hid_at h]; exact q))).2

/-! ### a comprehension that makes one item a turn: R tells what the items are, in the heap without S -/
section
variable {J : It} {n : Nat} {G : Hp → Prop} {Y : Nat → Hp → V → Hp → Prop} {g : TG} {te : TE} {vs : List Nat} {σ : L2.St} {H1 : Hp} {D : Addr} {Qd : Hp → Prop}
theorem lc_map (w : Walk J n G Y) (S : List Addr) (hS : D ∈ S) (Iv : Hp → Prop) (R : Nat → V → Hp → Prop) (hn : n ≤ 100000) (hm : ∀ j y H H', Ext H H' → R j y H → R j y H')
    (hIv : ∀ H o, Iv H → Iv (upd H D o)) (h0 : Iv (upd H1 D (.lst []))) (hG : ∀ H, Ext (hid S H1) (hid S H) → Iv H → G H)
    (hs : ∀ i x H H' acc (C : VK), i < n → Ext (hid S H1) (hid S H) → Iv H → H D = some (.lst acc) → Y i H x H' → (∀ y H4, H4 D = some (.lst acc) → Ext (hid S H) (hid S H4) → Iv H4 → R i y (hid S H4) → C y H4) →
      g x (wipe σ vs) H' fun σ2 H2 => wipe σ2 vs = wipe σ vs ∧ te σ2 H2 C)
    (hd : ∀ H ys, Ext (hid S H1) (hid S H) → Iv H → H D = some (.lst ys) → ys.length = n → (∀ j y, ys[j]? = some y → R j y (hid S H)) → Qd H) :
    ∃ W : Nat → Nat → Hp → Prop, (∃ m, W 0 m (upd H1 D (.lst []))) ∧ ∀ i m H, W i m H →
      (J.stop i H ∧ Qd H) ∨ (J.go i H ∧ ∃ Nx : Hp → Prop, (∀ H', Nx H' → ∃ m', m' < m ∧ W (i + 1) m' H') ∧ ∀ x H', J.yld i H x H' → g x (wipe σ vs) H' fun σ2 H2 => wipe σ2 vs = wipe σ vs ∧ tYes σ2 H2 fun b H3 =>
        if b = true then te σ2 H3 fun y H4 => ∃ acc, H4 D = some (.lst acc) ∧ acc.length < sizeLine ∧ Nx (upd H4 D (.lst (acc ++ [y]))) else Nx H3) := by
  refine lc_it w (fun i H => ∃ ys : List V, H D = some (.lst ys) ∧ ys.length = i ∧ Ext (hid S H1) (hid S H) ∧ Iv H ∧ ∀ j y, ys[j]? = some y → R j y (hid S H))
    ⟨[], upd_same, rfl, by rw [hid_upd hS]; exact Ext.rfl', h0, fun j y e => by simp at e⟩ (fun i H _ ⟨_, _, _, e, iv, _⟩ => hG H e iv) ?_ ?_
  · rintro i x H H' hi ⟨ys, hD, hl, e, iv, r⟩ y
    refine hs i x H H' ys _ hi e iv hD y fun v H4 h4 e4 iv4 r4 => ?_
    refine ⟨ys, h4, Nat.lt_of_le_of_lt (show ys.length ≤ 100000 by omega) (by decide), ys ++ [v], upd_same, by rw [List.length_append, hl]; rfl, by rw [hid_upd hS]; exact e.trans e4, hIv _ _ iv4, fun j z hz => ?_⟩
    rw [hid_upd hS]
    by_cases hj : j < ys.length
    · rw [List.getElem?_append_left hj] at hz
      exact hm j z _ _ e4 (r j z hz)
    · rw [List.getElem?_append_right (by omega)] at hz
      have : j = i := by
        cases q : j - ys.length with
        | zero => omega
        | succ k => rw [q] at hz; simp at hz
      subst this
      rw [hl] at hz
      simp at hz
      subst hz
      exact r4
  · rintro H ⟨ys, hD, hl, e, iv, r⟩
    exact hd H ys e iv hD hl r
end
end Ls
end
section
set_option Elab.async false
set_option linter.all false
set_option maxRecDepth 100000
set_option maxHeartbeats 4000000
namespace Ls
open PySem PySem.Spec PyProof.Rows L2

/-! ### an exception that is kept as a value -/
/-- at a: an exception of the class cls, its dict at d -/
def exk (a : Addr) (cls : Value) (d : Option Addr) : HO := .ext fun h => ∃ (oe : Obj) (vs : Array Value), h.get? a = some oe ∧ Zc cls d oe ∧ oe.data = .fields vs
theorem exk_ok {P : Program} {w : World} {H : Hp} {h : Heap} {a : Addr} {cls : Value} {d : Option Addr} {oe : Obj} {vs : Array Value} (e : h.get? a = some oe) (z : Zc cls d oe) (q : oe.data = .fields vs) : ObjOk P w H h a (exk a cls d) :=
  ⟨⟨oe, vs, e, z, q⟩, ⟨oe, e⟩, fun _ _ ⟨o, v, q, r⟩ k => ⟨o, v, k o q, r⟩⟩
theorem exk_at {P : Program} {w : World} {H : Hp} {h : Heap} {a : Addr} {cls : Value} {d : Option Addr} (hok : HOk P w H h) (e : H a = some (exk a cls d)) : ∃ (oe : Obj) (vs : Array Value), h.get? a = some oe ∧ Zc cls d oe ∧ oe.data = .fields vs := by
  have x : ObjOk P w H h a (.ext fun h => ∃ (oe : Obj) (vs : Array Value), h.get? a = some oe ∧ Zc cls d oe ∧ oe.data = .fields vs) := hok a _ e
  exact x.1
section
variable {X : Cx} {pins : List (Addr × Obj)} {σ : L2.St} {H : Hp} {s : Shared}
/-- an object that stands and is not known from before is tracked from now on -/
theorem inv_track {a : Addr} {o : HO} (I : Inv X pins σ H s) (hn : H a = none) (h0 : X.s_0.heap.get? a = none) (hl : a ≠ X.env.locals) (hc : ∀ x c, X.env.cells.lookup x = some c → c ≠ a) (hp : ∀ p ∈ X.pn ++ pins, p.1 ≠ a)
    (new : ObjOk X.prog X.w (upd H a o) s.heap a o) : Inv X pins σ (upd H a o) s := by
  have n0 : ∀ b u, X.s_0.heap.get? b = some u → b ≠ a := fun b u e z => by
    rw [z, h0] at e
    cases e
  refine ⟨I.ok, I.os, I.bare, ⟨I.base.keep, I.base.slot, fun b u e n hq => ?_, I.base.there, fun b xs e => ?_, fun b u v e => ?_, fun b ps e => ?_⟩, I.loc, I.cell, ?_, fun x c e => ?_, fun p q => ?_, I.hok.laidN (fun _ _ z => z) hn new, I.len⟩
  · rw [upd_ne (n0 b u e)]
    exact I.base.free b u e n hq
  · have q := I.base.tups b xs e
    rw [upd_ne (ne_of_none q hn)]
    exact q
  · have q := I.base.frzs b u v e
    rw [upd_ne (ne_of_none q hn)]
    exact q
  · obtain ⟨m, q⟩ := I.base.tbls b ps e
    exact ⟨m, by rw [upd_ne (ne_of_none q hn)]; exact q⟩
  · rw [upd_ne (Ne.symm hl)]
    exact I.free
  · rw [upd_ne (hc x c e)]
    exact I.freeC x c e
  · obtain ⟨z1, z2, z3⟩ := I.pin p q
    exact ⟨z1, by rw [upd_ne (hp p q)]; exact z2, z3⟩
theorem inv_suite0 (I : Inv X pins σ H s) (a : Addr) : Inv (X.suite a (X.pn ++ pins)) [] σ H s :=
  ⟨I.ok.suite _ _, I.os, I.bare, I.base, I.loc, I.cell, I.free, I.freeC, fun p hp => I.pin p (by rw [List.append_nil] at hp; exact hp), I.hok, I.len⟩
theorem inv_unsuite0 {a : Addr} {pn' : List (Addr × Obj)} (I : Inv (X.suite a (X.pn ++ pins)) pn' σ H s) (ok : X.Ok) : Inv X pins σ H s :=
  ⟨ok, I.os, I.bare, I.base, I.loc, I.cell, I.free, I.freeC, fun p hp => I.pin p (List.mem_append_left _ hp), I.hok, I.len⟩
end
/-- what the clause 'except x as n' wishes, the exception tracked in the suite and behind it -/
def wAsk (K : PySem.W.Frag) (c : Value) (i : Nat) (ts : TS) (Wout : WX) (D : Ends) : WX := fun cls d σ H =>
  ∃ b, PySem.W.exmOne K cls c = some b ∧ (b = true → ∀ a, H a = none → ts { nx := fun σ' H' => D.nx (σ'.set i none) H', rt := D.rt, bk := fun σ' H' => D.bk (σ'.set i none) H', ct := fun σ' H' => D.ct (σ'.set i none) H' } (σ.set i (some (.ref a))) (upd H a (exk a cls d))) ∧
    (b = false → Wout cls d σ H)
section
variable {X : Cx} {x n : Str} {c : Value} {i : Nat} {body suite : List Stmt} {b₀ : Stmt} {np pos pos' : Pos} {tb : WX → TS} {ts : TS} {Wout : WX}
theorem ps_try_ask (hs : X.stack = X.env :: X.outer) (hf : X.env.frame = some X.env.locals) (hN : X.N.Nodup) (hi : X.N[i]? = some n) (hln : X.env.kindOf n = some .local) (hc : Names X x c) (tk : Takes X Wout) (hx : X.ex = [])
    (hb : ∀ (W : WX) (pn : List (Addr × Obj)) (xe : Value → Shared → Prop), Takes (X.tr pn xe) W → PassesOwn (model X.prog X.w) X.A X.env xe → PSs (X.tr pn xe) body (tb W))
    (hsu : ∀ (a : Addr) (pn : List (Addr × Obj)), PSs (X.suite a pn) (b₀ :: suite) ts) :
    PS X (.Try body [.ExceptHandler (some (.Name x np)) (some n) (b₀ :: suite) pos'] [] [] pos) (fun D σ H => tb (wAsk X.K c i ts Wout D) D σ H) := by
  refine ⟨fun pins s σ H D I h => ?_⟩
  have ok := I.ok
  have hfr : X.A.frames = some (X.env :: X.outer) := by rw [ok.frames, hs]
  refine wpAny_Try_except ?_
  refine wpAny_mono ((hb (wAsk X.K c i ts Wout D) (X.pn ++ pins) (fun e s₁ => wpAny (model X.prog X.w) X.A (noteFrame e X.env) (fun _ s₂ => wpAny (model X.prog X.w) X.A (setFlight e none) (fun _ s₃ =>
    wpAny (model X.prog X.w) X.A (handleBy e X.env [.ExceptHandler (some (.Name x np)) (some n) (b₀ :: suite) pos']) (SP X pins D) X.xe s₃) X.xe s₂) X.xe s₁) (fun u s' xx => ?_) PassesOwn.looking).run [] s σ H D (I.toTry _) h) (fun f s1 hsp => ?_) (fun e s1 he => he)
  · obtain ⟨a, B, sI, pins', σ', H', cls, d, rfl, J', nb, up, sky, na, os, ag, b, hb1, hyes, hno⟩ := xx
    have J : Inv X pins σ' H' sI := J'.ofTry ok
    have sky' : Sky B (X.env :: X.outer) a (Zc cls d) X.env.locals s'.heap := by rw [← hs]; exact sky
    show wpAny (model X.prog X.w) X.A (noteFrame (.ref a) X.env) _ _ _
    refine Sky.land Zc.steady hfr hf sky' fun h3 fl3 up3 => ?_
    have J3 : Inv X pins σ' H' { s' with heap := h3 } := J.landed nb fl3.1 (up.trans up3) os ag
    obtain ⟨oe3, vs3, he3, hz3, hd3⟩ := fl3.there
    have nfr : a ∉ frs (X.env :: X.outer) := fun hm => by
      obtain ⟨_, o', e', hnf⟩ := fl3.2.2.1.mem hm
      rw [he3] at e'
      cases e'
      exact hnf _ hd3
    have nL : a ≠ X.env.locals := fun z => nfr (List.mem_filterMap.mpr ⟨X.env, List.mem_cons_self, by rw [hf, z]⟩)
    have nI : sI.heap.get? a = none := by
      cases q : sI.heap.get? a with
      | none => rfl
      | some o =>
        have z := nb a o q (by rw [hs]; exact nfr)
        rw [fl3.2.1] at z
        cases z
    have hexe : ∀ b o, X.s_0.heap.get? b = some o → b ∈ X.ex → False := fun b o e hb => by
      rw [hx] at hb
      cases hb
    have n0 : X.s_0.heap.get? a = none := by
      cases q : X.s_0.heap.get? a with
      | none => rfl
      | some o =>
        obtain ⟨o', z⟩ := J.base.there a o q (fun z => hexe a o q z)
        rw [nI] at z
        cases z
    have LT : PySem.W.Looks (model X.prog X.w) h3 (typeOf (.ref a)) cls := fun A Q E s k q => wpAny_typeOf_ref (k _ _ he3) (by rw [hz3.1]; exact q)
    have LM := PySem.W.exm_one (M := model X.prog X.w) (J3.kIn) LT hb1
    have S3 := inv_suite0 J3 a
    refine wpAny_handleBy_cons (codeAny_handlers_test ?_) (by intro q; cases q)
    have test : ∀ {Q : Value → Shared → Prop} {E : Value → Shared → Prop}, Q c { s' with heap := h3 } → wpAny (model X.prog X.w) (X.A.mark (some (.ref a))) (eval (.Name x np) X.env) Q E { s' with heap := h3 } := fun {Q E} q => by
      obtain ⟨hg, hdbg, hm | ⟨hm, hv, hnn⟩⟩ := hc
      · exact ld_glob (X := X.suite a (X.pn ++ pins)) S3 hg hm q hdbg
      · exact ld_blt (X := X.suite a (X.pn ++ pins)) S3 hg hm hv q hnn hdbg
    refine test (LM.here ?_)
    cases b with
    | true =>
      refine codeAny_handlers_suite_as ?_
      refine HandSPX.lands_againZ fl3 fun h4 fl4 up4 => ?_
      have J4 : Inv X pins σ' H' { s' with heap := h4 } := J.landed nb fl4.1 ((up.trans up3).trans up4) os ag
      obtain ⟨oe4, vs4, he4, hz4, hd4⟩ := fl4.there
      have T4 : Inv X pins σ' (upd H' a (exk a cls d)) { s' with heap := h4 } := inv_track J4 na n0 nL (fun y c e z => by
          obtain ⟨v, o, ho, _⟩ := J.cell y c e
          rw [z, nI] at ho
          cases ho) (fun p hp z => by
          have q := (J.pin p hp).1
          rw [z, nI] at q
          cases q) (exk_ok he4 hz4 hd4)
      have S4 := inv_suite0 T4 a
      refine store_ok (X := X.suite a (X.pn ++ pins)) (v := .ref a) S4 hN hi (.inl hln) rfl (fun s5 S5 => ?_) (.inr hln)
      refine wpAny_mono ((hsu a (X.pn ++ pins)).run [] s5 _ _ _ S5 (hyes rfl a na)) (fun f s6 hsp => ?_) (fun _ _ z => False.elim z)
      have fin : ∀ {σ6 : L2.St} {H6 : Hp} {Q : Shared → Prop}, Inv (X.suite a (X.pn ++ pins)) [] σ6 H6 s6 → (∀ s7, Inv X pins (σ6.set i none) H6 s7 → Q s7) →
          wpAny (model X.prog X.w) X.A (do bindName X.env n .none; unbindBehindTheSuite X.env n pos') (fun _ s7 => Q s7) X.xe s6 := fun {σ6 H6 Q} S6 hq => gone_ok (inv_unsuite0 S6 ok) hN hi hln hq
      cases f with
      | next =>
        obtain ⟨σ6, H6, S6, q6⟩ := hsp
        exact fin S6 fun s7 J7 => ⟨_, _, J7, q6⟩
      | brk =>
        obtain ⟨σ6, H6, S6, q6⟩ := hsp
        exact fin S6 fun s7 J7 => ⟨_, _, J7, q6⟩
      | cont =>
        obtain ⟨σ6, H6, S6, q6⟩ := hsp
        exact fin S6 fun s7 J7 => ⟨_, _, J7, q6⟩
      | ret u =>
        obtain ⟨v6, σ6, H6, S6, r6, q6⟩ := hsp
        exact fin S6 fun s7 J7 => ⟨_, _, _, J7, r6, q6⟩
    | false =>
      show wpAny _ X.A (handleBy (.ref a) X.env []) _ _ _
      refine wpAny_handleBy_nil ?_
      obtain ⟨k1, k2, k3, oe, vs, T, oT, ts', he, hz, hd, h1, hr⟩ := id fl3
      unfold PySem.passOn
      refine wpAny_bind (wpAny_field he hd h1 ?_)
      rw [if_neg (show ¬ ((Value.ref T == Value.none) = true) from by simp)]
      have last : wpAny (model X.prog X.w) X.A (setFlight (.ref a) X.env.frame) (fun _ s4 => wpAny (model X.prog X.w) X.A (throw (.ref a) : Sem Flow) (SP X pins D) X.xe s4) X.xe { s' with heap := h3 } := by
        rw [hf]
        refine HandSPX.setFlight_upZ fl3 fun h4 hh4 up4 => wpAny_throw (tk _ _ ?_)
        exact ⟨a, B, sI, pins, σ', H', cls, d, rfl, J, nb, (up.trans up3).trans up4, .inr (.inr (by rw [hs]; exact hh4)), na, os, ag, hno rfl⟩
      first
        | exact wpAny_bind (wpAny_pure (wpAny_bind last))
        | exact wpAny_bind last
  · cases f with
    | next =>
      obtain ⟨σ', H', J', q⟩ := hsp
      exact wpAny_execs_nil ⟨σ', H', J'.ofTry ok, q⟩
    | brk =>
      obtain ⟨σ', H', J', q⟩ := hsp
      exact ⟨σ', H', J'.ofTry ok, q⟩
    | cont =>
      obtain ⟨σ', H', J', q⟩ := hsp
      exact ⟨σ', H', J'.ofTry ok, q⟩
    | ret u =>
      obtain ⟨v, σ', H', J', r, q⟩ := hsp
      exact ⟨v, σ', H', J'.ofTry ok, r, q⟩
end

/-! ### C(..) as a value; isinstance and fields of a kept exception -/
section
variable {X : Cx} {e : Expr}
theorem pe_mkx {t : L2.St → Hp → XK → Prop} (h : PMk X e t) : PE X e (fun σ H Q => t σ H fun cls d H' => ∀ a, H' a = none → Q (.ref a) (upd H' a (exk a cls d))) := by
  refine ⟨fun pins s σ H Q I hh => ?_⟩
  refine wpAny_mono (h pins s σ H _ I hh) (fun u s1 hu => ?_) fun _ _ x => x
  obtain ⟨a, oe, vs, sI, H', cls, d, rfl, J, k, hne, ha, hz, hd, h1, na, os, ag, r, q⟩ := hu
  have J2 : Inv X pins σ H' { sI with heap := sI.heap, gens := s1.gens, drawn := s1.drawn, toks := s1.toks } := J.call (ch := []) (Un.kept fun _ _ z => z) J.hok ag (fun _ z => nomatch z)
  have J3 := J2.laidN (h' := s1.heap) (a := a) (o := exk a cls d) (t' := s1.toks) k hne na (exk_ok ha hz hd)
  obtain ⟨a1, a2, a3, a4, a5⟩ := s1
  have e5 : a5 = sI.os := os
  subst e5
  exact ⟨.ref a, _, J3, rfl, q a na⟩
/-- isinstance(e, c), e a kept exception -/
def rIsX (K : PySem.W.Frag) : List V → Hp → VK → Prop := fun xs H Q => ∃ (a D : Addr) (d : Option Addr) (c : V) (cv : Value) (b : Bool), xs = [.ref a, c] ∧ H a = some (exk a (.ref D) d) ∧ ExcC K D ∧ (∀ dd, d = some dd → ∃ fs, H dd = some (.xd fs)) ∧ (∀ u, RelV c u → u = cv) ∧ PySem.W.kitOne K (.ref D) cv = some b ∧ Q (.bl b) H
theorem inst_of {pins : List (Addr × Obj)} {σ : L2.St} {H : Hp} {s : Shared} {a D : Addr} {d : Option Addr} (I : Inv X pins σ H s) (ea : H a = some (exk a (.ref D) d)) (hd : ∀ dd, d = some dd → ∃ fs, H dd = some (.xd fs)) : ∃ oe od, PySem.W.InstAt s.heap a oe D od := by
  obtain ⟨oe, vs, ho, hz, hv⟩ := exk_at I.hok ea
  cases d with
  | none =>
    refine ⟨oe, none, ?_⟩
    obtain ⟨oc, od, oda, osl⟩ := oe
    obtain ⟨h1, h2⟩ := hz
    dsimp only at h1 h2 hv
    subst h1 h2 hv
    exact ⟨ho, rfl, rfl, trivial⟩
  | some dd =>
    obtain ⟨fs, ed⟩ := hd dd rfl
    obtain ⟨mA, hns, hr⟩ := (show ObjOk X.prog X.w H s.heap dd (.xd fs) from I.hok dd _ ed)
    obtain ⟨od, hod, hl⟩ := lookIn_ns hns
    exact ⟨oe, some od, ho, hz.1, by unfold PySem.W.notCls; rw [hv] <;> rfl, by rw [hz.2]; exact hod⟩
theorem call_isX : CallR X (.builtin "isinstance") (rIsX X.K) := by
  intro pins s σ H xs us Q I r h
  obtain ⟨a, D, d, c, cv, b, rfl, ea, C, hd, hcv, e, q⟩ := h
  obtain ⟨u1, u2, rfl, r1, r2⟩ := vals2 r
  cases (show u1 = Value.ref a from r1)
  have ec := hcv _ r2
  subst ec
  obtain ⟨oe, od, J⟩ := inst_of I ea hd
  have hcl : (PySem.W.clsIn X.K D).isSome = true := by
    obtain ⟨cd, hc, _⟩ := PySem.W.any_some C.hd
    rw [hc]
    rfl
  exact PySem.W.kia_one (PySem.W.kitx_exc hcl C.hg C.hk C.hs C.ha C.hn C.ht C.hm) I.kIn J e (fun z => nomatch z) fun tk => ⟨.bl b, H, I.kept (t' := tk) fun _ _ z => z, rfl, q⟩
/-- e.f, e a kept exception -/
def tXk (K : PySem.W.Frag) (f : Str) (te : TE) : TE := fun σ H Q => te σ H fun x H1 => ∃ (a C dd : Addr) (fs : List (Str × V)) (v : V), x = .ref a ∧ H1 a = some (exk a (.ref C) (some dd)) ∧ XfC K C ∧ PySem.W.findIn K (.ref C) f = some none ∧ H1 dd = some (.xd fs) ∧ fs.lookup f = some v ∧ Q v H1
theorem pe_xk {te : TE} {pos : Pos} {n : Str} (he : PE X e te) (hb : attributeBase e n X.env (eval e X.env) = eval e X.env := by rfl) : PE X (.Attribute e n pos) (tXk X.K n te) := by
  refine ⟨fun pins s σ H Q I h => ?_⟩
  refine attr_of hb (thn (he.run pins s σ H _ I h) fun u s1 hh => ?_)
  obtain ⟨x, H1, I1, rx, a, C, dd, fs, v, ex, ea, T, hno, ed, l, q⟩ := hh
  subst ex
  obtain rfl : u = Value.ref a := rx
  obtain ⟨oe, vs, ho, hz, hv⟩ := exk_at I1.hok ea
  obtain ⟨mA, hns, hr⟩ := (show ObjOk X.prog X.w H1 s1.heap dd (.xd fs) from I1.hok dd _ ed)
  obtain ⟨od, hod, hl⟩ := lookIn_ns hns
  obtain ⟨u, hu, ru⟩ := RelO.some_of (v := v) (o := mA n) (by rw [← l]; exact hr n)
  have J : PySem.W.InstAt s1.heap a oe C (some od) := ⟨ho, hz.1, by unfold PySem.W.notCls; rw [hv] <;> rfl, by rw [hz.2]; exact hod⟩
  exact HandSPX.exc_get I1.kIn J T.ga T.gg T.exC (PySem.W.findObj_own T.hdC hno rfl (by rw [hl, hu])) (handed_of ru) ⟨v, H1, I1.tok _, ru, q⟩
end

/-! ### super().__init__(..) of an own error class over ValueError -/
namespace SE
open PySem.W
abbrev wv (x : Addr) : Obj := { cls := .type "method-wrapper", dict := none, data := .fields #[.builtin "ValueError.__init__", .ref x], slots := #[] }
theorem ty_vi : typeOf (.builtin "ValueError.__init__") = pure (.type "wrapper_descriptor") := by
  show builtinType _ = _
  rw [builtinType_eq_fast]
  kernel_rfl
theorem nc_vi : (kfb_private% "nameAndClass") (Value.builtin "ValueError.__init__") = (pure (("__init__" : Str), Value.type "ValueError") : Sem (Str × Value)) := by kernel_rfl
section
variable {prog : Program} {w : World} {M : Model} {A : Around} {E : Value → Shared → Prop} {h : Heap} {g : Array GenState} {dr : Drawn} {t : Nat} {os : OsState}
theorem bind_vi {x C : Addr} {P : Fin → Shared → Prop} (hin : Looks M h (isInstance (.ref x) (.type "ValueError")) true) (hq : P (.done (.ret (.ref h.objs.size))) ⟨h.push (wv x), g, dr, t, os⟩) :
    wpAny M A (Builtin.«wrapper_descriptor.__get__» ⟨[.builtin "ValueError.__init__", .ref x, .ref C], []⟩) P E ⟨h, g, dr, t, os⟩ := by
  unfold Builtin.«wrapper_descriptor.__get__»
  refine wpAny_bind (wpAny_of_eq (a := (.builtin "ValueError.__init__", some (.ref x), some (.ref C))) (by first | rfl | kernel_rfl) ?_)
  show wpAny M A ((kfb_private% "checkInstance") (.builtin "ValueError.__init__") (.ref x) >>= fun _ => newFields "method-wrapper" [.builtin "ValueError.__init__", .ref x] >>= fun r => ret r) P E _
  refine wpAny_bind ?_
  show wpAny M A ((kfb_private% "nameAndClass") (.builtin "ValueError.__init__") >>= _) _ E _
  refine wpAny_bind (wpAny_of_eq nc_vi ?_)
  show wpAny M A (isInstance (.ref x) (.type "ValueError") >>= _) _ E _
  refine wpAny_bind (hin.at (KFB.if_not rfl (wpAny_pure ?_)))
  exact wpAny_bind (wpAny_newObj_type (wpAny_pure hq))
theorem super_gav {so D x C : Addr} {l₀ l : List Value} {K : Frag} {name : Str} {tk : Tok} {Q : Fin → Shared → Prop}
    (hso : h.get? so = some { cls := .type "super", dict := none, data := .fields #[.ref D, .ref x, .ref C], slots := #[] }) (hno : Looks (model prog w) h (opaqueClassAbove (.ref C)) none)
    (hC : Looks (model prog w) h (mroOf (.ref C)) l₀) (hl : (l₀.dropWhile (· != .ref D)).drop 1 = l) (X : K.In h)
    (hf : alongIn K name l = some (some (.builtin "ValueError.__init__"))) (hxC : x ≠ C) (hn : (name == ("__class__" : Str)) = false) (hin : Looks (model prog w) h (isInstance (.ref x) (.type "ValueError")) true)
    (hq : Q (.done (.ret (.ref h.objs.size))) ⟨h.push (wv x), g, dr, t, os⟩) :
    wpAny (model prog w) A (Builtin.«super.__getattribute__» ⟨[.ref so, .str name tk], []⟩) Q E ⟨h, g, dr, t, os⟩ := by
  have hlk := ESX.slot_wd.lookup
  have ner : (Value.ref x == Value.ref C) = false := by simp [hxC]
  have hTf := ty_vi
  have hTi : Shared.TypeIs ⟨h, g, dr, t, os⟩ (.builtin "ValueError.__init__") "wrapper_descriptor" := ty_vi
  have dso : ({ cls := .type "super", dict := none, data := .fields #[.ref D, .ref x, .ref C], slots := #[] } : Obj).data = .fields #[.ref D, .ref x, .ref C] := rfl
  have q0 : (#[.ref D, .ref x, .ref C] : Array Value)[0]? = some (.ref D) := rfl
  have q1 : (#[.ref D, .ref x, .ref C] : Array Value)[1]? = some (.ref x) := rfl
  have q2 : (#[.ref D, .ref x, .ref C] : Array Value)[2]? = some (.ref C) := rfl
  unfold Builtin.«super.__getattribute__»
  repeat (first
    | (with_reducible refine wpAny_field hso dso q0 ?_) | (with_reducible refine wpAny_field hso dso q1 ?_) | (with_reducible refine wpAny_field hso dso q2 ?_)
    | (with_reducible refine ks_wpAny_notOpaque hno ?_)
    | (with_reducible refine Looks.at hC ?_; rw [hl])
    | (refine ks_forIn_along X (fun _ _ => rfl) rfl ?_ hf)
    | (with_reducible refine wpAny_call_entry ESX.slot_wd hTi ESX.entry_wd ?_ (ESX.args_wd _ _ _))
    | (with_reducible refine bind_vi hin ?_)
    | (with_reducible refine ⟨_, rfl, ?_⟩)
    | (simp only [hn, ner, Bool.or_false, Bool.false_eq_true, if_false])
    | wp_step
    | dsimp only)
  all_goals exact hq
theorem getMethod_superv {so D x C : Addr} {l₀ l : List Value} {K : Frag} {name : Str} {pl : Sem Bool} {Q : Value × List Value → Shared → Prop}
    (hso : h.get? so = some { cls := .type "super", dict := none, data := .fields #[.ref D, .ref x, .ref C], slots := #[] }) (hno : Looks (model prog w) h (opaqueClassAbove (.ref C)) none)
    (hC : Looks (model prog w) h (mroOf (.ref C)) l₀) (hl : (l₀.dropWhile (· != .ref D)).drop 1 = l) (X : K.In h)
    (hf : alongIn K name l = some (some (.builtin "ValueError.__init__"))) (hxC : x ≠ C) (hn : (name == ("__class__" : Str)) = false) (hin : Looks (model prog w) h (isInstance (.ref x) (.type "ValueError")) true)
    (hq : Q (.ref h.objs.size, []) ⟨h.push (wv x), g, dr, t + 1, os⟩) :
    wpAny (model prog w) A (getMethod (.ref so) name pl) Q E ⟨h, g, dr, t, os⟩ := by
  have hlk := F.ks_slot_super_ga.lookup
  have hT : ∀ t', (⟨h, g, dr, t', os⟩ : Shared).TypeIs (.ref so) "super" := fun _ => ⟨_, hso, rfl⟩
  unfold getMethod
  refine wpAny_bind (wpAny_specialOf (hT _) hlk ?_)
  show wpAny _ _ (if (Manifest.canonical "super.__getattribute__" != "object.__getattribute__") = true then _ else _) _ _ _
  rw [if_pos F.ks_canon_super_ga]
  unfold getAttr getAttrBy
  refine wpAny_bind (wpAny_bind (wpAny_mkText (wpAny_holding (wpAny_bind (wpAny_typeOf (hT _) (wpAny_bind (wpAny_of_eq hlk ?_)))))))
  show wpAny _ _ (getAttrByItsOwn (.ref so) (.str name t) (.type "super") (.builtin "super.__getattribute__") true false) _ _ _
  unfold getAttrByItsOwn hookBefore callGetattribute boundAndCalled
  refine wpAny_bind (wpAny_of_eq (show (if onTheHeap (.type "super") then typeLookup (.type "super") "__getattr__" else pure none) = pure none from rfl) (wpAny_bind (wpAny_attempt (wpAny_holding ?_))))
  show wpAny _ _ (bindSpecial (.builtin "super.__getattribute__") (.ref so) >>= _) _ _ _
  refine wpAny_bind (wpAny_of_eq (F.ks_slot_super_ga.bind _) ?_)
  refine wpAny_mono (Q := fun v s' => v = .ref h.objs.size ∧ s' = ⟨h.push (wv x), g, dr, t + 1, os⟩) (E := fun _ _ => False)
    (wpAny_call_entry F.ks_slot_super_ga (hT _) F.ks_entry_super_ga (super_gav hso hno hC hl X hf hxC hn hin ⟨_, rfl, rfl, rfl⟩) (F.ks_gaArgs_super _ _)) (fun v s' hv => ?_) fun _ _ z => z.elim
  obtain ⟨rfl, rfl⟩ := hv
  exact wpAny_pure (wpAny_pure hq)
end
section
open PySem.Calls
variable {prog : Program} {w : World} {M : Model} {A : Around} {E : Value → Shared → Prop} {s : Shared}
theorem callWith_wv {pos : Pos} {u x : Addr} {env : Env} {e : Expr} {rest : List Expr} {Q : Value → Shared → Prop}
    (h : wpAny M A (spliced (backTo pos (starEach (e :: rest) env))) (fun vs s₁ => s₁.heap.get? u = some (wv x) ∧ wpAny M A (call (.ref u) vs) Q E s₁) E s)
    (he : starEach (e :: rest) env = (false, eval e env) :: starEach rest env) (hplain : (backTo pos (starEach rest env)).any (·.1) = false) :
    wpAny M A (callWith pos (.ref u) [] (backTo pos (starEach (e :: rest) env)) []) Q E s := by
  rw [he] at h ⊢
  have hp : (backTo pos ((false, eval e env) :: starEach rest env)).any (·.1) = false := by
    show (false || (backTo pos (starEach rest env)).any (·.1)) = false
    rw [hplain]
    rfl
  have h2 : wpAny M A (evalArgs (.ref u) true (backTo pos ((false, eval e env) :: starEach rest env)) []) (fun a s₁ => s₁.heap.get? u = some (wv x) ∧ wpAny M A (call (.ref u) ([] ++ a.pos) a.kw) Q E s₁) E s := evalArgs_plain h
  unfold callWith
  refine wpAny_bind (wpAny_holding (wpAny_mono h2 (fun a s₁ h₁ => wpAny_bind (wpAny_standAt ?_)) fun _ _ x => x))
  obtain ⟨ho, hcall⟩ := h₁
  simp only [hp, List.any_nil, Bool.or_false]
  refine wpAny_bind (m := keeperOf (.ref u)) ?_
  unfold keeperOf
  refine wpAny_bind (wpAny_load ho ?_)
  simp only [wv, show (Value.type "method-wrapper" != Value.type "method") = true by decide, show (Value.type "method-wrapper" == Value.type "builtin_function_or_method" || Value.type "method-wrapper" == Value.type "method-wrapper") = true by decide, if_true]
  refine wpAny_pure ?_
  exact wpAny_bind (wpAny_mono hcall (fun r s₂ hr => wpAny_bind (wpAny_holding (wpAny_point (wpAny_pure hr)))) fun _ _ x => x)
end
section
variable {prog : Program} {w : World} {A : Around} {E : Value → Shared → Prop} {h : Heap} {g : Array GenState} {dr : Drawn} {t : Nat} {os : OsState}
variable {nm q : Str} {C N : Addr} {bs bm : List Value} {hdct : Bool} {sn : List Str} {sub : List Value} {ab : Bool} {col : Option Bool} {dd : Option Addr} {k0 k1 k2 k3 k5 : Option Value}
theorem call_wv {u e t0 : Addr} {rest : List Value} {Q : Value → Shared → Prop}
    (hC : h.get? C = some (excClassObj nm q C N bs bm hdct sn sub ab col dd k0 k1 k2 k3 k5 "ValueError.__new__")) (he : h.get? e = some (HandSPX.excO C t0)) (hu : h.get? u = some (wv e)) (hrest : rest.length ≤ sizeLine)
    (hq : ∀ h' t1, (∀ b o, b ≠ e → h.get? b = some o → h'.get? b = some o) → h'.get? e = some (HandSPX.excO C t1) → Q .none ⟨h', g, dr, t, os⟩) :
    wpAny (model prog w) A (call (.ref u) rest) Q E ⟨h, g, dr, t, os⟩ := by
  refine wpAny_call (codeAny_of_tree ?_)
  show wpAny _ A.in1 (callAny (.ref u) ⟨rest, []⟩) _ _ _
  simp only [callAny]
  refine wpAny_bind (wpAny_load hu ?_)
  simp only [wv, show (Value.type "method-wrapper" == Value.type "method" || Value.type "method-wrapper" == Value.type "builtin_function_or_method" || Value.type "method-wrapper" == Value.type "method-wrapper") = true by decide, if_true]
  refine W.KFB.if_so (by decide) ?_
  refine wpAny_bind (ESX.check_bound F.excBase_ValueError hC he rfl (wpAny_bind (wpAny_pure (wpAny_pure ?_))))
  refine ⟨Code.quiet_builtin _ (by decide +kernel), codeAny_builtin F.excBase_ValueError.initEntry ?_⟩
  rw [Around.under_plainId F.excBase_ValueError.init.plain _]
  wp_walk
  refine hq _ h.objs.size (fun b o hb ho => ?_) ?_
  · rw [Heap.get?_update_other _ _ (Ne.symm hb)]
    exact Heap.get?_push_of_some _ ho
  · rw [Heap.get?_update_self _ (Heap.get?_push_of_some _ he) rfl]
    rfl
end
end SE

/-- what the written part says for super().__init__ in a def of the error class at D, of an instance of the class at C -/
structure SupE (P : Program) (K : PySem.W.Frag) (mg : Str → Option Value) (C D cc cda : Addr) : Prop where
  cell : ∃ cl cld csl, K.lookup cc = some ⟨cl, cld, .cell (some (.ref D)), csl⟩
  code : ∃ ccl cdd vs ccs file tf, K.lookup cda = some ⟨ccl, cdd, .fields vs, ccs⟩ ∧ vs[2]? = some (.str file tf) ∧ ((P.main.file : Str) == file) = true
  clD : ∃ cdD, PySem.W.clsIn K D = some cdD
  sub : PySem.W.mroIn K C (.ref D) = some true
  suv : PySem.W.mroIn K C (.type "ValueError") = some true
  sup : mg "super" = none
  top : (P.main.scope.names.lookup ("super" : Str)).isSome = false
  any : PySem.W.nsIn K cStatics "thirdparty.any" = some none
  fnd : PySem.W.ks_superIn K C D "__init__" = some (some (.builtin "ValueError.__init__"))
  oex : OexC K C

section
variable {CX : CXT} {P : Program} {w : World} {K : PySem.W.Frag} {mg : Str → Option Value} {base : Heap} {k : Nat} {f cc cda : Addr} {name qual : Str} {params : Arguments} {scope : Scope} {dV kV doc pm ct oc : Value} {an od : Option Addr}
    {osl : Array (Option Value)} {N ps : List Str} {sp : Sp} {e : PySem.Expr} {es : List PySem.Expr} {rest : List Stmt} {p0 p1 apos pos epos : Pos} {pl : Sem Bool}
theorem fn_superE (lk : K.lookup f = some ⟨oc, od, .func (PySem.W.ksFn name qual params (.Expr (.Call (.Attribute (.Call (.Name "super" p0) [] [] p1) "__init__" apos) (e :: es) [] pos) epos :: rest) scope dV kV doc pm an (.ref cda) ct cc), osl⟩)
    (hcd : PySem.W.codeIn K (.ref cda) qual = true) (S : ScS N ps scope)
    {ar : Arg} (hp0 : (params.posonlyargs ++ params.args).head? = some ar) (hps : ps.head? = some ar.arg) (har : scope.names.lookup ar.arg = some .local)
    (hks : scope.names.lookup ("super" : Str) = some .globalImplicit) (hkc : scope.names.lookup ("__class__" : Str) = some .free)
    (len : ∀ vs H Q E, sp vs H Q E → vs.length = ps.length)
    (hbody : ∀ (A : Around) (outer : List Env) (s : Shared) (H : Hp) (vs : List V) (Q : VK) (E : XK), Room k (A.deeper (PySem.W.ksEnv qual scope s.heap.objs.size f (.ref cda) cc)) → sp vs H Q E →
      ∃ (x C D : Addr) (vs' : List V) (ta : TA) (u : TS), vs = .ref x :: vs' ∧ H x = some (exo x C none) ∧ SupE P K mg C D cc cda ∧
        PA (cxS CX P w K mg base N qual scope f (.ref cda) cc A outer s H E) (e :: es) ta ∧
        PSs (cxS CX P w K mg base N qual scope f (.ref cda) cc A outer s H E) rest u ∧
        ta (start N vs) H (fun ws H1 => ws.length ≤ 1000 ∧ H1 x = some (exo x C none) ∧ u { nx := fun _ H' => Q .non H', rt := Q } (start N vs) H1))
    (hi : ∀ L, interactive (PySem.W.ksEnv qual scope L f (.ref cda) cc) = false) (hsw : ∀ L, swapsWith (.Call (.Attribute (.Call (.Name "super" p0) [] [] p1) "__init__" apos) (e :: es) [] pos) none epos.line (PySem.W.ksEnv qual scope L f (.ref cda) cc) = pure false)
    (he : ∀ L, eval (.Call (.Attribute (.Call (.Name "super" p0) [] [] p1) "__init__" apos) (e :: es) [] pos) (PySem.W.ksEnv qual scope L f (.ref cda) cc) = (do
      let ov ← attributeBase (.Call (.Name "super" p0) [] [] p1) "__init__" (PySem.W.ksEnv qual scope L f (.ref cda) cc) (eval (.Call (.Name "super" p0) [] [] p1) (PySem.W.ksEnv qual scope L f (.ref cda) cc))
      standAt apos.atName
      let (fn, first) ← holding [ov] (getMethod ov "__init__" pl)
      callWith pos fn first (backTo pos (starEach (e :: es) (PySem.W.ksEnv qual scope L f (.ref cda) cc))) []))
    (hst : ∀ L, starEach (e :: es) (PySem.W.ksEnv qual scope L f (.ref cda) cc) = (false, eval e (PySem.W.ksEnv qual scope L f (.ref cda) cc)) :: starEach es (PySem.W.ksEnv qual scope L f (.ref cda) cc))
    (hpl : ∀ L, (backTo pos (starEach es (PySem.W.ksEnv qual scope L f (.ref cda) cc))).any (·.1) = false) :
    FnOk P w K mg base CX (k + 1) f (PySem.W.ksFn name qual params (.Expr (.Call (.Attribute (.Call (.Name "super" p0) [] [] p1) "__init__" apos) (e :: es) [] pos) epos :: rest) scope dV kV doc pm an (.ref cda) ct cc) ps sp := by
  refine ⟨len, fun A outer s H args us vs Q E hr e0 hb r hsp => ?_⟩
  have hl := len _ _ _ _ hsp
  have KX : K.In s.heap := e0.mod.kin.keeps fun b o e => (e0.bs b o e).1
  have lim : s.heap.NoLimit := e0.mod.nolimit.keeps fun b o e => (e0.bs b o e).1
  obtain ⟨x, C, D, vs', ta, u, rfl, hx, T, hta, hrest, hq⟩ := hbody A outer s H vs Q E (hr.deeper _) hsp
  obtain ⟨cl, cld, csl, hcell⟩ := T.cell
  obtain ⟨ccl, cdd, cvs, ccs, file, tf, hcode, hvs, hfile⟩ := T.code
  obtain ⟨cdD, hD⟩ := T.clD
  refine PySem.ks_codeAny_call_defAt (binds := ps.zip us) hr.depth (KX _ _ lk) rfl lim (PySem.W.codeRec_of KX hcd) rfl hb S.nocell (fun y hy => S.par y.1 (List.of_mem_zip hy).1) (fun h1 hns hk => ?_) S.co S.gen S.kind
  have I : Inv (cxS CX P w K mg base N qual scope f (.ref cda) cc A outer s H E) [] (start N (.ref x :: vs')) H { s with heap := h1, toks := s.toks + (ps.zip us).length } :=
    inv_startS (vs := .ref x :: vs') S hr.hd e0 hl r hcell rfl hns hk
  have hX : K.In h1 := I.kIn
  obtain ⟨t1, ho⟩ := exo_at I.hok hx
  have J : PySem.W.InstAt h1 x { cls := .ref C, dict := none, data := .fields #[.ref t1, .none, .none, .none, .bool false, .none] } C none := ⟨ho, rfl, rfl, trivial⟩
  obtain ⟨oD, hD1, hD2⟩ : ∃ oD, h1.get? D = some oD ∧ oD.data = .cls cdD := by
    unfold PySem.W.clsIn at hD
    split at hD
    · rename_i c d cd' sl ho
      cases hD
      exact ⟨_, hX _ _ ho, rfl⟩
    · cases hD
  refine PySem.ks_wpAt_execs_cons (PySem.ks_wpAt_Expr_any (PySem.ks_wpAt_MethodCall (pl := pl) ?_ (he _)) (hi _) (hsw _))
  refine PySem.ks_wpAt_super_base (env := PySem.W.ksEnv qual scope s.heap.objs.size f (.ref cda) cc) hks hkc (by decide) rfl (hX _ _ lk) rfl hp0 rfl (hX _ _ hcode) rfl hvs hfile T.top ?_
  obtain ⟨mb, hb1, hb2⟩ := I.mod.blt
  refine PySem.W.ks_loadName_global S.kind hks (Calls.loadGlobal_builtin (env := PySem.W.ksEnv qual scope s.heap.objs.size f (.ref cda) cc) (I.mod.glob.keeps I.bk) T.sup (hb1.keeps I.bk) ((hb2 _ (by decide +kernel)).trans (show bootBuiltins "super" = some (.type "super") by first | rfl | kernel_rfl)) ⟨rfl, ?_⟩)
  refine wpAny_loadName_free S.kind hkc (by show List.lookup _ [_] = _; simp [List.lookup]) ⟨_, hX _ _ hcell, rfl⟩ ?_
  have hself : (ps.zip us).reverse.lookup ar.arg = some (.ref x) := by
    match ps, us, hps, r with
    | p :: ps', u' :: us', hp', .cons ru _ =>
      have hp'' : p = ar.arg := by simpa using hp'
      subst hp''
      cases (show u' = Value.ref x from ru)
      have ndP : (ar.arg :: ps').Nodup := by
        have := S.pre
        rw [← this]
        exact S.nd.sublist (List.take_sublist _ _)
      exact rev_lookup (i := 0) ndP rfl rfl
  refine wpAny_loadName_local S.kind har hns hself ?_
  refine PySem.ks_wpAny_isType_cls hD1 hD2 ⟨rfl, ?_⟩
  refine PySem.ks_wpAny_call_super hD1 hD2 J.at_ J.cls (fun c e => nomatch e) (PySem.W.looks_mroIn hX T.sub) (fun h' hso k' => ?_)
  have I1 : Inv (cxS CX P w K mg base N qual scope f (.ref cda) cc A outer s H E) [(h1.objs.size, PySem.W.ks_superObj D x C)] (start N (.ref x :: vs')) H { s with heap := h', toks := s.toks + (ps.zip us).length } :=
    ClX.pin_new (s := { s with heap := h1, toks := s.toks + (ps.zip us).length }) (t' := s.toks + (ps.zip us).length) I k' (Nat.le_refl _) hso (fun v z => nomatch z)
  have hX' : K.In h' := I1.kIn
  have J' : PySem.W.InstAt h' x { cls := .ref C, dict := none, data := .fields #[.ref t1, .none, .none, .none, .bool false, .none] } C none := ⟨k' _ _ ho, rfl, rfl, trivial⟩
  have fnd := T.fnd
  cases hc : PySem.W.clsIn K C with
  | none => unfold PySem.W.ks_superIn at fnd; rw [hc] at fnd; cases fnd
  | some cdC =>
    unfold PySem.W.ks_superIn at fnd
    rw [hc] at fnd
    refine SE.getMethod_superv (h := h') hso (PySem.W.looks_opaque hX' T.any) (l₀ := cdC.mro) ?_ rfl hX' fnd (PySem.W.ks_ne hX J hc) (by decide) (J'.type.andThen (PySem.W.looks_mroIn hX' T.suv)) ?_
    · exact fun A Q E s k q => wpAny_bind ((PySem.W.looks_clsIn hX' hc) A _ E s k (wpAny_pure q))
    · have I2 := ClX.pin_new (s := { s with heap := h', toks := s.toks + (ps.zip us).length }) (o := SE.wv x) (t' := s.toks + (ps.zip us).length + 1) I1 (fun _ _ z => Heap.get?_push_of_some _ z) (Nat.le_refl _) (Heap.get?_push_size h' rfl) (fun v z => nomatch z)
      refine SE.callWith_wv (x := x) (thn (hta.run pos _ _ _ H _ I2 hq) fun us2 s3 ⟨ws, H2, I3, rv, hl2, hx2, q2⟩ => ⟨ClX.pin_at I3, ?_⟩) (hst _) (hpl _)
      obtain ⟨nm, q, N', bs, bm, sn, sub, ab, col, dd, k0, k1, k2, k3, k5, hCo, hbm⟩ := T.oex.cls
      obtain ⟨t2, ho2⟩ := exo_at I3.hok hx2
      have hu2 : s3.heap.get? h'.objs.size = some (SE.wv x) := ClX.pin_at I3
      have kC := I3.kIn
      obtain ⟨hp3, g3, d3, tk3, os3⟩ := s3
      refine SE.call_wv (kC _ _ hCo) ho2 hu2 (by rw [← Paired.length rv, sizeLine_eq]; omega) fun h4 t4 k4 hx4 => ?_
      have I4 := (ClX.unpin (ClX.unpin I3)).write (t' := tk3) (x := x) (e := x) (o := exo x C none) (by rw [hx2]; exact True.intro) (.inl rfl) k4 ⟨_, hx4⟩ (exo_ok hx4)
      have eu : upd H2 x (exo x C none) = H2 := by
        funext b
        by_cases hb : b = x
        · rw [hb, upd_same, hx2]
        · rw [upd_ne hb]
      rw [eu] at I4
      refine wpAt_of_wpAny (wpAny_mono (hrest.run [] _ _ H2 _ I4 q2) (fun fl s' hs => ?_) fun e s' hs => hs)
      have fin : ∀ {σ' : L2.St} {H' : Hp} {v : V} {u : Value}, Inv (cxS CX P w K mg base N qual scope f (.ref cda) cc A outer s H E) [] σ' H' s' → RelV v u → Q v H' → CE outer P w H s Q u s' :=
        fun {σ' H' v u} J rv q => ⟨v, H', J.os, J.bare, J.base, J.hok, rv, q⟩
      cases fl with
      | ret u =>
        obtain ⟨v, σ', H', J, rv, q⟩ := hs
        exact fin J rv q
      | next =>
        obtain ⟨σ', H', J, q⟩ := hs
        exact fin (v := V.non) (u := Value.none) J rfl q
      | brk =>
        obtain ⟨_, _, _, q⟩ := hs
        exact False.elim q
      | cont =>
        obtain ⟨_, _, _, q⟩ := hs
        exact False.elim q
end
end Ls
end
section
set_option Elab.async false
set_option linter.all false
set_option maxRecDepth 100000
set_option maxHeartbeats 4000000
namespace Ls
open PySem PySem.Spec PyProof.Rows L2

/-! ### defs that must know that no repr is under way -/
structure FnG (P : Program) (w : World) (K : PySem.W.Frag) (mg : Str → Option Value) (base : Heap) (CX : CXT) (k : Nat) (f : Addr) (fd : FuncData) (ps : List Str) (sp : Sp) : Prop where
  len : ∀ vs H Q E, sp vs H Q E → vs.length = ps.length
  run : ∀ (A : Around) (outer : List Env) (s : Shared) (H : Hp) (args : Args) (us : List Value) (vs : List V) (Q : VK) (E : XK), A.guards = some [] → Room k A → Env0 P w K mg base A outer s H → BindsTo s fd args (ps.zip us) → Vals vs us → sp vs H Q E →
    codeAny (model P w) A (.call (.ref f) args) (CR CX outer P w H s Q E) s
section
variable {P : Program} {w : World} {K : PySem.W.Frag} {mg : Str → Option Value} {base : Heap}
theorem FnG.of {CX : CXT} {k : Nat} {f : Addr} {fd : FuncData} {ps : List Str} {sp : Sp} (F : FnOk P w K mg base CX k f fd ps sp) : FnG P w K mg base CX k f fd ps sp := ⟨F.len, fun A outer s H args us vs Q E _ => F.run A outer s H args us vs Q E⟩
theorem okG {x qual : Str} {st : Stmt} {f : Addr} {fd : FuncData} {N ps : List Str} {k : Nat} {sp : Sp} (F : Fun K x qual st f fd) (S : FnScope N ps (defScope st)) (len : ∀ vs H Q E, sp vs H Q E → vs.length = ps.length)
    (hbody : ∀ (cdv : Value) (A : Around) (outer : List Env) (s : Shared) (H : Hp) (vs : List V) (Q : VK) (E : XK), fd.code = cdv → A.guards = some [] → Room k (A.deeper (envOfC qual (defScope st) s.heap.objs.size f cdv)) → sp vs H Q E →
      ∃ t, PSs (cxOf CX0 P w K mg base N qual (defScope st) f cdv A outer s H E).nox (defBody st) t ∧ t { nx := fun _ H' => Q .non H', rt := Q } (start N vs) H) : FnG P w K mg base CX0 (k + 1) f fd ps sp := by
  obtain ⟨oc, od, kV, doc, pm, an, cdv, ct, osl, rfl, lk, hcd⟩ := F.ex
  refine ⟨len, fun A outer s H args us vs Q E hg hr e0 hb r hs => ?_⟩
  refine LamX.run_ofS lk hcd S hr e0 hb r (len _ _ _ _ hs) fun hr' => ?_
  obtain ⟨t, h, q⟩ := hbody cdv A outer s H vs Q E rfl hg hr' hs
  exact ⟨t, h.nox, q⟩
end
section
variable (P : Program) (w : World) (K : PySem.W.Frag) (mg : Str → Option Value) (base : Heap) (CX : CXT) (k : Nat)
/-- the def under the module's name x keeps sp, where no repr is under way -/
structure CalG (x : Str) (sp : Sp) : Prop where
  ex : ∃ f fd ps, mg x = some (.ref f) ∧ PySem.W.keepIn K (.ref f) = true ∧ Binds K fd ps [] ∧ FnG P w K mg base CX k f fd ps sp
end
section
variable {X : Cx} {CX : CXT} {k : Nat} {sp : Sp} {E : XK} {x : Str} {p pos : Pos} {e : PySem.Expr} {es : List PySem.Expr} {t : TA}
theorem pe_calG (hgd : X.A.guards = some []) (c : CalG X.prog X.w X.K X.mg X.base CX k x sp) (hr : Room k X.A) (hg : Gl X x) (hx : Passes CX X E) (ha : PA X (e :: es) t) (hd : (x == ("__debug__" : Str)) = false := by decide)
    (he : starEach (e :: es) X.env = (false, eval e X.env) :: starEach es X.env := by rfl) (hpl : (backTo pos (starEach es X.env)).any (·.1) = false := by rfl) :
    PE X (.Call (.Name x p) (e :: es) [] pos) (tCl sp E t) := by
  obtain ⟨f, fd, ps, hm, hk, hb, F⟩ := c.ex
  refine ⟨fun pins s σ H Q I h => ?_⟩
  refine wpAny_Call_Name_kw (ld_glob I hg hm ?_ hd)
  refine PySem.W.callWith_K (h₀ := X.base) I.ok.mod.kin hk (thn (ha.run pos pins s σ H _ I h) fun us s1 ⟨vs, H1, I1, r, q⟩ => ⟨I1.kIn, ?_⟩) he hpl
  have hl : us.length = ps.length := by
    rw [← r.length]
    exact F.len _ _ _ _ q
  have bd := hb s1 us I1.kIn (by rw [List.append_nil]; exact hl)
  rw [List.append_nil] at bd
  refine wpAny_call (codeAny_mono (F.run X.A X.stack s1 H1 ⟨us, []⟩ us vs Q E hgd hr I1.env0 bd r q) fun res s' hq => ?_)
  match res, hq with
  | .error e, hq => exact hx pins σ H1 s1 e s' I1 hq
  | .ok (.ret u), hq => exact I1.after hq
end

/-! ### the top: tables of code objects, no repr under way -/
def tabH (T : List Addr) : Hp := fun b => if b ∈ T then some (.tbl #[]) else none
theorem tab_in {T : List Addr} {b : Addr} (h : b ∈ T) : tabH T b = some (.tbl #[]) := if_pos h
theorem tab_out {T : List Addr} {b : Addr} (h : b ∉ T) : tabH T b = none := if_neg h
/-- what is tracked at the start: the script (if it is no object of the module), the tables -/
theorem top_heap {P : Program} {w : World} {K : PySem.W.Frag} {a : Addr} {T : List Addr} {s : Shared} {vs : List Value} {ns : List Int} (KX : K.In s.heap) (hT : ∀ b ∈ T, s.heap.get? b = some { cls := .none, data := .fields #[] })
    (ha : s.heap.get? a = some { cls := .type "list", data := .seq vs.toArray }) (hi : IntsAre vs ns) (hl : ns.length ≤ sizeLine) :
    ∃ H : Hp, (∀ b ∈ T, H b = some (.tbl #[])) ∧ SqL K H a (ns.map V.int) ∧ HOk P w H s.heap ∧
      ∀ b u, H b = some u → (b ∈ T ∧ u = .tbl #[]) ∨ (b = a ∧ K.lookup a = none ∧ ∃ o xs, u = .frz o (.lst xs)) := by
  have rv := vals_ints hi
  have aT : a ∉ T := fun z => by
    have q := hT a z
    rw [ha] at q
    cases congrArg Obj.data (Option.some.inj q)
  cases hk : K.lookup a with
  | some o =>
    have e := KX a o hk
    rw [ha] at e
    cases e
    refine ⟨tabH T, fun b hb => tab_in hb, .inr ⟨_, vs.toArray, _, hk, rfl, rfl, rfl, by rw [List.size_toArray, hi.length]; exact hl, by simpa using rv⟩, fun b u z => ?_, fun b u z => ?_⟩
    · by_cases hb : b ∈ T
      · rw [tab_in hb] at z
        cases z
        exact hT b hb
      · rw [tab_out hb] at z
        cases z
    · by_cases hb : b ∈ T
      · rw [tab_in hb] at z
        exact .inl ⟨hb, (Option.some.inj z).symm⟩
      · rw [tab_out hb] at z
        cases z
  | none =>
    refine ⟨upd (tabH T) a (.frz { cls := .type "list", data := .seq vs.toArray } (.lst (ns.map V.int))), fun b hb => ?_, .inl (.inr ⟨_, upd_same⟩), fun b u z => ?_, fun b u z => ?_⟩
    · have nb : b ≠ a := fun e => aT (by rw [← e]; exact hb)
      rw [upd_ne nb]
      exact tab_in hb
    · by_cases hb : b = a
      · subst hb
        rw [upd_same] at z
        cases z
        exact ⟨ha, by rw [List.length_map]; exact hl, vs, _, rv, ha⟩
      · rw [upd_ne hb] at z
        by_cases hb : b ∈ T
        · rw [tab_in hb] at z
          cases z
          exact hT b hb
        · rw [tab_out hb] at z
          cases z
    · by_cases hb : b = a
      · subst hb
        rw [upd_same] at z
        exact .inr ⟨rfl, rfl, _, _, (Option.some.inj z).symm⟩
      · rw [upd_ne hb] at z
        by_cases hb : b ∈ T
        · rw [tab_in hb] at z
          exact .inl ⟨hb, (Option.some.inj z).symm⟩
        · rw [tab_out hb] at z
          cases z
theorem top_call {P : Program} {w : World} {K : PySem.W.Frag} {mg mb : Str → Option Value} {CX : CXT} {k : Nat} {fa a : Addr} {cs : List (Addr × Addr)} {fd : FuncData} {x : Str} {sp : Sp} {s : Shared} {vs : List Value} {ns : List Int}
    (KX : K.In s.heap) (gl : s.heap.Ns mainGlobals mg) (bl : s.heap.Ns builtinsNs mb) (bb : ∀ x : Str, x ≠ "__name__" → mb x = bootBuiltins x) (nl : s.heap.NoLimit) (gn : s.gens = #[])
    (hT : ∀ p ∈ cs, s.heap.get? p.2 = some { cls := .none, data := .fields #[] }) (nT : ∀ p ∈ cs, K.lookup p.2 = none) (C : ∀ p ∈ cs, PySem.W.CodeHd s.heap p.1 p.2)
    (hbm : ∃ (bm : Addr) (ob : Obj), mg "__builtins__" = some (.ref bm) ∧ bm ≠ builtinsNs ∧ s.heap.get? bm = some ob ∧ ob.cls = .type "module" ∧ ob.dict = some builtinsNs ∧ ob.data = .plain)
    (ha : s.heap.get? a = some { cls := .type "list", data := .seq vs.toArray }) (hi : IntsAre vs ns) (hl : ns.length ≤ sizeLine) (hr : Room k callerA)
    (F : ∀ base : Heap, K.In base → base.Ns mainGlobals mg → (∀ p ∈ cs, LamX.TabB base mg p.1 p.2) → (base.get? sysModules).isSome = true → FnG P w K mg base CX k fa fd [x] sp) (hsy : ∃ mm, s.heap.Ns sysModules mm) (hbind : ∀ (s : Shared) (u : Value), BindsTo s fd ⟨[u], []⟩ [(x, u)])
    (hsp : ∀ H : Hp, (∀ p ∈ cs, H p.2 = some (.tbl #[])) → SqL K H a (ns.map V.int) → sp [.ref a] H (fun v _ => v = .bl true) fun _ _ _ => False)
    (hCX : ∀ H e s', CX [] H s (fun _ _ _ => False) e s' → False) :
    codeAny (model P w) callerA (.call (.ref fa) ⟨[.ref a], []⟩) (fun r s' => r = .ok (.ret (.bool true)) ∧ OldK s.heap s'.heap ∧ s'.os = s.os ∧ AllBare s'.gens) s := by
  have hT' : ∀ b ∈ cs.map (·.2), s.heap.get? b = some { cls := .none, data := .fields #[] } := fun b hb => by
    obtain ⟨p, hp, rfl⟩ := List.mem_map.mp hb
    exact hT p hp
  obtain ⟨H, H1, H2, H3, H4⟩ := top_heap (P := P) (w := w) KX hT' ha hi hl
  -- what is no list and no empty record is not tracked
  have un : ∀ {b : Addr} {o : Obj}, s.heap.get? b = some o → (∀ l n, o.data ≠ .seq l n) → o.data ≠ .fields #[] → H b = none := fun {b o} e n1 n2 => by
    cases q : H b with
    | none => rfl
    | some u =>
      rcases H4 b u q with ⟨hb, _⟩ | ⟨hb, _⟩
      · rw [hT' b hb] at e
        cases e
        exact absurd rfl n2
      · rw [hb, ha] at e
        cases e
        exact absurd rfl (n1 _ _)
  have ns' : ∀ {b : Addr} {m : Str → Option Value}, s.heap.Ns b m → (hidT s.heap H).Ns b m := fun {b m} ⟨o, es, ep, e, d, r⟩ =>
    ⟨o, es, ep, hidT_get e (un e (fun l n z => by rw [d] at z; cases z) fun z => by rw [d] at z; cases z), d, r⟩
  have kb : K.In (hidT s.heap H) := fun b o e => hidT_get (KX b o e) (by
    cases q : H b with
    | none => rfl
    | some u =>
      rcases H4 b u q with ⟨hb, _⟩ | ⟨hb, hn, _⟩
      · obtain ⟨p, hp, rfl⟩ := List.mem_map.mp hb
        rw [nT p hp] at e
        cases e
      · rw [hb, hn] at e
        cases e)
  have TB : ∀ p ∈ cs, LamX.TabB (hidT s.heap H) mg p.1 p.2 := fun p hp => by
    refine ⟨?_, ?_, fun z => ?_⟩
    · obtain ⟨o, us, file, tf, flags, tg, inF, text, tt, e1, r1, r2, r3, rest⟩ := C p hp
      refine ⟨o, us, file, tf, flags, tg, inF, text, tt, hidT_get e1 (un e1 (fun l n z => by rw [r2] at z; cases z) fun z => ?_), r1, r2, r3, rest⟩
      rw [r2] at z
      cases z
      simp at r3
    · obtain ⟨bm, ob, b1, b2, b3, b4, b5, b6⟩ := hbm
      refine ⟨bm, ob, b1, b2, fun q => ?_, fun q => ?_, hidT_get b3 (un b3 (fun l n z => by rw [b6] at z; cases z) fun z => by rw [b6] at z; cases z), b4, b5, b6⟩
      · obtain ⟨o, es, ep, e, d, _⟩ := gl
        rw [q, e] at b3
        cases b3
        rw [d] at b6
        cases b6
      · rw [q, hT p hp] at b3
        cases b3
        cases b6
    · obtain ⟨o, es, ep, e, d, _⟩ := gl
      rw [z, hT p hp] at e
      cases e
      cases d
  have sy : ((hidT s.heap H).get? sysModules).isSome = true := by
    obtain ⟨mm, z⟩ := hsy
    obtain ⟨o, _, _, e, _⟩ := ns' z
    rw [e]
    rfl
  have md : L2.Mod K mg (hidT s.heap H) := ⟨kb, ns' gl, ⟨mb, ns' bl, bb⟩, by
    obtain ⟨mc, z1, z2⟩ := nl
    exact ⟨mc, ns' z1, z2⟩⟩
  have e0 : Env0 P w K mg (hidT s.heap H) callerA [] s H := ⟨rfl, md, fun b o e => of_hidT e, Nat.le_of_eq (hidT_size _ _), trivial, fun b hb => absurd (show b ∈ ([] : List Addr) from hb) (by simp), H3, .of_eq gn⟩
  refine codeAny_mono ((F _ kb (ns' gl) TB sy).run callerA [] s H ⟨[.ref a], []⟩ [.ref a] [.ref a] _ _ rfl hr e0 (hbind s (.ref a)) (.cons rfl .nil) (hsp H (fun p hp => H1 _ (List.mem_map.mpr ⟨p, hp, rfl⟩)) H2)) fun r s' h => ?_
  match r, h with
  | .error e, h => exact (hCX H e s' h).elim
  | .ok (.ret u), h =>
    obtain ⟨v, H', os, bare, U, hok', rv, q⟩ := h
    cases (show v = .bl true from q)
    cases (show u = Value.bool true from rv)
    have stays : ∀ b o, s.heap.get? b = some o → s'.heap.get? b = some o ∨ (b ∈ cs.map (·.2) ∧ ∃ more : Array Value, s'.heap.get? b = some { cls := .none, data := .fields more }) := fun b o e => by
      cases q : H b with
      | none => exact .inl (U.keep b o e q (fun z => absurd (show b ∈ ([] : List Addr) from z) (by simp)) (by simp))
      | some u =>
        rcases H4 b u q with ⟨hb, hu⟩ | ⟨hb, _, ob, xs, hu⟩
        · obtain ⟨more, z⟩ := U.tbls b #[] (by rw [q, hu])
          exact .inr ⟨hb, _, hok' b _ z⟩
        · rw [hu] at q
          obtain ⟨z1, _⟩ := H3 b _ q
          obtain ⟨z2, _⟩ := hok' b _ (U.frzs b ob _ q)
          rw [e] at z1
          cases z1
          exact .inl z2
    refine ⟨rfl, ⟨fun b o e => ?_, fun b o e => ?_⟩, os, bare⟩
    · rcases stays b o e with z | ⟨hb, more, z⟩
      · exact .inl z
      · rw [hT' b hb] at e
        cases e
        obtain ⟨p, hp, rfl⟩ := List.mem_map.mp hb
        exact .inr (.inl ⟨((C p hp).tab (hT p hp)).isCodeTable, rfl, #[], more, rfl, by rw [Array.empty_append]; exact z⟩)
    · rcases stays b o e with z | ⟨hb, more, z⟩
      · exact ⟨o, z⟩
      · exact ⟨_, z⟩

/-- the law's promise at the head's heap h -/
def LawG (l : PySem.W.OpenLaw) (w : World) (K : PySem.W.Frag) (CX : CXT) (k n : Nat) (x : Str) (mg : Str → Option Value) (fa : Addr) (h : Heap) : Prop :=
  ∃ (fd : FuncData) (cs : List (Addr × Addr)) (sp : Sp), (∀ p ∈ cs, h.get? p.2 = some { cls := .none, data := .fields #[] }) ∧ (∀ p ∈ cs, K.lookup p.2 = none) ∧ (∀ p ∈ cs, PySem.W.CodeHd h p.1 p.2) ∧ (∀ (s : Shared) (u : Value), BindsTo s fd ⟨[u], []⟩ [(x, u)]) ∧
    (∀ (H : Hp) (a : Addr) (ns : List Int), ns.length ≤ n → (∀ z ∈ ns, Builtin.Int.intBits z ≤ 1048576) → (∀ p ∈ cs, H p.2 = some (.tbl #[])) → SqL K H a (ns.map V.int) → sp [.ref a] H (fun v _ => v = .bl true) fun _ _ _ => False) ∧
    ∀ base : Heap, K.In base → base.Ns mainGlobals mg → (∀ p ∈ cs, LamX.TabB base mg p.1 p.2) → (base.get? sysModules).isSome = true → FnG l.prog w K mg base CX k fa fd [x] sp
/-- the def under the module's name x: its code object's table is empty -/
theorem tab_of {q : Program} {loose : List Str} {mean : ExcName → Option Value} {mg mb : Str → Option Value} {h : Heap} {K : PySem.W.Frag} {x : Str} {fx : Addr} (T : Top q loose mean mg mb h) (KX : K.In h) (hx : ((recsOf q).any fun e => e.name == x) = true) (hm : mg x = some (.ref fx)) : LamX.OwnTab K fx h := by
  intro c P o fd e dd vs sl k1 k2 k3 k4 k5
  obtain ⟨r, hr, hn⟩ := List.any_eq_true.mp hx
  obtain ⟨a', o', fd', c', P', h1, h2, h3, h4, h5, ⟨oc, vc, e1, _, e3, e4⟩, hP⟩ := T.tab r hr
  rw [beq_iff_eq.mp hn, hm] at h1
  cases h1
  rw [KX _ _ k1] at h2
  cases h2
  rw [k2] at h3
  cases h3
  rw [k3] at h4
  cases h4
  rw [KX _ _ k4] at e1
  cases e1
  cases e3
  rw [k5] at e4
  cases e4
  exact hP
theorem walk_G {l : PySem.W.OpenLaw} {n k : Nat} {q : Program} {loose : List Str} {XP : (Str → Option Value) → Heap → Prop} {YP : World → Heap → Prop} {d : DefRec} {K : Params → PySem.W.Frag} {CX : World → CXT} {x : Str}
    (hn : l.most = some n) (hn2 : n ≤ sizeLine) (hdf : d.params.defaults = []) (hr : Room k callerA) (him : importsNone q = true) (hY : ∀ (w : World) (h : Heap), YP w h → (K w.params).In h)
    (F : ∀ (w : World) (mg : Str → Option Value) (fa : Addr) (h : Heap), YP w h → (K w.params).In h → h.Ns mainGlobals mg → mg d.name = some (.ref fa) →
      (∀ (x : Str) (fx : Addr), ((recsOf q).any fun e => e.name == x) = true → mg x = some (.ref fx) → LamX.OwnTab (K w.params) fx h) → LawG l w (K w.params) (CX w) k n x mg fa h)
    (hCX : ∀ (w : World) (H : Hp) (s : Shared) (e : Value) (s' : Shared), CX w [] H s (fun _ _ _ => False) e s' → False) :
    PySem.W.WalkO q loose XP YP l.row.toRowW d [] (fun f vs => PySem.call f vs) := by
  refine Att.attach_callB hn hdf fun w s₀ s₁ mg mb fa o pm cd doc a vs ns G Y ho hd hcd hmg hobj hints hlen hbits hg => ?_
  have KX := hY w _ Y
  obtain ⟨fd, cs, sp, hT, nT, C, hb, hsp, hF⟩ := F w mg fa _ Y KX G.T.g hmg fun x fx z1 z2 => tab_of G.T KX z1 z2
  obtain ⟨mm, z, _⟩ := (G.T.seer him).mods
  exact top_call KX G.T.g G.T.b G.T.builtins G.T.nolimit hg hT nT C G.T.bmain hobj hints (Nat.le_trans hlen hn2) hr hF ⟨mm, z⟩ hb (fun H hH hS => hsp H a ns hlen hbits hH hS) fun H e s' => hCX w H s₁ e s'
end Ls
end
section
set_option Elab.async false
set_option linter.all false
set_option maxRecDepth 100000
set_option maxHeartbeats 4000000
namespace Ls
open PySem PySem.Spec PyProof.Rows L2

/-! ### a value as plain data; repr -/
mutual
inductive TV (H : Hp) : V → PyData → Prop
  | non : TV H .non .none
  | bl (b : Bool) : TV H (.bl b) (.bool b)
  | int (i : Int) : TV H (.int i) (.int i)
  | str (x : Str) : TV H (.str x) (.str x)
  | lst {a : Addr} {xs : List V} {ds : List PyData} (e : H a = some (.lst xs)) (h : TVs H xs ds) : TV H (.ref a) (.list ds)
  | tup {a : Addr} {xs : List V} {ds : List PyData} (e : H a = some (.tup xs)) (h : TVs H xs ds) : TV H (.ref a) (.tuple ds)
  | dct {a : Addr} {kvs : List (Key × V)} {ds : List (PyData × PyData)} (e : H a = some (.dK kvs)) (hk : TVs H (kvs.map fun p => kV p.1) (ds.map (·.1))) (hv : TVs H (kvs.map (·.2)) (ds.map (·.2))) : TV H (.ref a) (.dict ds)
inductive TVs (H : Hp) : List V → List PyData → Prop
  | nil : TVs H [] []
  | cons {v : V} {vs : List V} {d : PyData} {ds : List PyData} (h : TV H v d) (hs : TVs H vs ds) : TVs H (v :: vs) (d :: ds)
end
mutual
theorem TV.ext {H H' : Hp} (e : Ext H H') : ∀ {v : V} {d : PyData}, TV H v d → TV H' v d
  | _, _, .non => .non
  | _, _, .bl b => .bl b
  | _, _, .int i => .int i
  | _, _, .str x => .str x
  | _, _, .lst q h => .lst (e _ _ q) (h.ext e)
  | _, _, .tup q h => .tup (e _ _ q) (h.ext e)
  | _, _, .dct q h1 h2 => .dct (e _ _ q) (h1.ext e) (h2.ext e)
theorem TVs.ext {H H' : Hp} (e : Ext H H') : ∀ {vs : List V} {ds : List PyData}, TVs H vs ds → TVs H' vs ds
  | _, _, .nil => .nil
  | _, _, .cons h hs => .cons (h.ext e) (hs.ext e)
end
section
variable {X : Cx} {pins : List (Addr × Obj)} {σ : L2.St} {H : Hp} {s : Shared}
theorem pairs_keys {P : Program} {w : World} : ∀ {es : List DictEntry} {vs : List (Key × Value)} {kvs : List (Key × V)}, Pairs (mixKind P w) es vs → KV kvs vs → Vals (kvs.map fun p => kV p.1) (es.map (·.key)) ∧ Vals (kvs.map (·.2)) (es.map (·.val))
  | _, _, _, .nil, .nil => ⟨.nil, .nil⟩
  | _, _, _, .cons (kv := kv) h1 h2 h, .cons (a := q) ⟨e1, e2⟩ r => by
    obtain ⟨z1, z2⟩ := pairs_keys h r
    refine ⟨.cons ?_ z1, .cons (by dsimp only; rw [h2]; exact e2) z2⟩
    dsimp only
    rw [e1]
    rcases keyIs_shape h1 with ⟨i, t, ek, ev⟩ | ⟨x, t, ek, ev⟩
    · rw [ek, ev]
      exact ⟨t, rfl⟩
    · rw [ek, ev]
      exact ⟨t, rfl⟩
mutual
/-- what is told of a value as data is so in the heap; none of its lists and dicts is the table of modules -/
theorem reads_of (I : Inv X pins σ H s) (hs : H sysModules = none) : ∀ {v : V} {d : PyData} {u : Value}, TV H v d → RelV v u → ∃ as, Reads s.heap u d as ∧ sysModules ∉ as
  | _, _, _, .non, r => by
    cases r
    exact ⟨[], .none, by simp⟩
  | _, _, _, .bl b, r => by
    cases r
    exact ⟨[], .bool b, by simp⟩
  | _, _, _, .int i, r => by
    obtain ⟨t, rfl⟩ := r
    exact ⟨[], .int i t, by simp⟩
  | _, _, _, .str x, r => by
    obtain ⟨t, rfl⟩ := r
    exact ⟨[], .str x t, by simp⟩
  | .ref a, _, _, .lst e h, r => by
    cases r
    obtain ⟨_, its, n, rv, ho⟩ := (show ObjOk X.prog X.w H s.heap a (.lst _) from I.hok a _ e)
    obtain ⟨as, h1, h2⟩ := readsAll_of I hs h rv
    refine ⟨a :: as, .list ho rfl rfl (by simpa using h1), fun z => ?_⟩
    rcases List.mem_cons.mp z with z | z
    · rw [z, e] at hs
      cases hs
    · exact h2 z
  | .ref a, _, _, .tup e h, r => by
    cases r
    obtain ⟨_, its, rv, o, ho, hc, n, hd⟩ := (show ObjOk X.prog X.w H s.heap a (.tup _) from I.hok a _ e)
    obtain ⟨as, h1, h2⟩ := readsAll_of I hs h rv
    exact ⟨as, .tuple ho hc hd (by simpa using h1), h2⟩
  | .ref a, _, _, .dct e h1 h2, r => by
    cases r
    obtain ⟨_, _, vs, rk, o, es, ep, ho, hx, hd, _, hp, _⟩ := dk_of I.hok e
    obtain ⟨k1, k2⟩ := pairs_keys hp rk
    obtain ⟨as, a1, a2⟩ := readsAll_of I hs h1 k1
    obtain ⟨bs, b1, b2⟩ := readsAll_of I hs h2 k2
    refine ⟨a :: as ++ bs, .dict ho hx.1 hd a1 b1, fun z => ?_⟩
    rcases List.mem_append.mp z with z | z
    · rcases List.mem_cons.mp z with z | z
      · rw [z, e] at hs
        cases hs
      · exact a2 z
    · exact b2 z
theorem readsAll_of (I : Inv X pins σ H s) (hs : H sysModules = none) : ∀ {vs : List V} {ds : List PyData} {us : List Value}, TVs H vs ds → Vals vs us → ∃ as, ReadsAll s.heap us ds as ∧ sysModules ∉ as
  | _, _, _, .nil, .nil => ⟨[], .nil, by simp⟩
  | _, _, _, .cons h t, .cons r rs => by
    obtain ⟨as, a1, a2⟩ := reads_of I hs h r
    obtain ⟨bs, b1, b2⟩ := readsAll_of I hs t rs
    exact ⟨as ++ bs, .cons a1 b1, fun z => (List.mem_append.mp z).elim a2 b2⟩
end
end
/-- repr(x), x plain data -/
def rRepr : List V → Hp → VK → Prop := fun xs H Q => ∃ (v : V) (d : PyData), xs = [v] ∧ TV H v d ∧ d.showable = true ∧ d.depth ≤ 60 ∧ d.shown.length ≤ sizeLine ∧ Q (.str d.shown) H
theorem call_repr {X : Cx} {k : Nat} (hg : X.A.guards = some []) (hr : Room k X.A) (hb : (X.base.get? sysModules).isSome = true) : CallR X (.builtin "repr") rRepr := by
  intro pins s σ H xs us Q I r h
  obtain ⟨v, d, rfl, h, hs, hd, hz, q⟩ := h
  obtain ⟨u, rfl, rv⟩ := vals1 r
  have h0 : H sysModules = none := by
    obtain ⟨o, e⟩ := Option.isSome_iff_exists.mp hb
    exact (I.bs _ _ e).2
  cases h with
  | non =>
    cases rv
    exact PySem.P.repr_of_none ⟨.str _, H, I.tok _, ⟨_, rfl⟩, q⟩
  | bl b =>
    cases rv
    exact PySem.P.repr_of_bool ⟨.str _, H, I.tok _, ⟨_, rfl⟩, q⟩
  | int i =>
    obtain ⟨t, rfl⟩ := rv
    exact PySem.P.repr_of_int (of_decide_eq_true hs) ⟨.str _, H, I.tok _, ⟨_, rfl⟩, q⟩
  | str x =>
    obtain ⟨t, rfl⟩ := rv
    exact PySem.P.repr_of_str ⟨.str _, H, I.tok _, ⟨_, rfl⟩, q⟩ hz
  | lst e h =>
    obtain ⟨as, R, n⟩ := reads_of I h0 (.lst e h) rv
    cases rv
    exact repr_of_reads' R hs (fun _ => n) hg (by have := hr.units; omega) (fun _ _ z => z) (fun h' u tk k => ⟨.str _, H, I.kept (t' := tk) k, ⟨_, rfl⟩, q⟩) hz
  | tup e h =>
    obtain ⟨as, R, n⟩ := reads_of I h0 (.tup e h) rv
    cases rv
    exact repr_of_reads' R hs (fun _ => n) hg (by have := hr.units; omega) (fun _ _ z => z) (fun h' u tk k => ⟨.str _, H, I.kept (t' := tk) k, ⟨_, rfl⟩, q⟩) hz
  | dct e h1 h2 =>
    obtain ⟨as, R, n⟩ := reads_of I h0 (.dct e h1 h2) rv
    cases rv
    exact repr_of_reads' R hs (fun _ => n) hg (by have := hr.units; omega) (fun _ _ z => z) (fun h' u tk k => ⟨.str _, H, I.kept (t' := tk) k, ⟨_, rfl⟩, q⟩) hz
end Ls
end
section
set_option Elab.async false
set_option linter.all false
set_option maxRecDepth 100000
set_option maxHeartbeats 4000000
namespace Ls
open PySem PySem.Spec PyProof.Rows L2 LamX

/-! ### heard(lambda: ..): what is wished of an exception may hang on the hearer's slots -/
section
variable {X : Cx} {pins : List (Addr × Obj)} {σ : L2.St} {H : Hp} {s : Shared}
theorem pe_actS {CXg : CXT} {Eg : XK} {Ng : List Str} {qg : Str} {sg : Scope} {g f c' : Addr} {cdg pm ctv : Value} {params : Arguments} {body : PySem.Expr} {scope : Scope} {k i : Nat} {a : Str} {pn : List (Addr × Obj)} {xe : Value → Shared → Prop} {W : WX} {tb : XK → TE} {p1 p2 : Pos}
    (I : Inv X pins σ H s) (L : LamS X.env.scope scope) (hf : s.heap.get? f = some (PySem.W.kla_obj "<lambda>" (X.env.qual ++ "<lambda>") params body scope (cloFrom X.env.cells scope.names []) pm c' ctv)) (hfn : H f = none) (hfr : f ∉ frs X.stack)
    (hbind : bindArgs (PySem.W.kla_fn "<lambda>" (X.env.qual ++ "<lambda>") params body scope (cloFrom X.env.cells scope.names []) pm (.ref c') ctv) ⟨[], []⟩ = pure [])
    (tk : Takes ((cxOf CXg X.prog X.w X.K X.mg X.base Ng qg sg g cdg X.A X.stack s H Eg).tr pn xe) W) (hr : Room (k + 1) (X.A.deeper (envOfC qg sg s.heap.objs.size g cdg)))
    (hbody : ∀ (A : Around) (outer : List Env) (s : Shared) (H : Hp) (E : XK), Room k (A.deeper (lamEnv X scope s.heap.objs.size f c')) → PE (lamCx X A outer s H E scope f c') body (tb E))
    (hN : Ng[i]? = some a) (hv : Vis sg a) (hd : (a == ("__debug__" : Str)) = false := by decide) (hcd : (a == ("__classdict__" : Str)) = false := by decide) :
    PE ((cxOf CXg X.prog X.w X.K X.mg X.base Ng qg sg g cdg X.A X.stack s H Eg).tr pn xe) (.Call (.Name a p1) [] [] p2)
      (fun σZ HZ Q => σZ[i]? = some (some (.ref f)) ∧ HZ c' = some (CodeO c' (X.env.qual ++ "<lambda>")) ∧ tb (fun cls d H' => W cls d σZ H') σ HZ Q) := by
  refine ⟨fun pinsZ sZ σZ HZ Q IZ h => ?_⟩
  obtain ⟨hs, hc, ht⟩ := h
  -- the same with the wish at these very slots: the library's rule over a wish of its own
  refine wpAny_Call_Name_kw (thn ((pe_var (pos := p1) (i := i) hN hv hd hcd).run pinsZ sZ σZ HZ (fun v H1 => v = .ref f ∧ H1 = HZ) IZ ⟨.ref f, hs, rfl, rfl⟩) fun u s1 ⟨v, H1, I1, r1, q1⟩ => ?_)
  obtain ⟨ev, eH⟩ := q1
  subst ev
  rw [eH] at I1
  obtain rfl : u = Value.ref f := r1
  have of1 := I1.base.keep f _ hf hfn hfr (fun z => nomatch (show f ∈ ([] : List Addr) from z))
  refine PySem.W.callWith_F0 ⟨_, _, _, _, of1⟩ ?_
  have un : Un (frs X.stack) [] H HZ s.heap s1.heap := I1.base
  obtain ⟨⟨oc, vs, t, hoc, hdc, hvc⟩, _, _⟩ := I1.hok c' _ hc
  have rc : codeAny (model X.prog X.w) (X.A.deeper (envOfC qg sg s.heap.objs.size g cdg)) (.call (.ref f) ⟨[], []⟩) (CR (L2.CX X.prog X.w) (envOfC qg sg s.heap.objs.size g cdg :: X.stack) X.prog X.w HZ s1 Q (fun cls d H' => W cls d σZ H')) s1 := by
    refine PySem.W.kla_callFunE hr.depth of1 rfl L.co L.gen rfl ⟨c', oc, vs, t, rfl, hoc, hdc, hvc⟩ ?_
    rw [hbind]
    refine wpAny_pure (wpAny_newFunctionEnv (fun y hy => (L.own y hy).2) (fun y hy => absurd hy (by simp)) (fun h₁ hns hsb => ⟨I1.nolimit.fresh _ hsb, ?_⟩) L.kind)
    show codeAny _ _ (.expr body (lamEnv X scope s1.heap.objs.size f c')) _ _
    have J := lam_start2 (E := fun cls d H' => W cls d σZ H') (f := f) (c' := c') (tk := s1.toks + ([] : List (Str × Value)).length) I L I1.env0 hr.hd un hns fun b o e => hsb.extBut b o (Nat.ne_of_lt (Heap.lt_size e)) (Heap.get?_push_of_some _ e)
    refine PySem.W.kla_codeExpr (wpAny_mono ((hbody _ _ s1 HZ _ (hr.deeper _)).run [] _ _ HZ Q J ht) (fun v s' hq => ?_) fun e s' hq => hq)
    obtain ⟨w', H', J', rv, q⟩ := hq
    exact ⟨w', H', J'.os, J'.bare, J'.base, J'.hok, rv, q⟩
  refine wpAny_call (codeAny_mono rc fun r s' hq => ?_)
  match r, hq with
  | .error e, hq => exact tk e s' (XE.of_call I1 (fun cls d H' h => h) hq)
  | .ok (.ret u), hq => exact I1.after hq
end
/-- the def that calls what it got; TT: what it makes of the lambda's reading -/
def GivesP (P : Program) (w : World) (K : PySem.W.Frag) (mg : Str → Option Value) (base : Heap) (A : Around) (stack : List Env) (Ng : List Str) (x : Str) (sg : Scope) (g : Addr) (cdg : Value) (bg : List Stmt) (a : Str) (q : Str) (TT : (XK → Hp → VK → Prop) → Hp → VK → Prop) : Prop :=
  ∀ (f c' : Addr) (s : Shared) (H : Hp) (Q : VK) (tl : XK → Hp → VK → Prop),
    (∀ (W : WX) (pn : List (Addr × Obj)) (xe : Value → Shared → Prop) (p1 p2 : Pos), Takes ((cxOf C8.CX0 P w K mg base Ng x sg g cdg A stack s H C8.E0).tr pn xe) W →
      PE ((cxOf C8.CX0 P w K mg base Ng x sg g cdg A stack s H C8.E0).tr pn xe) (.Call (.Name a p1) [] [] p2) (fun σZ HZ Q => σZ[0]? = some (some (.ref f)) ∧ HZ c' = some (CodeO c' q) ∧ tl (fun cls d H' => W cls d σZ H') HZ Q)) →
    H c' = some (CodeO c' q) → TT tl H Q →
    ∃ t, PSs (cxOf C8.CX0 P w K mg base Ng x sg g cdg A stack s H C8.E0).nox bg t ∧ t { nx := fun _ H' => Q .non H', rt := Q } (L2.start Ng [.ref f]) H
def GivesS (X : Cx) (Ng : List Str) (x : Str) (sg : Scope) (g : Addr) (cdg : Value) (bg : List Stmt) (a : Str) (q : Str) (TT : (XK → Hp → VK → Prop) → Hp → VK → Prop) : Prop :=
  GivesP X.prog X.w X.K X.mg X.base X.A X.stack Ng x sg g cdg bg a q TT
section
variable {X : Cx}
/-- x(lambda: body) -/
theorem pe_lamS {T : List (Addr × Str)} {TT : (XK → Hp → VK → Prop) → Hp → VK → Prop} {x a : Str} {g c P : Addr} {k : Nat} {st : Stmt} {fd : FuncData} {Ng : List Str}
    {params : Arguments} {body : PySem.Expr} {scope : Scope} {t : XK → TE} {p lpos pos : Pos} (F : Fun X.K x x st g fd) (hg : Gl X x) (hm : X.mg x = some (.ref g))
    (hb : L2.Binds X.K fd [a] []) (Sg : FnScope Ng [a] (defScope st)) (hNg : Ng[0]? = some a) (hva : Vis (defScope st) a)
    (hG : ∀ cdv, GivesS X Ng x (defScope st) g cdv (defBody st) a (X.env.qual ++ "<lambda>") TT)
    (TB : TabB X.base X.mg c P) (hcode : X.env.code = .ref c) (hmT : (P, X.env.qual ++ "<lambda>") ∈ T) (hu : ∀ p ∈ T, p.1 = P → p.2 = X.env.qual ++ "<lambda>") (hr : Room (k + 2) X.A) (L : LamS X.env.scope scope) (hdef : defaultsOf params X.env = ([], []))
    (hbind : ∀ (q : Str) (cl : List (Str × Addr)) (pm cv ctv : Value), bindArgs (PySem.W.kla_fn "<lambda>" q params body scope cl pm cv ctv) ⟨[], []⟩ = pure [])
    (hbody : ∀ (A : Around) (outer : List Env) (s : Shared) (H : Hp) (E : XK) (f c' : Addr), Room k (A.deeper (lamEnv X scope s.heap.objs.size f c')) → PE (lamCx X A outer s H E scope f c') body (t E))
    (hdb : (x == ("__debug__" : Str)) = false := by decide) (hd : (a == ("__debug__" : Str)) = false := by decide) (hcd : (a == ("__classdict__" : Str)) = false := by decide) :
    PE X (.Call (.Name x p) [.Lambda params body scope lpos] [] pos) (tLam T TT t) := by
  obtain ⟨oc, od, kV, doc, pm, an, cdv, ct, osl, rfl, lk, hcg⟩ := F.ex
  refine ⟨fun pins s σ H Q I h => ?_⟩
  obtain ⟨hT, h⟩ := h
  refine wpAny_Call_Name_kw (ld_glob I hg hm ?_ hdb)
  refine PySem.W.callWith_K (h₀ := X.base) I.ok.mod.kin F.kp ?_ (by rfl) (by rfl)
  show wpAny _ _ (spliced ((false, eval (.Lambda params body scope lpos) X.env) :: backTo pos (starEach [] X.env))) _ _ s
  refine Calls.spliced_cons (lam_make2 I TB hcode hmT hu hT hdef (L.has I.ok) fun f c' pm' ctv H1 s' I1 eN T1 hf hfn hfr hco => Calls.spliced_nil ⟨I1.kIn, ?_⟩)
  have rc : codeAny (model X.prog X.w) X.A (.call (.ref g) ⟨[.ref f], []⟩) (CR C8.CX0 X.stack X.prog X.w H1 s' Q C8.E0) s' := by
    refine run_ofS (N := Ng) (ps := [a]) (us := [.ref f]) (vs := [.ref f]) lk hcg Sg hr I1.env0 (hb s' [.ref f] I1.kIn rfl) (.cons rfl .nil) rfl fun hr' => ?_
    obtain ⟨t', ht', hq'⟩ := hG cdv f c' s' H1 Q (fun E H' Q' => t E σ H' Q') (fun W pn xe p1 p2 tk => pe_actS (i := 0) I1 L hf hfn hfr (hbind _ _ _ _ _) tk hr' (fun A outer s H E hr2 => hbody A outer s H E f c' hr2) hNg hva hd hcd) hco (h H1 eN T1)
    exact ⟨t', ht'.nox, hq'⟩
  refine wpAny_call (codeAny_mono rc fun r s2 hq => ?_)
  match r, hq with
  | .error e, hq => exact (show False from hq).elim
  | .ok (.ret u), hq => exact I1.after hq
end
end Ls
end
section
set_option Elab.async false
set_option linter.all false
set_option maxRecDepth 100000
set_option maxHeartbeats 4000000
namespace Ls
open PySem PySem.Spec PyProof.Rows L2

theorem atI_at {α : Type} {xs : List α} {i : Int} {j : Nat} {v : α} (e : i = (j : Int)) (h : xs[j]? = some v) : atI xs i = some v := by
  rw [e]
  exact atI_nat h
theorem Paired.at_ {α β : Type} {F : α → β → Prop} : ∀ {l₁ : List α} {l₂ : List β} {i : Nat} {a : α}, Paired F l₁ l₂ → l₁[i]? = some a → ∃ b, l₂[i]? = some b ∧ F a b
  | _, _, _, _, .nil, h => by simp at h
  | _, _, 0, _, .cons r _, h => by simp at h; subst h; exact ⟨_, rfl, r⟩
  | _, _, i + 1, a, .cons _ t, h => by
    obtain ⟨b, h1, h2⟩ := Paired.at_ (i := i) (a := a) t (by simpa using h)
    exact ⟨b, by simpa using h1, h2⟩
theorem ext_free {H H' : Hp} (e : Ext H H') {a : Addr} (h : H' a = none) : H a = none := by
  cases q : H a with
  | none => rfl
  | some o => rw [e a o q] at h; cases h

/-! ### what is seen of a heap: without the places S, without the tables of code objects -/
def vis (S : List Addr) (H : Hp) : Hp := fun b => if b ∈ S then none else match H b with | some (.tbl _) => none | o => o
theorem vis_some {S : List Addr} {H : Hp} {b : Addr} {o : HO} (h : vis S H b = some o) : b ∉ S ∧ H b = some o ∧ ∀ ps, o ≠ .tbl ps := by
  unfold vis at h
  by_cases e : b ∈ S
  · rw [if_pos e] at h
    cases h
  · rw [if_neg e] at h
    cases q : H b with
    | none => rw [q] at h; cases h
    | some u =>
      rw [q] at h
      cases u <;> first | (cases h; done) | (cases h; exact ⟨e, rfl, fun ps z => nomatch z⟩)
theorem vis_at {S : List Addr} {H : Hp} {b : Addr} {o : HO} (h : b ∉ S) (q : H b = some o) (n : ∀ ps, o ≠ .tbl ps) : vis S H b = some o := by
  unfold vis
  rw [if_neg h, q]
  cases o <;> first | rfl | exact absurd rfl (n _)
theorem vis_ext {S : List Addr} {H : Hp} : Ext (vis S H) H := fun a o e => (vis_some e).2.1
theorem vis_mono {S : List Addr} {H H' : Hp} (e : Ext H H') : Ext (vis S H) (vis S H') := fun a o h => by
  obtain ⟨h1, h2, h3⟩ := vis_some h
  exact vis_at h1 (e a o h2) h3
theorem vis_keep {p c : Addr} {S : List Addr} {H H' : Hp} (k : Keep p c H H') (hp : p ∈ S) (hc : c ∈ S) : Ext (vis S H) (vis S H') := fun a o e => by
  obtain ⟨h1, h2, h3⟩ := vis_some e
  exact vis_at h1 (k a o h2 (fun z => h1 (by rw [z]; exact hp)) fun z => h1 (by rw [z]; exact hc)) h3
theorem vis_extN {S : List Addr} {H H' : Hp} (k : LamX.ExtN H H') : Ext (vis S H) (vis S H') := fun a o e => by
  obtain ⟨h1, h2, h3⟩ := vis_some e
  exact vis_at h1 (k a o h2 h3) h3
theorem vis_new {S : List Addr} {H H' : Hp} (h : ∀ b ∈ S, H b ≠ none) : ∀ {a : Addr} {o : HO}, nw H H' a = some o → (∀ ps, o ≠ .tbl ps) → vis S H' a = some o := fun {a o} e n => by
  obtain ⟨h1, h2⟩ := nw_some e
  exact vis_at (fun z => h a z h1) h2 n
theorem tabs_keep {T : List (Addr × Str)} {p c : Addr} {H H' : Hp} (t : LamX.Tabs T H) (k : Keep p c H H') {xs ys : List V} (hp : H p = some (.lst xs)) (hc : H c = some (.lst ys)) : LamX.Tabs T H' := fun q hq => by
  obtain ⟨ps, h1, h2, h3⟩ := t q hq
  have n : ∀ {b : Addr} {o : HO}, H b = some o → (∀ zs, o ≠ .lst zs) → H' b = some o := fun {b o} e n => k b o e (fun z => by
      rw [z, hp] at e
      exact n xs (Option.some.inj e).symm) fun z => by
      rw [z, hc] at e
      exact n ys (Option.some.inj e).symm
  refine ⟨ps, n h1 (fun zs z => by cases z), h2, fun pos cv hcv => ?_⟩
  obtain ⟨c', e1, e2⟩ := h3 pos cv hcv
  exact ⟨c', e1, n e2 (fun zs z => by unfold LamX.CodeO at z; cases z)⟩

theorem tabs_upd {T : List (Addr × Str)} {p : Addr} {H : Hp} {o : HO} (t : LamX.Tabs T H) {xs : List V} (hp : H p = some (.lst xs)) : LamX.Tabs T (upd H p o) := tabs_keep (c := p) t Keep.upd1 hp hp
theorem tabs_upd2 {T : List (Addr × Str)} {p : Addr} {H : Hp} {o : HO} (t : LamX.Tabs T H) {kvs : List (Key × V)} (hp : H p = some (.dK kvs)) : LamX.Tabs T (upd H p o) := fun q hq => by
  obtain ⟨ps, h1, h2, h3⟩ := t q hq
  refine ⟨ps, ?_, h2, fun pos cv hcv => ?_⟩
  · rw [upd_ne fun z => by rw [z, hp] at h1; cases h1]
    exact h1
  · obtain ⟨c', e1, e2⟩ := h3 pos cv hcv
    refine ⟨c', e1, ?_⟩
    rw [upd_ne fun z => by rw [z, hp] at e2; unfold LamX.CodeO at e2; cases e2]
    exact e2
/-! ### own errors with fields, by one word -/
/-- the __init__ of an error class at C that keeps its arguments under the names fs -/
def spX (C : Addr) (fs : List Str) : Sp := fun vs H Q _ => ∃ (a : Addr) (ys : List V), vs = .ref a :: ys ∧ ys.length = fs.length ∧ H a = some (exo a C none) ∧
  ∀ (dx : Addr) (H' : Hp), H dx = none → dx ≠ a → H' a = some (exo a C (some dx)) → H' dx = some (exd dx (fs.zip ys).reverse) → (∀ b, b ≠ a → b ≠ dx → H' b = H b) → Q .non H'
section
variable (P : Program) (w : World) (K : PySem.W.Frag) (mg : Str → Option Value) (base : Heap)
structure Xer (C : Addr) (x : Str) (fs : List Str) : Prop where
  m : mg x = some (.ref C)
  oex : OexC K C
  ex : ∃ fI fd ps, PySem.W.findIn K (.ref C) "__init__" = some (some (.ref fI)) ∧ PySem.W.typeIn K (.ref fI) = some (.type "function") ∧ FnOk P w K mg base CX0 1 fI fd ps (spX C fs) ∧ Binds K fd ps []
end
theorem pa_weak {X : Cx} {es : List PySem.Expr} {ta : TA} (h : PA X es ta) : PA X es (fun σ H Q => ∃ Q0 : List V → Hp → Prop, ta σ H Q0 ∧ ∀ ys H1, Q0 ys H1 → Q ys H1) :=
  ⟨fun pos pins s σ H Q I ⟨Q0, h0, k⟩ => thn (h.run pos pins s σ H Q0 I h0) fun us s1 ⟨vs, H1, I1, r, q⟩ => ⟨vs, H1, I1, r, k _ _ q⟩⟩
section
variable {X : Cx} {C : Addr} {x : Str} {fs : List Str} {p pos : Pos} {e : PySem.Expr} {es : List PySem.Expr} {ta : TA}
theorem pmk_err (c : Xer X.prog X.w X.K X.mg X.base C x fs) (hr : Room 2 X.A) (hg : Gl X x) (ha : PA X (e :: es) ta)
    (hdb : (x == ("__debug__" : Str)) = false := by decide) (he : starEach (e :: es) X.env = (false, eval e X.env) :: starEach es X.env := by rfl) (hpl : (backTo pos (starEach es X.env)).any (·.1) = false := by rfl) :
    PMk X (.Call (.Name x p) (e :: es) [] pos) (fun σ H Q => ta σ H fun ys H1 => ys.length = fs.length ∧ ys.length ≤ 1000 ∧ ∀ d, H1 d = none → Q (.ref C) (some d) (upd H1 d (.xd (fs.zip ys).reverse))) := by
  obtain ⟨fI, fd, ps, iC, tI, F, hb⟩ := c.ex
  have h := pmk_oex (dvs := []) (ds := []) (p := p) (pos := pos) c.oex iC tI F hr hb .nil pass0 hg c.m (pa_weak ha) hdb he hpl
  intro pins s σ H Q I hq
  refine h pins s σ H Q I ?_
  refine ⟨_, hq, fun ys H1 ⟨hl, hz, k⟩ => ?_⟩
  refine ⟨hz, fun a na => ⟨a, ys ++ [], by simp, by simpa using hl, upd_same, fun dx H2 n1 n2 h1 h2 h3 => ⟨rfl, dx, _, h1, h2, ?_, ?_⟩⟩⟩
  · rw [upd_ne n2] at n1
    exact n1
  · rw [upd_ne n2] at n1
    have eH : upd (del H2 a) dx (.xd (fs.zip (ys ++ [])).reverse) = upd H1 dx (.xd (fs.zip ys).reverse) := by
      rw [List.append_nil]
      funext b
      by_cases hb : b = dx
      · rw [hb, upd_same, upd_same]
      · rw [upd_ne hb, upd_ne hb]
        by_cases ha : b = a
        · rw [ha, del_same, na]
        · rw [del_ne ha, h3 b ha hb, upd_ne ha]
    rw [eH]
    exact k dx n1
end

/-! ### what passes on in a def's body, in a lambda's, in an __init__ that says super() -/
section
variable {P : Program} {w : World} {K : PySem.W.Frag} {mg : Str → Option Value} {base : Heap} {N : List Str} {qual : Str} {scope : Scope} {f cc : Addr} {cd : Value} {A : Around} {outer : List Env} {s : Shared} {H : Hp} {E : XK}
theorem tkC : Takes (cxOf (L2.CX P w) P w K mg base N qual scope f cd A outer s H E) (fun cls d _ H => E cls d H) := takes_of rfl rfl rfl rfl
theorem passC : Passes (L2.CX P w) (cxOf (L2.CX P w) P w K mg base N qual scope f cd A outer s H E) E := passes_call tkC fun _ _ _ _ h => h
theorem tkS : Takes (cxS (L2.CX P w) P w K mg base N qual scope f cd cc A outer s H E) (fun cls d _ H => E cls d H) := takes_of rfl rfl rfl rfl
theorem passS : Passes (L2.CX P w) (cxS (L2.CX P w) P w K mg base N qual scope f cd cc A outer s H E) E := passes_call tkS fun _ _ _ _ h => h
theorem passN {X : Cx} : Passes (L2.CX P w) X (fun _ _ _ => False) := fun _ _ _ _ _ _ _ h => by
  obtain ⟨_, _, _, _, _, _, _, _, _, _, _, _, z⟩ := h
  exact z.elim
theorem tkL {X : Cx} {c' : Addr} : Takes (LamX.lamCx X A outer s H E scope f c') (fun cls d _ H => E cls d H) := takes_of rfl rfl rfl rfl
theorem passLm {X : Cx} {c' : Addr} : Passes (L2.CX X.prog X.w) (LamX.lamCx X A outer s H E scope f c') E := passes_call tkL fun _ _ _ _ h => h
end
/-! ### plain data: its type, its truth as a name -/
def tyN : PyData → String
  | .none => "NoneType"
  | .bool _ => "bool"
  | .int _ => "int"
  | .str _ => "str"
  | .list _ => "list"
  | .tuple _ => "tuple"
  | .dict _ => "dict"
theorem tyX_of {K : PySem.W.Frag} {H : Hp} {v : V} {d : PyData} (h : TV H v d) : TyX K H v (.type (tyN d)) := by
  cases h with
  | non => exact .base .non
  | bl b => exact .base (.bl b)
  | int i => exact .base (.int i)
  | str x => exact .base (.str x)
  | lst e _ => exact .base (.lst e)
  | tup e _ => exact .base (.tup e)
  | dct e _ _ => exact .base (.dK e)
def isStrD : PyData → Bool
  | .str _ => true
  | _ => false
theorem kit_str {K : PySem.W.Frag} (d : PyData) : PySem.W.kitOne K (.type (tyN d)) (.type "str") = some (isStrD d) := by
  have k1 : kitB "NoneType" "str" = some false := by decide +kernel
  have k2 : kitB "bool" "str" = some false := by decide +kernel
  have k3 : kitB "int" "str" = some false := by decide +kernel
  have k4 : kitB "str" "str" = some true := by decide +kernel
  have k5 : kitB "list" "str" = some false := by decide +kernel
  have k6 : kitB "tuple" "str" = some false := by decide +kernel
  have k7 : kitB "dict" "str" = some false := by decide +kernel
  cases d <;> first | exact kit_ty k1 | exact kit_ty k2 | exact kit_ty k3 | exact kit_ty k4 | exact kit_ty k5 | exact kit_ty k6 | exact kit_ty k7
theorem strD {d : PyData} (h : isStrD d = true) : ∃ z, d = .str z := by
  cases d <;> first | exact ⟨_, rfl⟩ | cases h
theorem tv_str {H : Hp} {v : V} {z : Str} (h : TV H v (.str z)) : v = .str z := by
  cases h
  rfl
/-- texts within are short -/
def SmD (d : PyData) : Prop := ∀ z, d = .str z → z.length ≤ 1000
/-- a def that closes over __class__ -/
structure FunS (K : PySem.W.Frag) (x qual : Str) (st : Stmt) (f : Addr) (fd : FuncData) (cda cc : Addr) : Prop where
  ex : ∃ (oc : Value) (od : Option Addr) (kV doc pm : Value) (an : Option Addr) (ct : Value) (osl : Array (Option Value)),
    fd = PySem.W.ksFn x qual (defArgs st) (defBody st) (defScope st) .none kV doc pm an (.ref cda) ct cc ∧ K.lookup f = some ⟨oc, od, .func fd, osl⟩ ∧ PySem.W.codeIn K (.ref cda) qual = true
  kp : PySem.W.keepIn K (.ref f) = true

/-! ### a comprehension that makes one item a turn; what is kept may hang on the turn -/
section
variable {J : It} {n : Nat} {G : Hp → Prop} {Y : Nat → Hp → V → Hp → Prop} {g : TG} {te : TE} {vs : List Nat} {σ : L2.St} {H1 : Hp} {D : Addr} {Qd : Hp → Prop}
theorem lc_mapI (w : Walk J n G Y) (S : List Addr) (hS : D ∈ S) (Iv : Nat → Hp → Prop) (R : Nat → V → Hp → Prop) (hn : n ≤ 100000) (hm : ∀ j y H H', Ext H H' → R j y H → R j y H')
    (hIv : ∀ i H o, Iv i H → Iv i (upd H D o)) (h0 : Iv 0 (upd H1 D (.lst []))) (hG : ∀ i H, Ext (hid S H1) (hid S H) → Iv i H → G H)
    (hs : ∀ i x H H' acc (C : VK), i < n → Ext (hid S H1) (hid S H) → Iv i H → H D = some (.lst acc) → Y i H x H' → (∀ y H4, H4 D = some (.lst acc) → Ext (hid S H) (hid S H4) → Iv (i + 1) H4 → R i y (hid S H4) → C y H4) →
      g x (wipe σ vs) H' fun σ2 H2 => wipe σ2 vs = wipe σ vs ∧ te σ2 H2 C)
    (hd : ∀ H ys, Ext (hid S H1) (hid S H) → Iv n H → H D = some (.lst ys) → ys.length = n → (∀ j y, ys[j]? = some y → R j y (hid S H)) → Qd H) :
    ∃ W : Nat → Nat → Hp → Prop, (∃ m, W 0 m (upd H1 D (.lst []))) ∧ ∀ i m H, W i m H →
      (J.stop i H ∧ Qd H) ∨ (J.go i H ∧ ∃ Nx : Hp → Prop, (∀ H', Nx H' → ∃ m', m' < m ∧ W (i + 1) m' H') ∧ ∀ x H', J.yld i H x H' → g x (wipe σ vs) H' fun σ2 H2 => wipe σ2 vs = wipe σ vs ∧ tYes σ2 H2 fun b H3 =>
        if b = true then te σ2 H3 fun y H4 => ∃ acc, H4 D = some (.lst acc) ∧ acc.length < sizeLine ∧ Nx (upd H4 D (.lst (acc ++ [y]))) else Nx H3) := by
  refine lc_it w (fun i H => ∃ ys : List V, H D = some (.lst ys) ∧ ys.length = i ∧ Ext (hid S H1) (hid S H) ∧ Iv i H ∧ ∀ j y, ys[j]? = some y → R j y (hid S H))
    ⟨[], upd_same, rfl, by rw [hid_upd hS]; exact Ext.rfl', h0, fun j y e => by simp at e⟩ (fun i H _ ⟨_, _, _, e, iv, _⟩ => hG i H e iv) ?_ ?_
  · rintro i x H H' hi ⟨ys, hD, hl, e, iv, r⟩ y
    refine hs i x H H' ys _ hi e iv hD y fun v H4 h4 e4 iv4 r4 => ?_
    refine ⟨ys, h4, Nat.lt_of_le_of_lt (show ys.length ≤ 100000 by omega) (by decide), ys ++ [v], upd_same, by rw [List.length_append, hl]; rfl, by rw [hid_upd hS]; exact e.trans e4, hIv _ _ _ iv4, fun j z hz => ?_⟩
    rw [hid_upd hS]
    by_cases hj : j < ys.length
    · rw [List.getElem?_append_left hj] at hz
      exact hm j z _ _ e4 (r j z hz)
    · rw [List.getElem?_append_right (by omega)] at hz
      have : j = i := by
        cases q : j - ys.length with
        | zero => omega
        | succ k => rw [q] at hz; simp at hz
      subst this
      rw [hl] at hz
      simp at hz
      subst hz
      exact r4
  · rintro H ⟨ys, hD, hl, e, iv, r⟩
    exact hd H ys e iv hD hl r
end

/-! ### C.m(a = v), m a classmethod -/
section
variable (P : Program) (w : World) (K : PySem.W.Frag) (mg : Str → Option Value) (base : Heap) (CX : CXT) (k : Nat)
structure ClmK (C : Addr) (m a : Str) (sp : Sp) : Prop where
  ex : ∃ mc p g fd c, ClX.CRead K C mc ∧ ClX.CMet K C mc m p g ∧ FnOk P w K mg base CX k g fd [c, a] sp ∧ ∀ (s : Shared) (u : Value), BindsTo s fd ⟨[.ref C], [(a, u)]⟩ [(c, .ref C), (a, u)]
end
section
variable {X : Cx} {CX : CXT} {k : Nat} {C : Addr} {sp : Sp} {E : XK} {m a : Str} {pos apos : Pos} {o : PySem.Expr} {kws : List Keyword} {ta : TE} {tk : TA} {pl : Sem Bool}
theorem pe_clmk (c : ClmK X.prog X.w X.K X.mg X.base CX k C m a sp) (hr : Room k X.A) (ho : PE X o ta) (hx : Passes CX X E) (hkw : PK X kws tk)
    (hall : (backToKw pos (keywordEach kws X.env)).all (·.1.isSome) = true := by rfl) (hks : (backToKw pos (keywordEach kws X.env)).filterMap (·.1) = [a] := by rfl)
    (hpl : ((backTo pos (starEach [] X.env)).any (·.1) || (backToKw pos (keywordEach kws X.env)).any (·.1.isNone)) = false := by rfl)
    (ht : eval (.Call (.Attribute o m apos) [] kws pos) X.env = (do
      let ov ← eval o X.env
      standAt apos.atName
      let (f, first) ← holding [ov] (getMethod ov m pl)
      callWith pos f first (backTo pos (starEach [] X.env)) (backToKw pos (keywordEach kws X.env))) := by rfl) :
    PE X (.Call (.Attribute o m apos) [] kws pos) (fun σ H Q => ta σ H fun x H1 => x = .ref C ∧ tk σ H1 fun zs H2 => ∃ z, zs = [z] ∧ sp [.ref C, z] H2 Q E) := by
  obtain ⟨mc, p, g, fd, cn, r, c, F, hb⟩ := c.ex
  refine ⟨fun pins s σ H Q I h => ?_⟩
  refine PySem.W.methodCall_KW (pl := pl) (thn (ho.run pins s σ H _ I h) fun u s1 ⟨x, H1, I1, rx, ex, q⟩ => ?_) ht
  subst ex
  obtain rfl : u = Value.ref C := rx
  refine ClX.getmethcm_ok I1 r c fun s2 I2 => ?_
  refine PySem.W.callWith_of (P := PySem.W.MethP X.K s1.heap.objs.size g (.ref C)) hpl (PySem.W.keeps_M c.fi) (evalArgs_kw2_nil hall ?_)
  refine thn (hkw.run pos _ s2 σ H1 _ I2 q) fun ws s3 ⟨zs, H2, I3, rz, z, ez, q3⟩ => ?_
  subst ez
  refine ⟨⟨ClX.pin_at I3, I3.kIn⟩, ?_⟩
  rw [hks]
  obtain ⟨u, rfl, ru⟩ := vals1 rz
  have r2 : Vals [V.ref C, z] [Value.ref C, u] := .cons rfl (.cons ru .nil)
  have run := F.run X.A X.stack s3 H2 ⟨[.ref C], [(a, u)]⟩ [.ref C, u] [.ref C, z] Q E hr I3.env0 (hb s3 u) r2 q3
  have z2 : wpAny (model X.prog X.w) X.A (call (.ref s1.heap.objs.size) [] [(a, u)]) (EP X ((s1.heap.objs.size, PySem.W.methodObj (.ref g) (.ref C)) :: pins) σ Q) X.xe s3 := by
    refine wpAny_call (PySem.W.method_call (ClX.pin_at I3) (codeAny_mono run fun res s' hq => ?_))
    match res, hq with
    | .error e, hq => exact hx _ σ H2 s3 e s' I3 hq
    | .ok (.ret u), hq => exact I3.after hq
  exact thn z2 fun _ _ y => ClX.unpinE y
end

mutual
theorem tv_vis {H : Hp} : ∀ {v : V} {d : PyData}, TV H v d → TV (vis [] H) v d
  | _, _, .non => .non
  | _, _, .bl b => .bl b
  | _, _, .int i => .int i
  | _, _, .str x => .str x
  | _, _, .lst q h => .lst (vis_at (by simp) q fun _ z => by cases z) (tvs_vis h)
  | _, _, .tup q h => .tup (vis_at (by simp) q fun _ z => by cases z) (tvs_vis h)
  | _, _, .dct q h1 h2 => .dct (vis_at (by simp) q fun _ z => by cases z) (tvs_vis h1) (tvs_vis h2)
theorem tvs_vis {H : Hp} : ∀ {vs : List V} {ds : List PyData}, TVs H vs ds → TVs (vis [] H) vs ds
  | _, _, .nil => .nil
  | _, _, .cons h hs => .cons (tv_vis h) (tvs_vis hs)
end
end Ls
end
section
set_option Elab.async false
set_option linter.all false
set_option maxRecDepth 100000
set_option maxHeartbeats 4000000
namespace Ls
open PySem PySem.Spec PyProof.Rows L2

/-! ### x == y and x != y by an own __eq__, both answers, y of any kind -/
namespace OW
open PySem.W
section
variable {prog : Program} {w : World} {A : Around} {E : Value → Shared → Prop} {s : Shared} {K : Frag} {x C f : Addr} {ox : Obj} {od : Option Obj} {b tb : Value}
theorem ifBound_B {M : Model} {id : String} {name : Str} {args : List Value} {Q : Option Value → Shared → Prop} (X : K.In s.heap) (I : InstAt s.heap x ox C od) (hs : findIn K (.ref C) name = some (some (.builtin id))) (hb : bindSpecial (.builtin id) (.ref x) = pure (.builtin id, [.ref x]))
    (h : wpAny M A (call (.builtin id) (.ref x :: args)) (fun v => Q (some v)) E s) : wpAny M A (callSpecialIfBound? (.ref x) name args) Q E s := by
  simp only [callSpecialIfBound?, bindSpecialIfBound?]
  refine wpAny_holding (wpAny_bind (wpAny_bind (wpAny_bind (I.type.here ((looks_findIn X hs).here ?_)))))
  refine wpAny_bind (wpAny_askSetting (wpAny_ite ?_))
  have last : wpAny M A (call (.builtin id) ([.ref x] ++ args) >>= fun v => pure (some v)) Q E s := wpAny_bind (wpAny_mono h (fun v s' h' => wpAny_pure h') fun _ _ h' => h')
  split
  · exact wpAny_bind (wpAny_of_eq hb (wpAny_pure (by exact last)))
  · exact wpAny_tryCatch (wpAny_bind (wpAny_of_eq hb (wpAny_pure (by exact last))))
theorem ne_body {Q : Fin → Shared → Prop} (hu : A.units < cLine) (X : K.In s.heap) (I : InstAt s.heap x ox C od) (hs : findIn K (.ref C) "__eq__" = some (some (.ref f))) (hf : isFn K (.ref f) = true)
    (h : wpAny (model prog w) A (call (.ref f) [.ref x, b]) (fun v s' => ∃ r, v = .bool r ∧ Q (.done (.ret (.bool (!r)))) s') E s) : wpAny (model prog w) A (Builtin.«object.__ne__» ⟨[.ref x, b], []⟩) Q E s := by
  unfold Builtin.«object.__ne__»
  refine wpAny_bind (wpAny_of_eq (a := ((Value.ref x : Value), [b])) (by first | rfl | (simp only [slotArgs]; rfl)) ?_)
  refine wpAny_bind (wpAny_cRoomFor hu ?_)
  refine wpAny_bind (ifBound_K X I hs hf (wpAny_mono h (fun v s' hv => ?_) fun _ _ e => e))
  obtain ⟨r, rfl, q⟩ := hv
  exact wpAny_bind (wpAny_truthy_bool (wpAny_pure q))
theorem rich_ne {L : Addr} {h₀ : Heap} {m : Str → Option Value} {Q : Value → Shared → Prop} (hu : A.units + 1 < cLine) (F : Fr h₀ L s.heap m) (X₀ : K.In h₀) (I : InstAt s.heap x ox C od) (ht : Looks (model prog w) s.heap (typeOf b) tb) (hn : notFirst K C tb = true)
    (hs : findIn K (.ref C) "__eq__" = some (some (.ref f))) (hf : isFn K (.ref f) = true) (hne : findIn K (.ref C) "__ne__" = some (some (.builtin "object.__ne__"))) (hm : mroIn K C (.type "object") = some true)
    (h : wpAny (model prog w) A.in1 (call (.ref f) [.ref x, b]) (fun v s' => ∃ r, v = .bool r ∧ Q (.bool (!r)) s') E s) : wpAny (model prog w) A (richCompare .NotEq (.ref x) b) Q E s := by
  have X := X₀.keeps F.keep
  have sub : Looks (model prog w) s.heap (isInstance (.ref x) (.type "object")) true := I.type.andThen (looks_mroIn X hm)
  have bd : bindSpecial (.builtin "object.__ne__") (.ref x) = pure (.builtin "object.__ne__", [.ref x]) := PySem.F.cmp_object.ne.bind _
  have one : wpAny (model prog w) A (tryCompare (.ref x) "__ne__" b) (fun r s' => ∃ v, r = some (.bool v) ∧ Q (.bool v) s') E s := by
    unfold tryCompare
    refine wpAny_bind (ifBound_B X I hne bd ?_)
    obtain ⟨hp, g, d, t, os⟩ := s
    refine wpAny_call (codeAny_call_builtin PySem.F.cmp_object.ne.plain PySem.F.cmpEntry_ne (@check_slot (model prog w) _ _ ⟨hp, g, d, t, os⟩ "object.__ne__" "object" "__ne__" (.ref x) [b] [] _ PySem.F.cmpKind_ne PySem.F.cmpSplit_ne sub (PySem.F.cmpArgs_ne _ _) ?_))
    refine ne_body (A := A.in1) hu X I hs hf (wpAny_mono h (fun v s' hv => ?_) fun _ _ e => e)
    obtain ⟨r, rfl, q⟩ := hv
    exact ⟨r, rfl, wpAny_pure ⟨_, rfl, q⟩⟩
  unfold richCompare
  simp only [oneThing_ref]
  refine wpAny_holding (wpAny_bind (wpAny_cRoomFor (by omega) (wpAny_bind (I.type.here (wpAny_bind (ht.here ?_))))))
  split
  · rename_i q
    have e : subIn K tb (.ref C) = some false := by
      rcases Bool.or_eq_true_iff.mp hn with e | e
      · rw [beq_iff_eq.mp e] at q
        simp at q
      · exact beq_iff_eq.mp e
    refine wpAny_bind ((looks_subIn X e).here ?_)
    simp only [Bool.false_eq_true, if_false]
    refine wpAny_bind (wpAny_mono one (fun r s' z => ?_) fun _ _ e => e)
    obtain ⟨v, rfl, hq⟩ := z
    exact wpAny_pure hq
  · refine wpAny_bind (wpAny_pure ?_)
    simp only [Bool.false_eq_true, if_false]
    refine wpAny_bind (wpAny_mono one (fun r s' z => ?_) fun _ _ e => e)
    obtain ⟨v, rfl, hq⟩ := z
    exact wpAny_pure hq
end
end OW
/-- x == y: x an instance, its class's own __eq__ at f keeps sp -/
def rEqO (K : PySem.W.Frag) (f : Addr) (sp : Sp) (E : XK) : R2 := fun x y H Q => ∃ (a C dx : Addr) (fs : List (Str × V)) (tb : Value), x = .ref a ∧ H a = some (.ins C dx fs) ∧ PySem.W.findIn K (.ref C) "__eq__" = some (some (.ref f)) ∧ TyX K H y tb ∧ PySem.W.notFirst K C tb = true ∧
  sp [x, y] H (fun v H' => ∃ r, v = .bl r ∧ Q (.bl r) H') E
def rNeO (K : PySem.W.Frag) (f : Addr) (sp : Sp) (E : XK) : R2 := fun x y H Q => ∃ (a C dx : Addr) (fs : List (Str × V)) (tb : Value), x = .ref a ∧ H a = some (.ins C dx fs) ∧ PySem.W.findIn K (.ref C) "__eq__" = some (some (.ref f)) ∧ PySem.W.findIn K (.ref C) "__ne__" = some (some (.builtin "object.__ne__")) ∧ PySem.W.mroIn K C (.type "object") = some true ∧
  TyX K H y tb ∧ PySem.W.notFirst K C tb = true ∧ sp [x, y] H (fun v H' => ∃ r, v = .bl r ∧ Q (.bl (!r)) H') E
section
variable {X : Cx} {CX : CXT} {n : Nat} {f : Addr} {sp : Sp} {E : XK}
theorem op_eqO (F : FnR X.prog X.w X.K X.mg X.base CX n f sp) (hf : PySem.W.isFn X.K (.ref f) = true) (hr : Room n X.A) (hx : Passes CX X E) : OpR X (compareOp .Eq) (rEqO X.K f sp E) := by
  intro pins s σ H x y v u Q I rx ry h
  obtain ⟨a, C, dx, fs, tb, rfl, ha, hs, ty, hn, q⟩ := h
  cases (show v = Value.ref a from rx)
  obtain ⟨mA, J, _⟩ := ins_get I.hok ha
  obtain ⟨od, J, _⟩ := J.look
  obtain ⟨m, hF⟩ := I.fr
  obtain ⟨P, Z, p, _⟩ := kit_of I ry ty
  show wpAny (model X.prog X.w) X.A (richCompare .Eq (.ref a) u) (EP X pins σ Q) X.xe s
  refine PySem.W.cmp_K (op := .Eq) hr.units0 hF I.ok.mod.kin J (Z.ty _ _ I.kIn p) hn hs hf ?_
  have r2 : Vals [V.ref a, y] [Value.ref a, u] := .cons rfl (.cons ry .nil)
  refine thn (wpAny_call (run_fnR F hr hx I r2 q)) fun w' s' ⟨z, H', I', rz, r, ez, q'⟩ => ?_
  subst ez
  cases rz
  exact ⟨.bl r, H', I', rfl, q'⟩
theorem op_neO (F : FnR X.prog X.w X.K X.mg X.base CX n f sp) (hf : PySem.W.isFn X.K (.ref f) = true) (hr : Room (n + 1) X.A) (hx : ∀ (pins : List (Addr × Obj)) (σ : L2.St) (H : Hp) (s : Shared) (e : Value) (s' : Shared), Inv X pins σ H s → CX X.stack H s E e s' → X.xe e s') : OpR X (compareOp .NotEq) (rNeO X.K f sp E) := by
  intro pins s σ H x y v u Q I rx ry h
  obtain ⟨a, C, dx, fs, tb, rfl, ha, hs, hne, hm, ty, hn, q⟩ := h
  cases (show v = Value.ref a from rx)
  obtain ⟨mA, J, _⟩ := ins_get I.hok ha
  obtain ⟨od, J, _⟩ := J.look
  obtain ⟨m, hF⟩ := I.fr
  obtain ⟨P, Z, p, _⟩ := kit_of I ry ty
  show wpAny (model X.prog X.w) X.A (richCompare .NotEq (.ref a) u) (EP X pins σ Q) X.xe s
  refine OW.rich_ne (by have := hr.units; omega) hF I.ok.mod.kin J (Z.ty _ _ I.kIn p) hn hs hf hne hm ?_
  refine wpAny_call (codeAny_mono (F X.A.in1 X.stack s H [.ref a, u] [.ref a, y] _ E hr.in1 I.env0.in1 (.cons rfl (.cons ry .nil)) q) fun r s' hq => ?_)
  match r, hq with
  | .error e, hq => exact hx pins σ H s e s' I hq
  | .ok (.ret w'), hq =>
    obtain ⟨z, H', I', rz, r, ez, q'⟩ := I.after hq
    subst ez
    cases rz
    exact ⟨r, rfl, .bl (!r), H', I', rfl, q'⟩
end

/-! ### the same, the written part by its own name (for a block) -/
section
variable {X : Cx} {P : Program} {w : World} {K : PySem.W.Frag} {mg : Str → Option Value} {base : Heap} {CX : CXT} {n : Nat} {f : Addr} {sp : Sp} {E : XK} {A : Around}
theorem op_eqOK (F : FnR P w K mg base CX n f sp) (hf : PySem.W.isFn K (.ref f) = true) (hr : Room n A) (hP : X.prog = P) (hw : X.w = w) (hK : X.K = K) (hmg : X.mg = mg) (hb : X.base = base) (hA : X.A = A) (hx : Passes CX X E) : OpR X (compareOp .Eq) (rEqO K f sp E) := by
  subst hP hw hK hmg hb hA
  exact op_eqO F hf hr hx
theorem ix_listK (hK : X.K = K) : IxR X (rIxL K) := by
  subst hK
  exact ix_list
end
end Ls
end
section
set_option Elab.async false
set_option linter.all false
set_option maxRecDepth 100000
set_option maxHeartbeats 4000000
namespace Ls
open PySem PySem.Spec PyProof.Rows L2
open TL
/-! ### a text cut at one sign -/
theorem pre1 (s c : Nat) (r : List Nat) : pre [s] (c :: r) = decide (c = s) := by
  show ((c :: r).take 1 == [s]) = _
  by_cases h : c = s
  · subst h
    simp
  · have : ¬ [c] = [s] := fun e => h (List.cons.inj e).1
    simp [h]
theorem spl1_ne (s : Nat) : ∀ (l acc : List Nat), spl [s] 0 acc l ≠ []
  | [], acc => by rw [spl_nil]; simp
  | c :: r, acc => by
    by_cases h : c = s
    · rw [spl_hit (by rw [pre1, decide_eq_true h])]
      simp
    · rw [spl_miss (by rw [pre1, decide_eq_false h])]
      exact spl1_ne s r _
theorem joinL_cons (S a : List Nat) : ∀ {l : List (List Nat)}, l ≠ [] → joinL S (a :: l) = a ++ (S ++ joinL S l)
  | [], h => absurd rfl h
  | b :: r, _ => rfl
theorem spl1_join (s : Nat) : ∀ (l acc : List Nat), joinL [s] (spl [s] 0 acc l) = acc ++ l
  | [], acc => by
    rw [spl_nil, List.append_nil]
    rfl
  | c :: r, acc => by
    by_cases h : c = s
    · rw [spl_hit (by rw [pre1, decide_eq_true h])]
      show joinL [s] (acc :: spl [s] 0 [] r) = _
      rw [joinL_cons _ _ (spl1_ne s r []), spl1_join s r []]
      subst h
      simp
    · rw [spl_miss (by rw [pre1, decide_eq_false h]), spl1_join s r (acc ++ [c])]
      simp
theorem spl1_free (s : Nat) : ∀ (l acc : List Nat), s ∉ acc → ∀ p ∈ spl [s] 0 acc l, s ∉ p
  | [], acc, ha, p, hp => by
    rw [spl_nil] at hp
    rw [List.mem_singleton.mp hp]
    exact ha
  | c :: r, acc, ha, p, hp => by
    by_cases h : c = s
    · rw [spl_hit (by rw [pre1, decide_eq_true h])] at hp
      rcases List.mem_cons.mp hp with e | e
      · rw [e]
        exact ha
      · exact spl1_free s r [] (by simp) p e
    · rw [spl_miss (by rw [pre1, decide_eq_false h])] at hp
      exact spl1_free s r _ (by simp [ha, Ne.symm h]) p hp
theorem spl1_sub (s : Nat) : ∀ (l acc : List Nat), ∀ p ∈ spl [s] 0 acc l, p.length ≤ acc.length + l.length ∧ ∀ c ∈ p, c ∈ acc ∨ c ∈ l
  | [], acc, p, hp => by
    rw [spl_nil] at hp
    rw [List.mem_singleton.mp hp]
    exact ⟨Nat.le_refl _, fun c h => .inl h⟩
  | c :: r, acc, p, hp => by
    by_cases h : c = s
    · rw [spl_hit (by rw [pre1, decide_eq_true h])] at hp
      rcases List.mem_cons.mp hp with e | e
      · rw [e]
        exact ⟨by omega, fun c h => .inl h⟩
      · obtain ⟨h1, h2⟩ := spl1_sub s r [] p e
        refine ⟨by simp at h1 ⊢; omega, fun c h => (h2 c h).elim (fun z => absurd z (by simp)) fun z => .inr (by simp [z])⟩
    · rw [spl_miss (by rw [pre1, decide_eq_false h])] at hp
      obtain ⟨h1, h2⟩ := spl1_sub s r _ p hp
      refine ⟨by simp at h1 ⊢; omega, fun c' h => (h2 c' h).elim (fun z => ?_) fun z => .inr (by simp [z])⟩
      rcases List.mem_append.mp z with z | z
      · exact .inl z
      · exact .inr (by simp at z; simp [z])
section
variable {x y : Str} {s : Nat}
theorem split_tl (ey : tl y = [s]) (hk : y.cps.all (· < 256) = true) : (Txt.split x y).map tl = spl [s] 0 [] (tl x) := by
  rw [split_spl x y (by rw [ey]; simp) (kind_ok hk), ey]
theorem split_back (ey : tl y = [s]) (hk : y.cps.all (· < 256) = true) : Txt.join y (Txt.split x y) = x := by
  refine ext_tl ?_
  rw [join_eq, tl_join, ey, split_tl ey hk, spl1_join]
  rfl
theorem split_free (ey : tl y = [s]) (hk : y.cps.all (· < 256) = true) {p : Str} (hp : p ∈ Txt.split x y) : s ∉ tl p := by
  have h : tl p ∈ (Txt.split x y).map tl := List.mem_map.mpr ⟨p, hp, rfl⟩
  rw [split_tl ey hk] at h
  exact spl1_free s _ _ (by simp) _ h
theorem split_sub (ey : tl y = [s]) (hk : y.cps.all (· < 256) = true) {p : Str} (hp : p ∈ Txt.split x y) : p.length ≤ x.length ∧ ∀ c ∈ tl p, c ∈ tl x := by
  have h : tl p ∈ (Txt.split x y).map tl := List.mem_map.mpr ⟨p, hp, rfl⟩
  rw [split_tl ey hk] at h
  obtain ⟨h1, h2⟩ := spl1_sub s _ _ _ h
  refine ⟨?_, fun c hc => (h2 c hc).elim (fun z => absurd z (by simp)) fun z => z⟩
  rw [len_tl p, len_tl x]
  simpa using h1
theorem split_ne (ey : tl y = [s]) (hk : y.cps.all (· < 256) = true) : Txt.split x y ≠ [] := fun e => by
  have h := split_tl (x := x) ey hk
  rw [e] at h
  exact spl1_ne s _ _ h.symm
end
theorem sp_tl : tl (" " : Str) = [32] := by decide +kernel
theorem sp_kd : (" " : Str).cps.all (· < 256) = true := by decide +kernel
theorem split2 {z a b : Str} (h : Txt.split z " " = [a, b]) : z = a ++ " " ++ b := by
  have e := split_back (x := z) sp_tl sp_kd
  rw [h, join_eq] at e
  exact e.symm
theorem split_two {a b : Str} (ha : (32 : Nat) ∉ tl a) (hb : (32 : Nat) ∉ tl b) : Txt.split (a ++ " " ++ b) " " = [a, b] := by
  have e : a ++ " " ++ b = Txt.join " " [a, b] := by rw [join_eq]; rfl
  rw [e]
  exact split_join sp_tl sp_kd (by simp) (by
    intro p hp
    rcases List.mem_cons.mp hp with rfl | hp
    · exact ha
    · rw [List.mem_singleton.mp hp]; exact hb)
/-! ### short texts of plain signs -/
def OkS (n : Nat) (z : Str) : Prop := z.length ≤ n ∧ ∀ c ∈ tl z, c < 256
theorem OkS.mono {n m : Nat} {z : Str} (h : OkS n z) (l : n ≤ m) : OkS m z := ⟨Nat.le_trans h.1 l, h.2⟩
theorem OkS.append {n m : Nat} {a b : Str} (h : OkS n a) (k : OkS m b) : OkS (n + m) (a ++ b) := ⟨by
  rw [Str.length_append]
  exact Nat.add_le_add h.1 k.1, fun c hc => by
  rw [tl_append] at hc
  rcases List.mem_append.mp hc with hc | hc
  · exact h.2 c hc
  · exact k.2 c hc⟩
theorem OkS.part {n : Nat} {x y p : Str} {s : Nat} (h : OkS n x) (ey : tl y = [s]) (hk : y.cps.all (· < 256) = true) (hp : p ∈ Txt.split x y) : OkS n p :=
  let ⟨h1, h2⟩ := split_sub ey hk hp
  ⟨Nat.le_trans h1 h.1, fun c hc => h.2 c (h2 c hc)⟩
/-- plain data that repr can show -/
structure Shw (n : Nat) (d : PyData) : Prop where
  sh : d.showable = true
  dp : d.depth ≤ 20
  ln : d.shown.length ≤ n
theorem Shw.str {n : Nat} {z : Str} (h : OkS n z) : Shw (10 * n + 2) (.str z) := ⟨rfl, Nat.zero_le _, by
  have := StrLaws.reprText_len z fun c hc => Nat.lt_trans (h.2 c hc) (by decide)
  show (reprText z).length ≤ _
  have := h.1
  omega⟩
theorem Shw.mono {n m : Nat} {d : PyData} (h : Shw n d) (l : n ≤ m) : Shw m d := ⟨h.sh, h.dp, Nat.le_trans h.ln l⟩
theorem Shw.list1 {n : Nat} {a : PyData} (ha : Shw n a) (hd : a.depth < 20) : Shw (n + 5) (.list [a]) := ⟨by
  show (a.showable && true) = true
  rw [ha.sh]
  rfl, by
  show max a.depth 0 + 1 ≤ 20
  omega, by
  have := listText_len_le [a.shown]
  have := ha.ln
  show (listText [a.shown]).length ≤ _
  simp at *
  omega⟩
theorem Shw.tup1 {n : Nat} {a : PyData} (ha : Shw n a) (hd : a.depth < 20) : Shw (n + 5) (.tuple [a]) := ⟨by
  show (a.showable && true) = true
  rw [ha.sh]
  rfl, by
  show max a.depth 0 + 1 ≤ 20
  omega, by
  have := tupleText_len_le [a.shown]
  have := ha.ln
  show (tupleText [a.shown]).length ≤ _
  simp at *
  omega⟩
theorem Shw.list2 {n m : Nat} {a b : PyData} (ha : Shw n a) (hb : Shw m b) (hd : a.depth < 20) (hd2 : b.depth < 20) : Shw (n + m + 7) (.list [a, b]) := ⟨by
  show (a.showable && (b.showable && true)) = true
  rw [ha.sh, hb.sh]
  rfl, by
  show max a.depth (max b.depth 0) + 1 ≤ 20
  omega, by
  have := listText_len_le [a.shown, b.shown]
  have := ha.ln
  have := hb.ln
  show (listText [a.shown, b.shown]).length ≤ _
  simp at *
  omega⟩
theorem Shw.tup2 {n m : Nat} {a b : PyData} (ha : Shw n a) (hb : Shw m b) (hd : a.depth < 20) (hd2 : b.depth < 20) : Shw (n + m + 7) (.tuple [a, b]) := ⟨by
  show (a.showable && (b.showable && true)) = true
  rw [ha.sh, hb.sh]
  rfl, by
  show max a.depth (max b.depth 0) + 1 ≤ 20
  omega, by
  have := tupleText_len_le [a.shown, b.shown]
  have := ha.ln
  have := hb.ln
  show (tupleText [a.shown, b.shown]).length ≤ _
  simp at *
  omega⟩

theorem joinL_nil : ∀ l : List (List Nat), joinL [] l = l.flatten
  | [] => rfl
  | [a] => by simp [joinL]
  | a :: b :: r => by
    rw [joinL_cons _ _ (by simp), joinL_nil (b :: r)]
    simp
/-- single signs put together -/
theorem join_signs {cs : List Nat} : tl (Txt.join "" (cs.map fun c => (⟨#[c]⟩ : Str))) = cs := by
  have e0 : tl ("" : Str) = [] := by decide +kernel
  rw [join_eq, tl_join, e0, joinL_nil, List.map_map]
  have : ∀ l : List Nat, (l.map (tl ∘ fun c => (⟨#[c]⟩ : Str))).flatten = l := fun l => by
    induction l with
    | nil => rfl
    | cons c r ih =>
      rw [List.map_cons, List.flatten_cons, ih]
      rfl
  exact this cs
/-! ### rows of data -/
theorem TVs.len {H : Hp} : ∀ {xs : List V} {ds : List PyData}, TVs H xs ds → xs.length = ds.length
  | _, _, .nil => rfl
  | _, _, .cons _ t => by simp [TVs.len t]
theorem TVs.at_ {H : Hp} : ∀ {xs : List V} {ds : List PyData} {i : Nat} {v : V}, TVs H xs ds → xs[i]? = some v → ∃ d, ds[i]? = some d ∧ TV H v d
  | _, _, _, _, .nil, h => by simp at h
  | _, _, 0, _, .cons r _, h => by simp at h; subst h; exact ⟨_, rfl, r⟩
  | _, _, i + 1, v, .cons _ t, h => by
    obtain ⟨d, h1, h2⟩ := TVs.at_ (i := i) (v := v) t (by simpa using h)
    exact ⟨d, by simpa using h1, h2⟩
theorem spl1_len (s : Nat) : ∀ (l acc : List Nat), (spl [s] 0 acc l).length ≤ l.length + 1
  | [], acc => by rw [spl_nil]; simp
  | c :: r, acc => by
    by_cases h : c = s
    · rw [spl_hit (by rw [pre1, decide_eq_true h])]
      have := spl1_len s r []
      simp only [List.length_cons]
      show (spl [s] 0 [] r).length + 1 ≤ _
      omega
    · rw [spl_miss (by rw [pre1, decide_eq_false h])]
      have := spl1_len s r (acc ++ [c])
      simp only [List.length_cons]
      omega
theorem split_len {x y : Str} {s : Nat} (ey : tl y = [s]) (hk : y.cps.all (· < 256) = true) : (Txt.split x y).length ≤ x.length + 1 := by
  have h := congrArg List.length (split_tl (x := x) ey hk)
  rw [List.length_map] at h
  rw [h, len_tl x]
  exact spl1_len s _ _
end Ls
end
section
set_option Elab.async false
set_option linter.all false
set_option maxRecDepth 100000
set_option maxHeartbeats 4000000
/-! A list comprehension whose element (or a test) calls what may raise: the error goes on in the def's own frame. lcX_core goes the way of HandS.Comp's lc_core, the errors kept. -/
namespace Ls
open PySem PySem.Spec PyProof.Rows L2

/-- the block's context, what a callee within may let out said by E -/
abbrev cxB (X : Cx) (E : XK) (s : Shared) (H : Hp) (scope : Scope) (cenv : Env) (fp : List Addr) : Cx :=
  { X.blk s H scope cenv fp with xe := fun u s' => ∃ (pins : List (Addr × Obj)) (σ : L2.St) (H1 : Hp) (s1 : Shared), Inv (X.blk s H scope cenv fp) pins σ H1 s1 ∧ L2.CX X.prog X.w X.stack H1 s1 E u s' }
theorem inv_of_B {X : Cx} {E : XK} {s0 : Shared} {H0 : Hp} {scope : Scope} {cenv : Env} {fp : List Addr} {pins : List (Addr × Obj)} {σ : L2.St} {H : Hp} {s : Shared} (I : Inv (cxB X E s0 H0 scope cenv fp) pins σ H s) : Inv (X.blk s0 H0 scope cenv fp) pins σ H s :=
  ⟨⟨I.ok.mod, I.ok.kind, I.ok.glob, I.ok.blt, I.ok.above, I.ok.inj, I.ok.has, I.ok.cab, I.ok.hd, I.ok.frames, I.ok.stk, I.ok.exf, I.ok.bs, I.ok.bsz, I.ok.noex, I.ok.exfs, I.ok.funs, I.ok.frf⟩, I.os, I.bare, I.base, I.loc, I.cell, I.free, I.freeC, I.pin, I.hok, I.len⟩
theorem inv_to_B {X : Cx} {E : XK} {s0 : Shared} {H0 : Hp} {scope : Scope} {cenv : Env} {fp : List Addr} {pins : List (Addr × Obj)} {σ : L2.St} {H : Hp} {s : Shared} (I : Inv (X.blk s0 H0 scope cenv fp) pins σ H s) : Inv (cxB X E s0 H0 scope cenv fp) pins σ H s :=
  ⟨⟨I.ok.mod, I.ok.kind, I.ok.glob, I.ok.blt, I.ok.above, I.ok.inj, I.ok.has, I.ok.cab, I.ok.hd, I.ok.frames, I.ok.stk, I.ok.exf, I.ok.bs, I.ok.bsz, I.ok.noex, I.ok.exfs, I.ok.funs, I.ok.frf⟩, I.os, I.bare, I.base, I.loc, I.cell, I.free, I.freeC, I.pin, I.hok, I.len⟩
theorem passB {X : Cx} {E : XK} {s0 : Shared} {H0 : Hp} {scope : Scope} {cenv : Env} {fp : List Addr} : Passes (L2.CX X.prog X.w) (cxB X E s0 H0 scope cenv fp) E := fun pins σ H s u s' I c => ⟨pins, σ, H, s, inv_of_B I, c⟩

/-- noted at the def's frame -/
theorem sky_note {M : Model} {A : Around} {E₁ : Value → Shared → Prop} {B : Heap} {s : Shared} {env : Env} {outer : List Env} {L a : Addr} {Z : Obj → Prop} {Q : Unit → Shared → Prop} (hZ : HandSPX.Steady Z) (hfr : A.frames = some (env :: outer)) (hf : env.frame = some L)
    (x : Sky B (env :: outer) a Z L s.heap) (hQ : ∀ h', HandSPX.HeldZ B (env :: outer) a Z L h' → s.heap.UpToSlots h' → Q () { s with heap := h' }) :
    wpAny M A (noteFrame (.ref a) env) Q E₁ s := by
  rcases x with ⟨hB, hn, hl, oe, vs, he, hz, hd, h1⟩ | fl | hh
  · exact HandSPX.look_newZ hZ hfr hl hf he hB hn hd h1 hz hQ
  · exact HandSPX.looks_onZ hZ hfr hf fl hQ
  · exact HandSPX.againZ hf hh.2.2.2 (hQ s.heap hh (Heap.UpToSlots.refl _))

section
variable {X : Cx} {E : XK} {pins : List (Addr × Obj)} {σ : L2.St} {H : Hp} {s s' : Shared} {cenv : Env} {u : Value} {m : Str → Option Value}
/-- an error in the def's air, met in a comprehension's block: it goes on in the def's frame -/
theorem fails_B (hs : X.stack = X.env :: X.outer) (hf : X.env.frame = some X.env.locals) (tk : Takes X (fun cls d _ H => E cls d H)) (hcf : cenv.frame = X.env.frame)
    (I : Inv X pins σ H s) (f : ∀ H' : Hp, H' cenv.locals = none → FpOk X pins H' cenv.locals) (c : L2.CX X.prog X.w X.stack H s E u s')
    (hn : s.heap.Ns cenv.locals m) (nC : H cenv.locals = none) :
    notedBy (model X.prog X.w) X.A cenv (CompFails (model X.prog X.w) X.A X.xe cenv) u s' := by
  obtain ⟨a, B, H', cls, d, rfl, fl, hok, ub, na, os, ag, hE⟩ := c
  have hx : XE X (fun cls d _ H => E cls d H) (.ref a) s' := XE.of_call (σ := σ) I (fun _ _ _ h => h) ⟨a, B, H', cls, d, rfl, fl, hok, ub, na, os, ag, hE⟩
  have hfr : X.A.frames = some (X.env :: X.outer) := by rw [I.ok.frames, hs]
  have oC := f H nC
  have nst : cenv.locals ∉ frs X.stack := fun hm => by
    rcases List.mem_cons.mp (I.stkSub _ hm) with z | z
    · exact oC.2.1 z
    · exact oC.2.2.1 z
  -- the block stands
  have hn' : s'.heap.Ns cenv.locals m := by
    obtain ⟨oL, es, ep, hoL, r⟩ := hn
    exact ⟨oL, es, ep, fl.1 _ _ (ub.keep _ _ hoL nC nst), r⟩
  have nC' : H' cenv.locals = none := by
    obtain ⟨oL, es, ep, hoL, r⟩ := hn
    exact ub.free _ _ hoL nC
  obtain ⟨G, g1, g2⟩ := restrict s'.heap fun b => ((B.get? b).isSome || decide (b ∈ frs X.stack)) && !decide (b = cenv.locals)
  have st : B.StaysIn s'.heap := fl.1
  have gB : ∀ b o, B.get? b = some o → b ≠ cenv.locals → G.get? b = some o := fun b o e hb => by
    rw [g1 b (by simp [e, hb])]
    exact st b o e
  have gF : ∀ b, b ∈ frs X.stack → G.get? b = s'.heap.get? b := fun b hb => g1 b (by
    have : b ≠ cenv.locals := fun e => nst (e ▸ hb)
    simp [hb, this])
  have og : ∀ b o, G.get? b = some o → s'.heap.get? b = some o ∧ ((B.get? b).isSome = true ∨ b ∈ frs X.stack) ∧ b ≠ cenv.locals := fun b o e => by
    cases q : (((B.get? b).isSome || decide (b ∈ frs X.stack)) && !decide (b = cenv.locals)) with
    | false => rw [g2 b q] at e; cases e
    | true =>
      rw [g1 b q] at e
      simp only [Bool.and_eq_true, Bool.or_eq_true, decide_eq_true_eq, Bool.not_eq_true', decide_eq_false_iff_not] at q
      exact ⟨e, q.1, q.2⟩
  have oC' := f H' nC'
  have J : Inv X pins σ H' { s with heap := G, gens := s'.gens, drawn := s'.drawn, toks := s'.toks } := by
    refine I.call (ch := [cenv.locals]) ⟨fun b o e n hb hc => gB b o (ub.keep b o e n hb) (by simpa using hc), fun b o e n hb hc => ?_, fun b o e n _ => ub.free b o e n, fun b o e hc => ?_, ub.tups, ub.frzs, ub.tbls⟩ ?_ ag (fun b z => ?_)
    · obtain ⟨sl, q⟩ := ub.slot b o e hb
      exact ⟨sl, by rw [gF b hb]; exact q⟩
    · by_cases hb : b ∈ frs X.stack
      · obtain ⟨sl, q⟩ := ub.slot b o e hb
        exact ⟨_, by rw [gF b hb]; exact q⟩
      · obtain ⟨o', q⟩ := ub.there b o e hb
        exact ⟨o', gB b o' q (by simpa using hc)⟩
    · exact fun b o q => (hok b o q).stay (fun c u hc r => gB c u r fun z => by
        rcases hc with hc | hc
        · rw [hc] at z
          rw [z, nC'] at q
          cases q
        · rw [z, nC'] at hc
          cases hc) (fun _ r => r) fun _ _ r => r
    · have e : b = cenv.locals := by simpa using z
      subst e
      exact ⟨oC.2.2.2.1, oC.2.1, oC.2.2.2.2.1, oC.2.2.2.2.2⟩
  have sky : Sky B X.stack a (Zc cls d) X.env.locals s'.heap := .inr (.inl fl)
  show wpAny _ _ (noteFrame (.ref a) cenv) _ _ s'
  rw [noteFrame_env _ hcf]
  rw [hs] at sky
  refine sky_note Zc.steady hfr hf sky fun h1 hh up1 => ?_
  obtain ⟨b1, b0, f1, t1⟩ := hh
  refine ⟨m, hn'.upToSlots up1, fun h2 m2 hn2 sb => ?_⟩
  -- the ground without the block
  have B' := PySem.W.hideAll B [cenv.locals]
  have bB : ∀ b o, (PySem.W.hideAll B [cenv.locals]).get? b = some o → B.get? b = some o ∧ b ≠ cenv.locals := fun b o e => ⟨PySem.W.of_hideAll _ e, fun z => by
    rw [z, PySem.W.hideAll_none _ (by simp)] at e
    cases e⟩
  have nB : ∀ b, B.get? b = none → (PySem.W.hideAll B [cenv.locals]).get? b = none := fun b e => by
    cases q : (PySem.W.hideAll B [cenv.locals]).get? b with
    | none => rfl
    | some o =>
      rw [(bB b o q).1] at e
      cases e
  have b2 : (PySem.W.hideAll B [cenv.locals]).StaysIn h2 := fun b o e => (sb.2 b (bB b o e).2).trans (b1 b o (bB b o e).1)
  have f2 : h2.FunFrames (PySem.W.hideAll B [cenv.locals]) (X.env :: X.outer) := funFrames_none (Heap.FunFrames.sameBut sb hn2 f1) fun L hL => nB L (f1.mem hL).1
  obtain ⟨oe, vs, T, oT, ts, he, hz, hd, e1, hnT, hTe, hT, hdT, h3⟩ := t1
  have ns : ∀ b o vs, h1.get? b = some o → o.data = .fields vs → b ≠ cenv.locals := fun b o vs e q z => by
    obtain ⟨oL, es, ep, hoL, hdL, r⟩ := hn'.upToSlots up1
    rw [z, hoL] at e
    cases e
    rw [hdL] at q
    cases q
  have t2 : HandSPX.TracedZ h2 (PySem.W.hideAll B [cenv.locals]) a (Zc cls d) (rawInt X.env.locals) :=
    ⟨oe, vs, T, oT, ts, (sb.2 _ (ns _ _ _ he hd)).trans he, hz, hd, e1, nB _ hnT, hTe, (sb.2 _ (ns _ _ _ hT hdT)).trans hT, hdT, h3⟩
  unfold PySem.passOn
  refine wpAny_bind (wpAny_field ((sb.2 _ (ns _ _ _ he hd)).trans he) hd e1 ?_)
  rw [if_neg (show ¬ ((Value.ref T == Value.none) = true) from by simp)]
  rw [hcf, hf]
  refine wpAny_bind (HandSPX.setFlight_onZ (l := X.env :: X.outer) ⟨b2, nB _ b0, f2, t2⟩ fun h4 hh4 up4 => wpAny_throw ?_)
  refine tk _ _ ⟨a, PySem.W.hideAll B [cenv.locals], _, pins, σ, H', cls, d, rfl, J, fun b o e hb => ?_, fun b o e hd => ?_, .inr (.inr (by rw [hs]; exact hh4)), na, os, ag, hE⟩
  · obtain ⟨e', h, hc⟩ := og b o e
    rcases h with h | h
    · obtain ⟨o', q⟩ := Option.isSome_iff_exists.mp h
      have z := st b o' q
      rw [e'] at z; cases z
      exact PySem.W.hideAll_get _ q (by simpa using hc)
    · exact absurd h hb
  · obtain ⟨e', _, hc⟩ := og b o e
    obtain ⟨sl1, q1⟩ := up1 b o e' hd
    have q2 := (sb.2 b hc).trans q1
    have q3 := up4 b { o with slots := sl1 } q2 hd
    exact q3
end

section
variable {X : Cx} {E : XK}
theorem lcX_core {pins : List (Addr × Obj)} {s : Shared} {σ : L2.St} {H : Hp} {Q : VK} {elt tg iter : PySem.Expr} {ifs : List PySem.Expr} {scope : Scope} {own : List (Str × Nat)} {pos pos' : Pos} {wi : TI} {g : TG} {tt : TT} {te : TE} {use : Option (Value → Sem Unit)} {Qf : Value → Shared → Prop}
    (hst : X.stack = X.env :: X.outer) (hfr : X.env.frame = some X.env.locals) (tk : Takes X (fun cls d _ H => E cls d H))
    (hc : X.calm = true) (hN : X.N.Nodup) (I : Inv X pins σ H s) (hi : PI X tg iter wi) (ok : BlkOk X.N X.env.scope scope own)
    (hg : ∀ (s : Shared) (H : Hp) (C : Addr) (cl : List (Str × Addr)) (fp : List Addr), PG (cxB X E s H scope (compEnvC scope cl C X.env) fp) tg g) (ht : ∀ (s : Shared) (H : Hp) (C : Addr) (cl : List (Str × Addr)) (fp : List Addr), PTs (cxB X E s H scope (compEnvC scope cl C X.env) fp) ifs tt)
    (he : ∀ (s : Shared) (H : Hp) (C : Addr) (cl : List (Str × Addr)) (fp : List Addr), PE (cxB X E s H scope (compEnvC scope cl C X.env) fp) elt te) (hs : ∀ x, foldedSetIterable iter X.env x = pure x)
    (h : tLc wi g tt te (own.map (·.2)) σ H Q)
    (hRR : ∀ D (ce : Env) s' m H', Inv X pins σ H' s' → Q (.ref D) H' → s'.heap.Ns ce.locals m → FpOk X pins H' ce.locals → compEnds (model X.prog X.w) X.A X.xe use Qf (.ref D) ce (.ok .next) s') :
    wpAny (model X.prog X.w) X.A (comprehension (.ListComp elt [⟨tg, iter, ifs, 0⟩] scope pos) scope X.env pos' (newList []) false (eval iter X.env) use) Qf X.xe s := by
  have hfree : ∀ y ∈ scope.names, y.2 = .free → ∃ c, X.env.cells.lookup y.1 = some c := fun y hy e => by
    rcases ok.free y hy e with k | k
    · exact I.ok.has _ (.inl k)
    · exact I.ok.has _ (.inr k)
  refine comprehension_at (use := use) rfl hs (closure_ok hfree) ok.kind (fun y hy e => by rw [ok.uniq y hy, e])
    (thn (hi.run pins s σ H _ I h) fun xv s1 hx => thn hx fun itv s2 h2 => ?_)
  obtain ⟨it, fp, tn, J, H2, e, I2, T, st2, f2, q⟩ := h2
  subst e
  refine wpAny_newObj_type (newEnv_comp ?_) (by show 0 ≤ sizeLine; decide)
  generalize hD : s2.heap.objs.size = D
  have hDn : H2 D = none := I2.hok.fresh (Nat.le_of_eq hD)
  obtain ⟨W, ⟨m0, w0⟩, turn⟩ := q D hDn
  generalize hs3 : ({ s2 with heap := s2.heap.push { cls := .type "list", data := .seq ([] : List Value).toArray } } : Shared) = s3
  have I3 : Inv X pins σ (upd H2 D (.lst [])) s3 := by
    rw [← hs3]
    refine I2.laid (t' := s2.toks) (fun b o e => Heap.get?_push_of_some _ e) (Nat.le_of_eq hD) ⟨Nat.zero_le _, [], 0, .nil, ?_⟩
    rw [← hD]
    exact Heap.get?_push_size _ rfl
  have h3 : s3.heap = s2.heap.push { cls := .type "list", data := .seq ([] : List Value).toArray } := by rw [← hs3]
  have sz : ∀ b ∈ fp, b < s2.heap.objs.size := fun b hb => by
    obtain ⟨o, e, _⟩ := T.obj _ _ st2 b hb
    exact Heap.lt_size e
  have f3 : ∀ b ∈ fp, FpOk X pins (upd H2 D (.lst [])) b ∧ b < s3.heap.objs.size := fun b hb => by
    have hlt := sz b hb
    refine ⟨⟨?_, (f2 b hb).2⟩, by rw [h3, Heap.size_push]; exact Nat.lt_succ_of_lt hlt⟩
    rw [upd_ne (by rw [← hD]; exact Nat.ne_of_lt hlt)]
    exact (f2 b hb).1
  have st3 : tn 0 s3.heap := T.keep _ _ _ st2 fun b _ o e => by rw [h3]; exact Heap.get?_push_of_some _ e
  have I4 := block_start I3 ok hN f3
  have pg := hg s3 (upd H2 D (.lst [])) s3.heap.objs.size (cellsFrom (s3.heap.objs.size + 1) scope.names (cloFrom X.env.cells scope.names [])) fp
  have pt := ht s3 (upd H2 D (.lst [])) s3.heap.objs.size (cellsFrom (s3.heap.objs.size + 1) scope.names (cloFrom X.env.cells scope.names [])) fp
  have pe := he s3 (upd H2 D (.lst [])) s3.heap.objs.size (cellsFrom (s3.heap.objs.size + 1) scope.names (cloFrom X.env.cells scope.names [])) fp
  show codeAny _ _ (.compStart (.ListComp elt [⟨tg, iter, ifs, 0⟩] scope pos) 0 (.ref it) (.ref D) (compEnvC scope (cellsFrom (s3.heap.objs.size + 1) scope.names (cloFrom X.env.cells scope.names [])) s3.heap.objs.size X.env)) (compEnds (model X.prog X.w) X.A X.xe use Qf (.ref D) (compEnvC scope (cellsFrom (s3.heap.objs.size + 1) scope.names (cloFrom X.env.cells scope.names [])) s3.heap.objs.size X.env)) { s3 with heap := pushCells (s3.heap.push { cls := .type "dict", data := .dict #[] }) scope.names }
  have nfp : ∀ b ∈ fp, (upd H2 D (.lst [])) b = none := fun b hb => (f3 b hb).1.1
  generalize hce : compEnvC scope (cellsFrom (s3.heap.objs.size + 1) scope.names (cloFrom X.env.cells scope.names [])) s3.heap.objs.size X.env = ce at I4 pg pt pe ⊢
  have cL : ce.locals = s3.heap.objs.size := by subst hce; rfl
  have cF : ce.frame = X.env.frame := by subst hce; rfl
  generalize hH3 : upd H2 D (.lst []) = H3 at I3 I4 pg pt pe w0 nfp f3
  generalize hs4 : ({ s3 with heap := pushCells (s3.heap.push { cls := .type "dict", data := .dict #[] }) scope.names } : Shared) = s4 at I4 ⊢
  have st4 : tn 0 s4.heap := T.keep _ _ _ st3 fun b _ o e => by rw [← hs4]; exact pushCells_keeps _ _ _ _ (Heap.get?_push_of_some _ e)
  have stat : ∀ {σ' : L2.St} {H' : Hp} {s' : Shared}, Inv (X.blk s3 H3 scope ce fp) [] σ' H' s' → (∀ b ∈ fp, H' b = none) → ∀ b ∈ fp, FpOk (X.blk s3 H3 scope ce fp) [] H' b := fun {σ' H' s'} I' hn b hb =>
    ⟨hn b hb, (I'.ok.exf b hb).1, I'.ok.exfs b hb, .inl hb, fun x c e => (I'.ok.exf b hb).2 x c e, fun p hp => absurd (show p ∈ ([] : List (Addr × Obj)) ++ [] from hp) (by simp)⟩
  -- back in the def's context
  have back : ∀ {pn' : List (Addr × Obj)} {σ' : L2.St} {H' : Hp} {s' : Shared}, Inv (X.blk s3 H3 scope ce fp) pn' σ' H' s' → Inv X pins σ H' s' := fun {pn' σ' H' s'} I6 =>
    I3.call' (ch := fp) I6.os I6.base I6.hok I6.bare fun b hb => ⟨(f3 b hb).1.2.2.2.1, (f3 b hb).1.2.1, (f3 b hb).1.2.2.2.2.1, (f3 b hb).1.2.2.2.2.2⟩
  -- an error in the block
  have err : ∀ (u : Value) (s' : Shared), (cxB X E s3 H3 scope ce fp).xe u s' → notedBy (model X.prog X.w) X.A ce (fun e s' => compEnds (model X.prog X.w) X.A X.xe use Qf (.ref D) ce (.error e) s') u s' := fun u s' x => by
    obtain ⟨pn', σ', H', s1, I', c⟩ := x
    obtain ⟨m, hn, _⟩ := I'.loc
    have hn : s1.heap.Ns ce.locals m := hn
    have z := fails_B (cenv := ce) hst hfr tk cF (back I') (fun H'' n => by rw [cL] at n ⊢; exact I3.fpOk (Nat.le_refl _) n) c hn I'.free
    unfold notedBy at z ⊢
    refine wpAny_mono z (fun _ s'' q => ?_) fun _ s'' q => ?_ <;> (cases use <;> exact q)
  have loop : codeAny (model X.prog X.w) X.A (.compLoop (.ListComp elt [⟨tg, iter, ifs, 0⟩] scope pos) 0 (.ref it) (.ref D) ce) (compEnds (model X.prog X.w) X.A X.xe use Qf (.ref D) ce) s4 := by
    refine compLoop_any (fun n s' => ∃ i H', Inv (X.blk s3 H3 scope ce fp) [] (wipe σ (own.map (·.2))) H' s' ∧ tn i s'.heap ∧ (∀ b ∈ fp, H' b = none) ∧ W i n H') ?_ m0 ⟨0, H3, I4, st4, nfp, w0⟩
    rintro n s5 ⟨i, H5, I5, st5, n5, w5⟩
    rcases turn i n H5 w5 with ⟨stop, qq⟩ | ⟨go, Nx, hNx, step⟩
    · have td := T.done (X.blk s3 H3 scope ce fp) rfl rfl rfl hc i [] s5 _ H5 (fun _ _ => False) I5 (stat I5 n5) st5 stop
      refine thnF td fun r s6 ⟨hr, I6⟩ => ?_
      subst hr
      have nC : H5 ce.locals = none := I6.free
      obtain ⟨m, hn, _⟩ := I6.loc
      have hn : s6.heap.Ns ce.locals m := hn
      exact hRR D ce s6 m H5 (back I6) qq hn (by rw [cL] at nC ⊢; exact I3.fpOk (Nat.le_refl _) nC)
    · have ti := T.item (X.blk s3 H3 scope ce fp) rfl rfl rfl hc i [] s5 _ H5 (fun _ _ => False) I5 (stat I5 n5) st5 go
      refine thnF ti fun r s6 ⟨u, hr, h6⟩ => ?_
      subst hr
      refine thnF h6 fun _ s7 ⟨x, H7, I7, r7, y7, st7, n7⟩ => ?_
      have I7' := I7.pinned (stat I7 n7) (T.obj _ _ st7)
      refine wpAny_mono (pg.run _ s7 _ H7 x u _ (inv_to_B I7') r7 (step x H7 y7)) (fun _ s8 ⟨σ8, H8, I8, hw8, q8⟩ => ?_) err
      refine wpAny_mono (pt.run _ s8 σ8 H8 _ I8 q8) (fun b s9 ⟨H9, I9, q9⟩ => ?_) err
      have fin : ∀ {s' : Shared} {H' : Hp}, Inv (X.blk s3 H3 scope ce fp) ([] ++ pinsAt fp s7.heap) σ8 H' s' → Nx H' → ∃ m, m < n ∧ ∃ i H', Inv (X.blk s3 H3 scope ce fp) [] (wipe σ (own.map (·.2))) H' s' ∧ tn i s'.heap ∧ (∀ b ∈ fp, H' b = none) ∧ W i m H' := fun {s' H'} I' nx => by
        obtain ⟨m', hm, w'⟩ := hNx H' nx
        have pin' : ∀ b ∈ fp, ∀ o, s7.heap.get? b = some o → s'.heap.get? b = some o ∧ H' b = none := fun b hb o e =>
          let z := I'.pin (b, o) (List.mem_append_right _ (List.mem_append_right _ (mem_pinsAt hb e)))
          ⟨z.1, z.2.1⟩
        have hl : (wipe σ (own.map (·.2))).length = σ8.length := by rw [← hw8, wipe_length]
        refine ⟨m', hm, i + 1, H', (I'.unpinned (pins := [])).weak hl (fun j v e => ?_), T.keep _ _ _ st7 fun b hb o e => (pin' b hb o e).1, fun b hb => ?_, w'⟩
        · rw [← hw8] at e
          exact (wipe_some e).1
        · obtain ⟨o, e, _⟩ := T.obj _ _ st7 b hb
          exact (pin' b hb o e).2
      cases b with
      | false =>
        simp only [Bool.false_eq_true, if_false] at q9 ⊢
        exact fin (inv_of_B I9) q9
      | true =>
        simp only [if_true] at q9 ⊢
        refine wpAny_mono (pe.run _ s9 σ8 H9 _ I9 q9) (fun z s10 ⟨yv, H10, I10, r10, acc, hD10, hz10, nx⟩ => ?_) err
        exact app_ok (X := X.blk s3 H3 scope ce fp) (inv_of_B I10) hD10 hz10 r10 fun s11 I11 => fin I11 nx
  exact codeAny_compStart_list loop (T.self X.A 0 _ _ _ st4 loop)

/-- [elt for ..], the element may raise what E says -/
theorem pe_lcX {elt tg iter : PySem.Expr} {ifs : List PySem.Expr} {scope : Scope} {own : List (Str × Nat)} {pos : Pos} {wi : TI} {g : TG} {tt : TT} {te : TE} (hst : X.stack = X.env :: X.outer) (hfr : X.env.frame = some X.env.locals) (tk : Takes X (fun cls d _ H => E cls d H))
    (hc : X.calm = true) (hN : X.N.Nodup) (hi : PI X tg iter wi) (ok : BlkOk X.N X.env.scope scope own)
    (hg : ∀ (s : Shared) (H : Hp) (C : Addr) (cl : List (Str × Addr)) (fp : List Addr), PG (cxB X E s H scope (compEnvC scope cl C X.env) fp) tg g) (ht : ∀ (s : Shared) (H : Hp) (C : Addr) (cl : List (Str × Addr)) (fp : List Addr), PTs (cxB X E s H scope (compEnvC scope cl C X.env) fp) ifs tt)
    (he : ∀ (s : Shared) (H : Hp) (C : Addr) (cl : List (Str × Addr)) (fp : List Addr), PE (cxB X E s H scope (compEnvC scope cl C X.env) fp) elt te) (hs : ∀ x, foldedSetIterable iter X.env x = pure x := by intro _; rfl) :
    PE X (.ListComp elt [⟨tg, iter, ifs, 0⟩] scope pos) (tLc wi g tt te (own.map (·.2))) := by
  refine ⟨fun pins s σ H Q I h => ?_⟩
  rw [eval_ListComp]
  refine lcX_core hst hfr tk hc hN I hi ok hg ht he hs h fun D ce s' m H' I' q hn f => ⟨m, hn, fun h'' sb => ?_⟩
  obtain ⟨f0, f1, f2, f3, f4, f5⟩ := f
  exact ⟨.ref D, H', I'.turned (t' := s'.toks) (fun b o hb e => (sb.2 b hb).trans e) f0 f1 f3 f4 f5, rfl, q⟩
/-- y = [elt for ..] on one line -/
theorem ps_setLcX {i : Nat} {y : Str} {py : Pos} {elt tg iter : PySem.Expr} {ifs : List PySem.Expr} {scope : Scope} {own : List (Str × Nat)} {pos spos : Pos} {wi : TI} {g : TG} {tt : TT} {te : TE} (hst : X.stack = X.env :: X.outer) (hfr : X.env.frame = some X.env.locals) (tk : Takes X (fun cls d _ H => E cls d H))
    (hc : X.calm = true) (hN : X.N.Nodup) (hy : X.N[i]? = some y) (hyl : X.env.scope.names.lookup y = some .local)
    (hsw : swapsWith (.ListComp elt [⟨tg, iter, ifs, 0⟩] scope pos) (some (.Name y py)) spos.line X.env = pure true) (hi : PI X tg iter wi) (ok : BlkOk X.N X.env.scope scope own)
    (hg : ∀ (s : Shared) (H : Hp) (C : Addr) (cl : List (Str × Addr)) (fp : List Addr), PG (cxB X E s H scope (compEnvC scope cl C X.env) fp) tg g) (ht : ∀ (s : Shared) (H : Hp) (C : Addr) (cl : List (Str × Addr)) (fp : List Addr), PTs (cxB X E s H scope (compEnvC scope cl C X.env) fp) ifs tt)
    (he : ∀ (s : Shared) (H : Hp) (C : Addr) (cl : List (Str × Addr)) (fp : List Addr), PE (cxB X E s H scope (compEnvC scope cl C X.env) fp) elt te) (hs : ∀ x, foldedSetIterable iter X.env x = pure x := by intro _; rfl) :
    PS X (.Assign [.Name y py] (.ListComp elt [⟨tg, iter, ifs, 0⟩] scope pos) spos) (tAsg (tLc wi g tt te (own.map (·.2))) (gName i)) := by
  refine ⟨fun pins s σ H D I h => ?_⟩
  rw [exec_Assign_Name_used _ _ _ _ hsw]
  refine wpAny_bind (wpAny_standAt (wpAny_bind ?_))
  show wpAny _ X.A (do let _ ← comprehension (.ListComp elt [⟨tg, iter, ifs, 0⟩] scope pos) scope X.env (firstIterPos [⟨tg, iter, ifs, 0⟩] pos) (newList []) false (eval iter X.env) (some (assign (.Name y py) X.env))) _ _ s
  have h : tLc wi g tt te (own.map (·.2)) σ H (fun x H1 => gName i x σ H1 D.nx) := h
  refine wpAny_bind (thn (lcX_core (Qf := fun _ s' => SP X pins D .next s') hst hfr tk hc hN I hi ok hg ht he hs h fun L ce s' m H' I' q hn f => ?_) fun _ s' hq => wpAny_pure (wpAny_pure hq))
  show wpAny _ _ (assign (.Name y py) X.env (.ref L)) _ _ _
  refine wpAny_assign_Name (store_ok2 (v := V.ref L) I' hN hy (.inl hyl) rfl (fun s2 I2 ⟨a, sb, ha⟩ => ?_) (.inr hyl))
  obtain ⟨f0, f1, f2, f3, f4, f5⟩ := f
  have haC : ce.locals ≠ a := by
    rcases ha with z | z
    · rw [z]; exact f1
    · exact fun e => f4 y a z e.symm
  refine ⟨m, hn.sameBut sb haC, fun h3 sb3 => ?_⟩
  exact ⟨_, H', I2.turned (t' := s2.toks) (fun b o hb e => (sb3.2 b hb).trans e) f0 f1 f3 f4 f5, q⟩
end
end Ls
end
section
set_option Elab.async false
set_option linter.all false
set_option maxRecDepth 100000
set_option maxHeartbeats 4000000
namespace Ls
open PySem PySem.Spec PyProof.Rows L2
open TL
/-! ### z[::-1], z a text -/
def revS (z : Str) : Str := ⟨z.cps.toList.reverse.toArray⟩
theorem tl_revS (z : Str) : tl (revS z) = (tl z).reverse := by simp [revS, tl]
theorem len_revS (z : Str) : (revS z).length = z.length := by
  show (z.cps.toList.reverse.toArray).size = z.cps.size
  simp
def tRevS (te : TE) : TE := fun σ H Q => te σ H fun x H1 => ∃ z, x = .str z ∧ z.length ≤ sizeLine ∧ Q (.str (revS z)) H1
theorem pe_revS {X : Cx} {e : PySem.Expr} {te : TE} {k : Nat} {p1 p2 p3 pos : Pos} (he : PE X e te) : PE X (.Subscript e (.Slice none none (some (.UnaryOp .USub (.Constant (.int 1) k p1) p2)) p3) pos) (tRevS te) := by
  refine ⟨fun pins s σ H Q I h => ?_⟩
  refine Subscript_ (thn (he.run pins s σ H _ I h) fun v s1 ⟨x, H1, I1, r1, q1⟩ => ?_)
  obtain ⟨z, ex, hz, q⟩ := q1
  subst ex
  obtain ⟨t, rfl⟩ := r1
  have hst : PO X (some (.UnaryOp .USub (.Constant (.int 1) k p1) p2)) (tPart (tUn (rU fun i => .int (-i)) (tC (.int 1)))) := po_some (pe_un un_neg pe_int)
  refine wpAny_Slice (thn (po_none.run pins s1 σ H1 (fun o H2 => o = none ∧ H2 = H1) I1 ⟨rfl, rfl⟩) fun vl s2 ⟨l, H2, I2, pl, el, e2⟩ => ?_)
  subst el e2
  refine thn (po_none.run pins s2 σ H2 (fun o H3 => o = none ∧ H3 = H2) I2 ⟨rfl, rfl⟩) fun vu s3 ⟨u, H3, I3, pu, eu, e3⟩ => ?_
  subst eu e3
  refine thn (hst.run pins s3 σ H3 (fun o H4 => o = some (-1) ∧ H4 = H3) I3 ⟨1, rfl, -1, rfl, rfl, rfl⟩) fun vs s4 ⟨o, H4, I4, ps, eo, e4⟩ => ?_
  subst eo e4
  have I5 : Inv X pins σ H4 { s4 with heap := s4.heap.push { cls := .type "slice", data := .fields #[vl, vu, vs] } } := I4.kept (t' := s4.toks) fun b ob q => Heap.get?_push_of_some _ q
  show wpAny (model X.prog X.w) X.A (subscriptTail e (.Slice none none (some (.UnaryOp .USub (.Constant (.int 1) k p1) p2)) p3) (.str z t) (.ref s4.heap.objs.size)) (EP X pins σ Q) X.xe { s4 with heap := s4.heap.push { cls := .type "slice", data := .fields #[vl, vu, vs] } }
  obtain ⟨l, rfl, hl⟩ := IsPart.raw pl
  obtain ⟨u, rfl, hu⟩ := IsPart.raw pu
  obtain ⟨st, rfl, hs⟩ := IsPart.raw ps
  refine tail_any (ops := [.ref s4.heap.objs.size, .str z t]) (typeIs_str _ _ _) F.slot_str_getitem.lookup ?_ (by with_unfolding_all rfl)
  refine wpAny_getItem_str_slice (l := l) (u := u) (st := st) ⟨_, Heap.get?_push_size _ rfl, rfl, rfl⟩ (by rw [hs]; rfl) ?_
  unfold sliceMade slicePicked
  rw [hs, hl, hu]
  have e1 : Builtin.Str.strSliceIndices none none ((some (-1 : Int)).getD 1) z.length = (List.range z.cps.size).reverse := by
    show sliceRange ((z.cps.size : Int) - 1) (-1) (-1) = _
    rw [PySem.W.krv_sliceRange, PySem.W.krv_range]
  rw [e1, if_neg (by simp), List.filterMap_reverse, PySem.W.krv_all]
  refine ⟨?_, .str _, H4, I5.tok _, ⟨_, rfl⟩, q⟩
  show (revS z).length ≤ sizeLine
  rw [len_revS]
  exact hz
end Ls
end
section
set_option Elab.async false
set_option linter.all false
set_option maxRecDepth 100000
set_option maxHeartbeats 4000000
namespace Ls
open PySem PySem.Spec PyProof.Rows L2
/-! ### C.f(a, ..), f a def written in the class at C (or above): no binding -/
/-- C.m is the def at g -/
structure Clf (P : Program) (w : World) (K : PySem.W.Frag) (mg : Str → Option Value) (base : Heap) (CX : CXT) (k : Nat) (C : Addr) (m : Str) (sp : Sp) : Prop where
  ex : ∃ (mc : Value) (g : Addr), ClX.CRead K C mc ∧ PySem.W.findCls K (.ref C) mc m = some (.val (.ref g)) ∧ PySem.W.keepIn K (.ref g) = true ∧ FnR P w K mg base CX k g sp
section
variable {X : Cx} {CX : CXT} {k : Nat} {C : Addr} {m x : Str} {sp : Sp} {E : XK} {o e : PySem.Expr} {es : List PySem.Expr} {ta te : TE} {t : TA} {p apos pos sp_ : Pos} {pl : Sem Bool}
theorem pe_clf (c : Clf X.prog X.w X.K X.mg X.base CX k C m sp) (hr : Room k X.A) (ho : PE X o ta) (hx : Passes CX X E) (ha : PA X (e :: es) t)
    (hst : starEach (e :: es) X.env = (false, eval e X.env) :: starEach es X.env := by rfl) (hpl : (backTo pos (starEach es X.env)).any (·.1) = false := by rfl)
    (ht : eval (.Call (.Attribute o m apos) (e :: es) [] pos) X.env = (do
      let ov ← eval o X.env
      standAt apos.atName
      let (f, first) ← holding [ov] (getMethod ov m pl)
      callWith pos f first (backTo pos (starEach (e :: es) X.env)) (backToKw pos (keywordEach [] X.env))) := by rfl) :
    PE X (.Call (.Attribute o m apos) (e :: es) [] pos) (fun σ H Q => ta σ H fun v H1 => v = .ref C ∧ t σ H1 fun vs H2 => sp vs H2 Q E) := by
  obtain ⟨mc, g, rd, fc, kp, F⟩ := c.ex
  refine ⟨fun pins s σ H Q I h => PySem.W.methodCall_KW (pl := pl) (thn (ho.run pins s σ H _ I h) fun u s1 q1 => ?_) ht⟩
  obtain ⟨v, H1, I1, rv, rfl, q1⟩ := q1
  obtain rfl : u = Value.ref C := rv
  refine PySem.W.method_cls I1.kIn rd.ga (ClX.getcval_ok (v := .ref g) I1 rd ⟨fc, rfl⟩ fun s2 I2 => ?_)
  refine PySem.W.callWith_K (h₀ := X.base) I2.ok.mod.kin kp (thn (ha.run pos pins s2 σ H1 _ I2 q1) fun us s3 q3 => ?_) hst hpl
  obtain ⟨vs, H2, I3, r3, q3⟩ := q3
  exact ⟨I3.kIn, wpAny_call (run_fnR F hr hx I3 r3 q3)⟩
/-! ### C() and C(*y) -/
def tMk0 (C : Addr) (sp : Sp) (E : XK) : TE := fun _ H Q => ∀ a dx, H a = none → H dx = none → dx ≠ a → sp [V.ref a] (upd (upd H dx (.own a)) a (.ins C dx [])) (fun v H2 => v = .non ∧ Q (.ref a) H2) E
theorem pe_mk0 (c : Mkc X.prog X.w X.K X.mg X.base CX k C x sp) (hr : Room (k + 1) X.A) (hg : Gl X x) (hx : Passes CX X E) (hdb : (x == ("__debug__" : Str)) = false := by decide) : PE X (.Call (.Name x p) [] [] pos) (tMk0 C sp E) := by
  obtain ⟨f, hm, M, F⟩ := c.ex
  refine ⟨fun pins s σ H Q I h => wpAny_Call_Name_kw (ld_glob I hg hm ?_ hdb)⟩
  exact PySem.W.callWith_K0 I.kIn M.kp (StX.run_makeR (us := []) (vs := []) M F hr hx I .nil h)
def tMkS (K : PySem.W.Frag) (C : Addr) (sp : Sp) (E : XK) (te : TE) : TE := fun σ H Q => te σ H fun y H1 => ∃ b xs, y = V.ref b ∧ (SqT K H1 b xs ∨ SqL K H1 b xs) ∧
  ∀ a dx, H1 a = none → H1 dx = none → dx ≠ a → sp (V.ref a :: xs) (upd (upd H1 dx (.own a)) a (.ins C dx [])) (fun v H2 => v = .non ∧ Q (.ref a) H2) E
theorem pe_mkS (c : Mkc X.prog X.w X.K X.mg X.base CX k C x sp) (hr : Room (k + 1) X.A) (hg : Gl X x) (hx : Passes CX X E) (he : PE X e te) (hdb : (x == ("__debug__" : Str)) = false := by decide)
    (hst : starEach [.Starred e sp_] X.env = [(true, eval e X.env)] := by rfl) : PE X (.Call (.Name x p) [.Starred e sp_] [] pos) (tMkS X.K C sp E te) := by
  obtain ⟨f, hm, M, F⟩ := c.ex
  refine ⟨fun pins s σ H Q I h => wpAny_Call_Name_kw (ld_glob I hg hm ?_ hdb)⟩
  refine PySem.W.callWith_S (h₀ := X.base) I.ok.mod.kin M.kp (thn (he.run pins s σ H _ I h) fun v s1 q1 => ?_) hst
  obtain ⟨y, H1, I1, ry, b, xs, rfl, hxs, q⟩ := q1
  obtain rfl : v = Value.ref b := ry
  exact StX.star_any I1 hxs fun us s2 I2 rv => ⟨I2.kIn, StX.run_makeR M F hr hx I2 rv q⟩
/-! ### xs.count(y), flat items -/
theorem count_eqU {x : V} : ∀ {xs : List V} {us : List Value}, Vals xs us → xs.all flatV = true → us.countP (eqU x) = xs.countP fun y => eqV y x
  | _, _, .nil, _ => rfl
  | y :: xs, u :: us, .cons r t, f => by
    rw [List.all_cons, Bool.and_eq_true] at f
    rw [List.countP_cons, List.countP_cons, eqU_of r f.1, count_eqU t f.2]
def rCntF (K : PySem.W.Frag) : V → List V → Hp → VK → Prop := fun x ys H Q => ∃ (p : Addr) (xs : List V) (y : V), x = .ref p ∧ ys = [y] ∧ SqL K H p xs ∧ flatV y = true ∧ xs.all flatV = true ∧ Q (.int (xs.countP (fun z => eqV z y) : Nat)) H
theorem mt_countF : MtR X "list.count" (rCntF X.K) := by
  intro pins s σ H x ys v us Q I rx rxs h
  obtain ⟨p, xs, y, rfl, rfl, hs, fy, fs, q⟩ := h
  cases rx
  obtain ⟨u, rfl, ru⟩ := rxs.one
  obtain ⟨its, rv, ⟨⟨cls, dd, data, sl⟩, n, ho, hc, hdn, hd⟩, hlen⟩ := I.list hs
  simp only at hc hd
  subst hc hd
  refine call_meets PySem.F.slot_list_count ⟨_, ho, rfl⟩ PySem.F.entry_list_count (PySem.F.args_list_count_2 _ _)
    (SeqAt.list_countAt p its.toArray n dd sl u (eqU y)) ⟨ho, fun z hz => mem_eqAt ru fy rv fs z (by simpa using hz), ?_⟩
  have ec : its.toArray.toList.countP (eqU y) = xs.countP fun z => eqV z y := count_eqU rv fs
  refine ⟨.int (xs.countP (fun z => eqV z y) : Nat), H, I.tok _, ⟨s.toks, ?_⟩, q⟩
  show Value.int ((its.toArray.toList.countP (eqU y) : Nat) : Int) s.toks = _
  rw [ec]
end
/-! ### a def with one star parameter behind the first, or behind two -/
section
variable {P : Program} {w : World} {K : PySem.W.Frag} {mg : Str → Option Value} {base : Heap}
/-- what is left over lies in a new tuple -/
def spStar (n : Nat) (sp : Sp) : Sp := fun vs H Q E => ∃ ws rest, vs = ws ++ rest ∧ ws.length = n ∧ rest.length ≤ sizeLine ∧ ∀ p, H p = none → sp (ws ++ [V.ref p]) (upd H p (.tup rest)) Q E
end
end Ls
namespace Ls
open PySem PySem.Spec PyProof.Rows L2
/-! ### xs.count(y) within a comprehension's block -/
section
variable {X : Cx} {K : PySem.W.Frag} {o e : PySem.Expr} {to : TE} {t : TA} {apos cpos : Pos}
theorem pe_countK (hK : X.K = K) (ho : PE X o to) (ha : PA X [e] t) (hbase : attributeBase o "count" X.env (eval o X.env) = eval o X.env := by rfl)
    (hfew : ((backTo cpos (starEach [e] X.env)).all (fun x => !x.1) && (backToKw cpos (keywordEach [] X.env)).all (fun x => x.1.isSome) && decide (([e] : List PySem.Expr).length + ([] : List Keyword).length + (if ([] : List Keyword).isEmpty then 0 else 1) < 30)) = true := by rfl)
    (hline : (apos.endLine == cpos.line) = true := by rfl) (hs : starEach [e] X.env = (false, eval e X.env) :: starEach [] X.env := by rfl) (hplain : (backTo cpos (starEach [] X.env)).any (·.1) = false := by rfl) :
    PE X (.Call (.Attribute o "count" apos) [e] [] cpos) (tBM K "list" (rCntF K) to t) := by
  subst hK
  exact pe_bm PySem.F.plainAttrs_list PySem.F.slot_list_count PySem.F.type_list_count mt_countF ho ha hbase hfew hline hs hplain
end
/-! ### texts, each once -/
theorem count_strs (z : Str) : ∀ l : List Str, (l.map V.str).countP (fun y => eqV y (.str z)) = l.count z
  | [] => rfl
  | a :: l => by
    rw [List.map_cons, List.countP_cons, List.count_cons, count_strs z l]
    have : eqV (.str a) (.str z) = (a == z) := rfl
    rw [this]
theorem once_iff {l : List Str} : (l.all fun z => l.count z == 1) = true ↔ l.Nodup := by
  rw [List.nodup_iff_count, List.all_eq_true]
  constructor
  · intro h a
    by_cases ha : a ∈ l
    · have := h a ha
      simp at this
      omega
    · rw [List.count_eq_zero.mpr ha]
      omega
  · intro h z hz
    have h1 := h z
    have h2 := List.count_pos_iff.mpr hz
    simp
    omega
theorem card_iff {M l : List Str} (nd : M.Nodup) (hm : ∀ y, y ∈ M ↔ y ∈ l) : M.length = l.length ↔ l.Nodup := by
  constructor
  · intro e
    rw [List.nodup_iff_count]
    intro a
    refine Nat.le_of_not_lt fun h2 => ?_
    have hin : a ∈ l := List.count_pos_iff.mp (by omega)
    have sub : ∀ y ∈ M, y ∈ l.erase a := fun y hy => by
      have hy' := (hm y).mp hy
      by_cases ey : y = a
      · subst ey
        refine List.count_pos_iff.mp ?_
        rw [List.count_erase_self]
        omega
      · exact (List.mem_erase_of_ne ey).mpr hy'
    have h3 := nd.length_le_of_subset sub
    rw [List.length_erase_of_mem hin] at h3
    have := List.length_pos_of_mem hin
    omega
  · intro h
    have h1 := nd.length_le_of_subset fun y hy => (hm y).mp hy
    have h2 := h.length_le_of_subset fun y hy => (hm y).mpr hy
    omega
end Ls
end
section
set_option Elab.async false
set_option linter.all false
set_option maxRecDepth 100000
set_option maxHeartbeats 4000000
/-! Sets of texts: set(xs), len and sorted of it. What HandS.Set says of sets of ints, told of texts; the tables' own lemmas are its. -/
namespace Ls
open PySem PySem.Spec PyProof.Rows L2
/-- the text of an entry -/
def txt (e : Int × Value) : Str := match e.2 with
  | .str z _ => z
  | _ => Str.empty
def EntT (w : World) (e : Int × Value) : Prop := ∃ tk, e.2 = Value.str (txt e) tk ∧ e.1 = hashStr w (txt e)
/-- at a stands a set of texts: those of L, each once -/
def TSet (w : World) (h : Heap) (a : Addr) (L : List Str) : Prop :=
  ∃ o es ep t, h.get? a = some o ∧ (o.ExactSet ∧ o.data = .set es ep t) ∧ ((∀ e ∈ es.toList, EntT w e) ∧ (es.toList.map txt).Perm L ∧ L.Nodup) ∧ (es.size < scanBound ∧ t.fits es.size = true ∧ Ris t.place.toList) ∧ (w.params.followText "set-order" = true ∨ t.led = true)
section
variable {P : Program} {w : World} {A : Around} {E : Value → Shared → Prop} {s : Shared} {a : Addr} {L : List Str}
theorem TSet.keep {h h' : Heap} (R : TSet w h a L) (k : ∀ o, h.get? a = some o → h'.get? a = some o) : TSet w h' a L :=
  let ⟨o, es, ep, t, ho, r⟩ := R
  ⟨o, es, ep, t, k o ho, r⟩
theorem ents {l : List (Int × Value)} (g : ∀ e ∈ l, EntT w e) : ElemsOf (PySem.strKind P w) l := fun e he => by
  obtain ⟨tk, h1, h2⟩ := g e he
  exact ⟨⟨txt e, by rw [h1]; exact strKind_is P w _ _, h2⟩, by rw [h1]; rfl⟩
theorem ent_is {e : Int × Value} (g : EntT w e) (z : Str) : (PySem.strKind P w).is z e.2 = true ↔ txt e = z := by
  obtain ⟨tk, h1, _⟩ := g
  have hk : (PySem.strKind P w).is (txt e) e.2 = true := by rw [h1]; exact strKind_is P w _ _
  rw [KeyKind.is_eq_decide hk z, decide_eq_true_eq]
  exact eq_comm
/-- the entries stored; the table grown where it is too full -/
theorem tset_tail {g : Bool → Sem Unit} (hg : ∀ (b : Bool) (s₁ : Shared) (Q' : Unit → Shared → Prop), Q' () s₁ → wpAny (model P w) A (g b) Q' E s₁) {o : Obj} {es ns : Array (Int × Value)} {ep : Nat} {t u : SetTable} {M : List Str} {dm : Bool} {R : Option Bool → Shared → Prop}
    (ho : s.heap.get? a = some o) (hx : o.ExactSet) (hd : o.data = .set es ep t) (gn : ∀ e ∈ ns.toList, EntT w e) (pm : (ns.toList.map txt).Perm M) (nd : M.Nodup) (hb : ns.size < scanBound) (hf : u.fits ns.size = true) (hr : Ris u.place.toList)
    (hl : w.params.followText "set-order" = true ∨ u.led = true) (hR : ∀ h', Heap.SameBut a s.heap h' → TSet w h' a M → R (some true) { s with heap := h' }) :
    wpAny (model P w) A (do
        storeSet a ns u
        if (!dm && u.tooFull) = true then do
            g (relayAll u ns (SetTable.grown ns.size)).2.2
            storeSet a (relayAll u ns (SetTable.grown ns.size)).1 (relayAll u ns (SetTable.grown ns.size)).2.1
            pure (some true)
          else pure (some true)) R E s := by
  have o1 := store_at (es' := ns) (t' := u) ho hd
  have b1 := Heap.SameBut.update s.heap a (Obj.putSet ns u)
  refine wpAny_bind (wpAny_storeSet_of ho hd ?_ (fits_of_scanBound hb))
  by_cases c : (!dm && u.tooFull) = true
  · rw [if_pos c]
    have q1 := relayAll_perm u ns (SetTable.grown ns.size)
    have q2 := relayAll_fits u ns (SetTable.grown ns.size)
    have q3 := relayAll_ris u ns (SetTable.grown ns.size)
    have q4 := relayAll_led u ns (SetTable.grown ns.size)
    generalize relayAll u ns (SetTable.grown ns.size) = Z at q1 q2 q3 q4 ⊢
    obtain ⟨n2, u2, gv⟩ := Z
    dsimp only at q1 q2 q3 q4 ⊢
    have hz : n2.size < scanBound := by
      have := q1.length_eq
      rw [Array.length_toList, Array.length_toList] at this
      omega
    refine wpAny_bind (hg _ _ _ (wpAny_bind (wpAny_storeSet_of o1 rfl ?_ (fits_of_scanBound hz))))
    refine wpAny_pure (hR _ (b1.trans (Heap.SameBut.update _ a _)) ⟨_, n2, _, u2, store_at o1 rfl, ⟨hx, rfl⟩, ⟨fun e he => gn e (q1.mem_iff.mp he), (q1.map txt).trans pm, nd⟩, ⟨hz, q2, q3⟩, ?_⟩)
    rcases hl with z | z
    · exact .inl z
    · exact .inr (by rw [q4]; exact z)
  · rw [if_neg c]
    exact wpAny_pure (hR _ b1 ⟨_, ns, _, u, o1, ⟨hx, rfl⟩, ⟨gn, pm, nd⟩, ⟨hb, hf, hr⟩, hl⟩)
theorem tset_add {z : Str} {tk : Tok} {Q : Bool → Shared → Prop} (R : TSet w s.heap a L) (room : L.length + 1 < scanBound)
    (hQ : ∀ h' M b, Heap.SameBut a s.heap h' → TSet w h' a M → M.length ≤ L.length + 1 → (∀ y, y ∈ M ↔ y ∈ L ∨ y = z) → Q b { s with heap := h' }) :
    wpAny (model P w) A (setAddHashed a (.str z tk) ((PySem.strKind P w).hash z)) Q E s := by
  obtain ⟨o, es, ep, t, ho, ⟨hx, hd⟩, ⟨ge, pm, nd⟩, ⟨hb, hf, hr⟩, hl⟩ := R
  have el : ElemsOf (PySem.strKind P w) es.toList := ents ge
  have hk : (PySem.strKind P w).is z (.str z tk) = true := strKind_is P w z tk
  unfold setAddHashed setAddHashedIn
  refine wpAny_holding (wpAny_bind (wpAny_setState_of ho hd hf ?_))
  dsimp only
  rw [byScan_of rfl hb el]
  simp only [↓reduceIte]
  unfold setAddByScan
  refine wpAny_bind (wpAny_bind (wpAny_rule (wpAny_bind (wpAny_setScan_of hk ho hd hf el ?_))))
  cases hfi : List.findIdx? (fun e => (PySem.strKind P w).is z e.2) es.toList with
  | some j =>
    dsimp only
    obtain ⟨hj, pj, _⟩ := List.findIdx?_eq_some_iff_getElem.mp hfi
    have hin : z ∈ L := pm.mem_iff.mp (List.mem_map.mpr ⟨_, List.getElem_mem hj, (ent_is (ge _ (List.getElem_mem hj)) z).mp pj⟩)
    refine wpAny_pure (wpAny_pure (hQ s.heap L _ (Heap.SameBut.refl a s.heap) ⟨o, es, ep, t, ho, ⟨hx, hd⟩, ⟨ge, pm, nd⟩, ⟨hb, hf, hr⟩, hl⟩ (Nat.le_succ _) fun y => ⟨.inl, fun q => ?_⟩))
    rcases q with q | q
    · exact q
    · rw [q]; exact hin
  | none =>
    dsimp only
    have hno : z ∉ L := fun q => by
      obtain ⟨e, he, q⟩ := List.mem_map.mp (pm.mem_iff.mpr q)
      have := List.findIdx?_eq_none_iff.mp hfi e he
      rw [(ent_is (ge e he) z).mpr q] at this
      cases this
    have q1 := layNew_perm t es ((PySem.strKind P w).hash z) (.str z tk)
    have q2 := layNew_fits t es ((PySem.strKind P w).hash z) (.str z tk)
    have q3 := layNew_ris t es ((PySem.strKind P w).hash z) (.str z tk) hr
    have q4 := layNew_led t es ((PySem.strKind P w).hash z) (.str z tk)
    generalize layNew t es ((PySem.strKind P w).hash z) (.str z tk) = Z at q1 q2 q3 q4 ⊢
    obtain ⟨ns, u, dm, gv⟩ := Z
    dsimp only at q1 q2 q3 q4 ⊢
    rw [Array.toList_push] at q1
    have q5 : ns.toList.Perm ((hashStr w z, Value.str z tk) :: es.toList) := q1.trans (List.perm_append_singleton _ _)
    have gn : ∀ e ∈ ns.toList, EntT w e := fun e he => by
      rcases List.mem_cons.mp (q5.mem_iff.mp he) with c | c
      · rw [c]; exact ⟨tk, rfl, rfl⟩
      · exact ge e c
    have pn : (ns.toList.map txt).Perm (z :: L) := (q5.map txt).trans (List.Perm.cons z pm)
    have nn : (z :: L).Nodup := List.nodup_cons.mpr ⟨hno, nd⟩
    have hz : ns.size = L.length + 1 := by
      have := pn.length_eq
      rw [List.length_map, Array.length_toList, List.length_cons] at this
      exact this
    have hbn : ns.size < scanBound := by omega
    have hln : w.params.followText "set-order" = true ∨ u.led = true := by
      rcases hl with c | c
      · exact .inl c
      · exact .inr (by rw [q4]; exact c)
    have fin : ∀ h', Heap.SameBut a s.heap h' → TSet w h' a (z :: L) → Q true { s with heap := h' } := fun h' sb r => hQ h' (z :: L) true sb r (Nat.le_refl _) fun y => by
      rw [List.mem_cons]
      exact Or.comm
    have way : ∀ (b : Bool) (s₁ : Shared) (Q' : Unit → Shared → Prop), Q' () s₁ → wpAny (model P w) A (match b with | true => rule "set.scan.the-table-gave-way" | false => pure ()) Q' E s₁ := fun b s₁ Q' q => by
      cases b
      · exact wpAny_pure q
      · exact wpAny_rule q
    refine wpAny_bind (way _ _ _ ?_)
    by_cases hp : u.plain = true
    · rw [if_pos hp]
      refine wpAny_bind ?_
      rw [hashByValue_scannable 8 (show (Value.str z tk).scannable = true from rfl)]
      refine wpAny_pure (tset_tail way ho hx hd gn pn nn hbn ?_ ?_ ?_ fun h' sb r => ?_)
      · split
        · exact q2
        · exact SetTable.fits_plain_off q2
      · split <;> exact q3
      · split <;> exact hln
      · exact wpAny_pure (fin h' sb r)
    · rw [if_neg hp]
      refine wpAny_bind (wpAny_pure ?_)
      simp only [↓reduceIte]
      exact tset_tail way ho hx hd gn pn nn hbn q2 q3 hln fun h' sb r => wpAny_pure (fin h' sb r)
/-! ### set(xs) -/
theorem tset_loop {I : Addr} {fp wr : List Addr} {G : Array GenState → Array GenState → Prop} {n : Nat} {Pv : Nat → Value → Prop} {St : Nat → Shared → Prop} {R : Result → Shared → Prop} (W : WalksS P w A.in1 I fp wr G n Pv St) (hSf : a ∉ fp)
    (xs : List Str) (hn : xs.length = n) (hb : xs.length + 1 < scanBound) (hv : ∀ i v, Pv i v → ∃ z tk, xs[i]? = some z ∧ v = .str z tk) :
    ∀ (d i : Nat) (s : Shared) (L : List Str), i + d = n → St i s → TSet w s.heap a L → L.length ≤ i → (∀ y, y ∈ L ↔ y ∈ xs.take i) →
      (∀ s' M, Moved (a :: wr) G s s' → TSet w s'.heap a M → M.length ≤ n → (∀ y, y ∈ M ↔ y ∈ xs) → R (.ok (.ret .none)) s') →
      codeAny (model P w) A (.builtin "set.update.loop" ⟨[.ref a, .ref I], []⟩) R s := by
  have hSw : a ∉ wr := fun h => hSf (W.sub _ h)
  have more : ∀ b ∈ wr, b ∈ a :: wr := fun b hb => List.mem_cons_of_mem _ hb
  intro d
  induction d with
  | zero =>
    intro i s L hi hst hS hlen hmem hR
    have e : i = n := by omega
    subst e
    refine codeAny_builtin F.entry_set_update_loop ?_
    rw [Around.under_plainId F.plain_set_update_loop _]
    show wpAny _ A.in1 (pyNext (.ref I) >>= _) _ _ s
    refine wpAny_bind (W.done s _ _ hst fun s' hm => ?_)
    refine wpAny_pure (hR s' L (hm.mono more) (hS.keep fun o q => hm.heap a o hSw q) hlen fun y => ?_)
    rw [hmem, List.take_of_length_le (by omega)]
  | succ d ih =>
    intro i s L hi hst hS hlen hmem hR
    refine codeAny_builtin F.entry_set_update_loop ?_
    rw [Around.under_plainId F.plain_set_update_loop _]
    show wpAny _ A.in1 (pyNext (.ref I) >>= _) _ _ s
    refine wpAny_bind (W.item i s _ _ (by omega) hst fun v s1 hP hst1 hm1 => ?_)
    obtain ⟨z, tk, hz, rfl⟩ := hv i v hP
    show wpAny _ A.in1 (holding [Value.str z tk] (setAdd a (.str z tk)) >>= _) _ _ s1
    refine wpAny_bind (wpAny_holding ?_)
    unfold setAdd
    refine wpAny_holding (wpAny_bind ((PySem.strKind P w).pyHash (k := z) (strKind_is _ _ _ _) ?_))
    refine tset_add (s := { s1 with toks := s1.toks + 1 }) (hS.keep fun o q => hm1.heap a o hSw q) (by omega) fun h2 M b sb hM lM mM => ?_
    refine wpAny_pure ⟨plainId_quiet F.plain_set_update_loop _, ih (i + 1) _ M (by omega) (W.frame _ s1 _ _ hst1 (Nat.le_succ _) fun b hb o q => ?_) hM (by omega) (fun y => ?_) fun s3 M3 hm3 h3 l3 e3 => hR s3 M3 (Moved.trans W.gtrans ((hm1.mono more).then_heap (Nat.le_succ _) fun b o hb q => ?_) hm3) h3 l3 e3⟩
    · rw [sb.2 b fun c => hSf (c ▸ hb)]
      exact q
    · rw [mM, hmem, List.take_add_one, hz, List.mem_append]
      simp
    · rw [sb.2 b fun c => hb (c ▸ List.mem_cons_self)]
      exact q
/-- an empty set, laid -/
abbrev set0 (w : World) : Obj := { cls := .type "set", dict := none, data := .set #[] 0 (.fresh 0 0 (!w.params.followText "set-order")) }
theorem tset_fresh {h : Heap} {a : Addr} (ho : h.get? a = some (set0 w)) : TSet w h a [] := by
  refine ⟨_, #[], 0, _, ho, ⟨⟨rfl, rfl, rfl⟩, rfl⟩, ⟨fun e he => by simp at he, List.Perm.refl _, List.nodup_nil⟩, ⟨by decide, by rfl, List.Pairwise.nil⟩, ?_⟩
  show _ ∨ (!w.params.followText "set-order") = true
  cases w.params.followText "set-order"
  · exact .inr rfl
  · exact .inl rfl
theorem call_setT {l : Addr} {items : Array Value} (xs : List Str) {Q : Value → Shared → Prop} (hh : A.handled = none) (hl : s.heap.IsList l items) (hx : StrsAre items.toList xs) (hb : xs.length + 1 < scanBound)
    (h : ∀ (h' : Heap) (tk : Nat) (M : List Str), TSet w h' s.heap.objs.size M → M.length ≤ xs.length → (∀ y, y ∈ M ↔ y ∈ xs) → (∀ b o, s.heap.get? b = some o → h'.get? b = some o) → Q (.ref s.heap.objs.size) { s with heap := h', toks := tk }) :
    wpAny (model P w) A (call (.type "set") [.ref l]) Q E s := by
  have hsz : xs.length = items.size := by rw [← StrsAre.len_eq hx, Array.length_toList]
  obtain ⟨c, tl, hmro⟩ := F.called_set.mro
  have hmade := F.called_set.made
  have hsub := F.called_set.sub
  have n1 := F.called_set.notType
  have n2 := F.called_set.canCreate
  have n3 := F.typeCall_set_1 (.ref l)
  refine wpAny_call (codeAny_of_tree ?_)
  show wpAny _ _ (callAny (.type "set") _) _ _ _
  refine wpAny_pure ⟨Code.quiet_builtin _ (by decide +kernel), codeAny_builtin F.entry_type_call ?_⟩
  rw [Around.under_plain (weight_type_call_type "set" [.ref l] []) rfl]
  repeat (any_goals (first | assumption | wp_step))
  refine codeAny_mono (code_set_led1 (.ref l) (E := E) (Q₁ := fun v s1 => v = .ref s.heap.objs.size ∧ s1 = { s with heap := s.heap.push (set0 w) }) ⟨rfl, rfl⟩) fun r s1 hr => ?_
  match r, hr with
  | .error e, hr => exact hr
  | .ok (.ret v), ⟨e1, e2⟩ =>
    subst e1 e2
    have hS : (s.heap.push (set0 w)).get? s.heap.objs.size = some (set0 w) := Heap.get?_push_size _ rfl
    have hT : Shared.TypeIs { s with heap := s.heap.push (set0 w) } (.ref s.heap.objs.size) "set" := ⟨_, hS, rfl⟩
    have i1 := F.called_set.init.lookup
    have i2 := F.called_set.init.bind (.ref s.heap.objs.size)
    repeat (any_goals (first | assumption | wp_step))
    refine codeAny_mono (codeAny_call_builtin (R := wants (fun r s2 => r = .none ∧ ∃ h' tk M, s2 = { s with heap := h', toks := tk } ∧ TSet w h' s.heap.objs.size M ∧ M.length ≤ xs.length ∧ (∀ y, y ∈ M ↔ y ∈ xs) ∧ (∀ b o, s.heap.get? b = some o → h'.get? b = some o)) E)
      F.called_set.init.plain F.entry_set_init (check_set_init_1 hT ?_)) fun r2 s2 hr2 => ?_
    · obtain ⟨⟨kc, kd, ka, ks⟩, hol, hcl, nl, hdl⟩ := hl
      simp only at hcl hdl
      subst hcl hdl
      have ol : (s.heap.push (set0 w)).get? l = some { cls := .type "list", dict := kd, data := .seq items nl, slots := ks } := Heap.get?_push_of_some _ hol
      have s1 := F.sub_list_set
      have s2 := F.sub_list_frozenset
      have s3 : (Value.type "list" == Value.type "dict") = false := by decide
      have hl1 : (s.heap.push (set0 w)).IsList l items := ⟨_, ol, rfl, nl, rfl⟩
      unfold Builtin.«set.__init__» noKeywords Builtin.Frozenset.updateFrom
      generalize hPI : pyIter = PI
      wp_walk
      subst hPI
      refine wpAny_pyIter_list hl1 (wpAny_bind (wpAny_runValue ?_))
      have hlt : l < s.heap.objs.size := Heap.lt_size hol
      have hz : (s.heap.push (set0 w)).objs.size = s.heap.objs.size + 1 := Heap.size_push ..
      have hA : A.in1.in1.in1.handled = none := by simp [hh]
      have nI : l ≠ (s.heap.push (set0 w)).objs.size := by rw [hz]; exact Nat.ne_of_lt (Nat.lt_succ_of_lt hlt)
      have nS : s.heap.objs.size ∉ [(s.heap.push (set0 w)).objs.size, l] := by
        rw [hz]
        simp only [List.mem_cons, List.not_mem_nil, or_false, not_or]
        exact ⟨Nat.ne_of_lt (Nat.lt_succ_self _), Nat.ne_of_gt hlt⟩
      refine tset_loop ((Walks.list hA _ l nI items).toS) nS xs hsz hb (fun i v hv => ?_) items.size 0 _ [] (by omega) ⟨⟨_, Heap.get?_push_size _ rfl, rfl, rfl⟩, hl1.push _⟩ (tset_fresh (Heap.get?_push_of_some _ hS)) (Nat.le_refl _) (fun y => by simp) fun s' M hm hM lM mM => ?_
      · have hi : i < xs.length := by rw [hsz]; exact (Array.getElem?_eq_some_iff.mp hv).1
        obtain ⟨tk, e⟩ := SS.strs_at hx i v (by rw [Array.getElem?_toList]; exact hv)
        refine ⟨xs[i], tk, List.getElem?_eq_getElem hi, ?_⟩
        rw [e, List.getD_eq_getElem?_getD, List.getElem?_eq_getElem hi]
        rfl
      · obtain ⟨h', g', d', tk', os'⟩ := s'
        obtain rfl : g' = s.gens := hm.gens
        obtain rfl : d' = s.drawn := hm.drawn
        obtain rfl : os' = s.os := hm.os
        show wpAny _ _ _ _ _ _
        refine wpAny_pure ?_
        show wpAny _ _ (ret Value.none) _ _ _
        refine wpAny_pure ⟨rfl, h', tk', M, rfl, hM, by rw [hsz]; exact lM, mM, fun b o q => ?_⟩
        have hb0 : b < s.heap.objs.size := Heap.lt_size q
        refine hm.heap b o ?_ (Heap.get?_push_of_some _ (Heap.get?_push_of_some _ q))
        rw [hz]
        simp only [List.mem_cons, List.not_mem_nil, or_false, not_or]
        exact ⟨Nat.ne_of_lt hb0, Nat.ne_of_lt (Nat.lt_succ_of_lt hb0)⟩
    · match r2, hr2 with
      | .error e, hr2 => exact hr2
      | .ok (.ret v), ⟨e1, h', tk, M, e2, q1, q2, q3, q4⟩ =>
        subst e1 e2
        repeat (any_goals (first | assumption | wp_step))
        exact h _ _ _ q1 q2 q3 q4
end
/-! ### the rules -/
/-- a set of texts, tracked -/
def SetT (w : World) (a : Addr) (L : List Str) : HO := .ext fun h => TSet w h a L
section
variable {X : Cx} {pins : List (Addr × Obj)} {σ : L2.St} {H : Hp} {s : Shared} {a : Addr} {L : List Str}
theorem setT_new {P : Program} {w : World} {H : Hp} {h : Heap} (R : TSet w h a L) : ObjOk P w H h a (SetT w a L) := by
  have ⟨o, _, _, _, ho, _⟩ := R
  exact ⟨R, ⟨o, ho⟩, fun h1 h2 p k => TSet.keep p k⟩
/-- set(xs), xs a list of texts -/
def rSetT (K : PySem.W.Frag) (w : World) : List V → Hp → VK → Prop := fun vs H Q => ∃ (l : Addr) (ys : List Str), vs = [.ref l] ∧ SqL K H l (ys.map V.str) ∧ ys.length ≤ 1000 ∧
  ∀ p M, H p = none → M.Nodup → M.length ≤ ys.length → (∀ y, y ∈ M ↔ y ∈ ys) → Q (.ref p) (upd H p (SetT w p M))
theorem cr_setT (hc : X.calm = true) : CallR X (.type "set") (rSetT X.K X.w) := by
  intro pins s σ H vs us Q I r h
  obtain ⟨l, ys, rfl, hl, hn, q⟩ := h
  rw [Vals.ref1 r]
  obtain ⟨its, rv, pl, hz⟩ := I.list hl
  refine call_setT ys (I.ok.hd hc) pl.isList (by simpa using rv.strs) (by unfold scanBound; omega) fun h' tk M hM lM mM k => ?_
  have nd : M.Nodup := by
    obtain ⟨_, _, _, _, _, _, ⟨_, _, nd⟩, _⟩ := hM
    exact nd
  exact ⟨.ref s.heap.objs.size, upd H s.heap.objs.size (SetT X.w s.heap.objs.size M), I.laid (t' := tk) k (Nat.le_refl _) (setT_new hM), rfl, q _ M (I.hok.fresh (Nat.le_refl _)) nd lM mM⟩
/-- len(set) -/
def rLenT (w : World) : List V → Hp → VK → Prop := fun vs H Q => ∃ (a : Addr) (M : List Str), vs = [.ref a] ∧ H a = some (SetT w a M) ∧ Q (.int M.length) H
theorem cr_lenT : CallR X (.builtin "len") (rLenT X.w) := by
  intro pins s σ H vs us Q I r h
  obtain ⟨a, M, rfl, ha, q⟩ := h
  rw [Vals.ref1 r]
  obtain ⟨o, es, ep, t, ho, ⟨hx, hd⟩, ⟨ge, pm, nd⟩, ⟨hb, hf, hr⟩, hl⟩ := (show TSet X.w s.heap a M from (I.hok a _ ha).1)
  have hz : es.size = M.length := by
    have := pm.length_eq
    rw [List.length_map, Array.length_toList] at this
    exact this
  refine call_len_set ho hx hd hf (by unfold scanBound at hb; omega) ⟨.int M.length, H, I.tok _, ⟨s.toks + 1, ?_⟩, q⟩
  rw [hz]
/-- sorted(set), fewer than 64 -/
def rSortT (w : World) : List V → Hp → VK → Prop := fun vs H Q => ∃ (a : Addr) (M : List Str), vs = [.ref a] ∧ H a = some (SetT w a M) ∧ M.length < 64 ∧ ∀ ys p, ys.Perm M → sortedS ys = true → H p = none → Q (.ref p) (upd H p (.lst (ys.map V.str)))
theorem strs_txt {w : World} : ∀ {l : List (Int × Value)}, (∀ e ∈ l, EntT w e) → StrsAre (l.map (·.2)) (l.map txt)
  | [], _ => .nil
  | e :: l, g => by
    obtain ⟨tk, h1, _⟩ := g e (by simp)
    rw [List.map_cons, List.map_cons, h1]
    exact .cons _ tk (strs_txt fun x hx => g x (List.mem_cons_of_mem _ hx))
theorem strs_perm {vs us : List Value} {ks : List Str} (p : vs.Perm us) (h : StrsAre us ks) : ∃ ks', StrsAre vs ks' ∧ ks'.Perm ks := by
  induction p generalizing ks with
  | nil => exact ⟨ks, h, List.Perm.refl _⟩
  | cons x p ih =>
    cases h with
    | cons k t h =>
      obtain ⟨ks', h1, h2⟩ := ih h
      exact ⟨k :: ks', .cons k t h1, h2.cons k⟩
  | swap x y l =>
    cases h with
    | cons k t h =>
      cases h with
      | cons k2 t2 h => exact ⟨k2 :: k :: _, .cons k2 t2 (.cons k t h), List.Perm.swap _ _ _⟩
  | trans p1 p2 ih1 ih2 =>
    obtain ⟨k2, h2, q2⟩ := ih2 h
    obtain ⟨k1, h1, q1⟩ := ih1 h2
    exact ⟨k1, h1, q1.trans q2⟩
theorem cr_sortT (hc : X.calm = true) : CallR X (.builtin "sorted") (rSortT X.w) := by
  intro pins s σ H vs us Q I r h
  obtain ⟨a, M, rfl, ha, h64, q⟩ := h
  rw [Vals.ref1 r]
  obtain ⟨o, es, ep, t, ho, ⟨hx, hd⟩, ⟨ge, pm, nd⟩, ⟨hb, hf, hr⟩, hl⟩ := (show TSet X.w s.heap a M from (I.hok a _ ha).1)
  refine Calls.call_function_entry kind_sorted plain_sorted entry_sorted (args_sorted1 _) ?_
  unfold Builtin.«sorted»
  refine wpAny_bind (m := checkCount "sorted" 1 1 _) (wpAny_pure ?_)
  refine wpAny_bind (collect_set (A := X.A.in1) (I.ok.hd hc) ⟨o, ho, hx.1, hd⟩ hf hb hr hl fun s1 out k1 hz g1 o1 po => ?_)
  obtain ⟨ks, hS, pk⟩ := strs_perm po (strs_txt ge)
  have hlen : out.length = M.length := by
    have e1 := po.length_eq
    have e2 := pm.length_eq
    rw [List.length_map] at e1 e2
    rw [e1, e2]
  refine wpAny_bind (wpAny_newList ?_ (by rw [hlen, sizeLine_eq]; omega))
  have oL : (s1.heap.push (seqObj "list" out.toArray 0)).get? s1.heap.objs.size = some (seqObj "list" out.toArray 0) := Heap.get?_push_size _ rfl
  refine wpAny_bind (wpAny_holding (wpAny_call_entry slot_list_sort ⟨_, oL, rfl⟩ entry_list_sort
    (list_sort_treeK strKind_oneLt oL hS.keysOf (fun v₁ v₂ rest e => keyKind_strs (by rw [← e]; exact hS)) (by rw [hlen]; exact h64) fun st' hp hs => ⟨_, rfl, ?_⟩) (args_list_sort _)))
  obtain ⟨ys, y1, y2, y3⟩ := sorted_out_str hS hp hs
  obtain ⟨c, hc'⟩ := sortedHeap_at (vs := out) (out := (arrOf st').map (·.2)) oL
  have pM : ys.Perm M := y2.trans (pk.trans pm)
  have hp0 : H s1.heap.objs.size = none := I.hok.fresh hz
  have kk : ∀ b u, s.heap.get? b = some u → (sortedHeap (s1.heap.push (seqObj "list" out.toArray 0)) s1.heap.objs.size out ((arrOf st').map (·.2))).get? b = some u := fun b u e => by
    have e1 := k1 b u e
    have lt := Heap.lt_size e1
    rw [sortedHeap_old (Nat.ne_of_lt lt) (by rw [size_push']; exact Nat.lt_succ_of_lt lt)]
    exact Heap.get?_push_of_some _ e1
  have hys : (ys.map V.str).length ≤ sizeLine := by
    rw [List.length_map, pM.length_eq, sizeLine_eq]
    omega
  refine wpAny_pure ⟨_, rfl, ?_⟩
  generalize hh' : sortedHeap (s1.heap.push (seqObj "list" out.toArray 0)) s1.heap.objs.size out ((arrOf st').map (·.2)) = h' at hc' kk ⊢
  have J : Inv X pins σ (upd H s1.heap.objs.size (.lst (ys.map V.str))) { s with heap := h', gens := s1.gens, drawn := s1.drawn, toks := s1.toks } :=
    I.call (ch := []) (Un.laid kk hz hp0) (I.hok.laid kk hz ⟨hys, ((arrOf st').map (·.2)).toList, c, vals_of_strs y1, by rw [Array.toArray_toList]; exact hc'⟩) (by rw [g1]; exact I.bare) (fun _ z => nomatch z)
  refine ⟨.ref s1.heap.objs.size, _, ?_, rfl, q ys _ pM y3 hp0⟩
  have e : ({ s1 with heap := h' } : Shared) = { s with heap := h', gens := s1.gens, drawn := s1.drawn, toks := s1.toks } := by
    obtain ⟨_, _, _, _, os1⟩ := s1
    obtain ⟨_, _, _, _, os0⟩ := s
    cases o1
    rfl
  rw [e]
  exact J
end
end Ls
end
section
set_option Elab.async false
set_option linter.all false
set_option maxRecDepth 100000
set_option maxHeartbeats 4000000
namespace Ls
open PySem PySem.Spec PyProof.Rows L2
/-! ### e.f, a property that several classes share -/
/-- the classes S have the property f; its getter keeps sp -/
structure Prp (P : Program) (w : World) (K : PySem.W.Frag) (mg : Str → Option Value) (base : Heap) (CX : CXT) (k : Nat) (S : Addr → Prop) (f : Str) (sp : Sp) : Prop where
  ex : ∃ (p g : Addr) (fd : FuncData), (∀ C, S C → Cls K C ∧ PropOf K C f p g) ∧ FnOk P w K mg base CX k g fd ["self"] sp ∧ Binds K fd ["self"] []
def tPrp (S : Addr → Prop) (sp : Sp) (E : XK) (ta : TE) : TE := fun σ H Q => ta σ H fun x H1 => ∃ a C dx fs, x = .ref a ∧ H1 a = some (.ins C dx fs) ∧ S C ∧ sp [.ref a] H1 Q E
section
variable {X : Cx} {CX : CXT} {k : Nat} {S : Addr → Prop} {f : Str} {sp : Sp} {E : XK} {e : PySem.Expr} {pos : Pos} {ta : TE}
theorem pe_prp (c : Prp X.prog X.w X.K X.mg X.base CX k S f sp) (hr : Room (k + 1) X.A) (hx : Passes CX X.nox E) (he : PE X e ta) (hab : attributeBase e f X.env (eval e X.env) = eval e X.env := by rfl) : PE X (.Attribute e f pos) (tPrp S sp E ta) := by
  obtain ⟨p, g, fd, hc, F, hb⟩ := c.ex
  refine ⟨fun pins s σ H Q I h => ?_⟩
  refine attr_of hab (thn (he.run pins s σ H _ I h) fun u s1 ⟨x, H1, I1, rx, a, C, dx, fs, ex, ea, hS, q⟩ => ?_)
  subst ex
  obtain rfl : u = Value.ref a := rx
  exact getprop_ok I1 ea (hc C hS).1 (hc C hS).2 F hr hb .nil hx q
end
/-! ### xs.pop(i) within a comprehension's block -/
section
variable {X : Cx} {K : PySem.W.Frag} {o e : PySem.Expr} {to : TE} {t : TA} {apos cpos : Pos}
theorem pe_popK (hK : X.K = K) (ho : PE X o to) (ha : PA X [e] t) (hbase : attributeBase o "pop" X.env (eval o X.env) = eval o X.env := by rfl)
    (hfew : ((backTo cpos (starEach [e] X.env)).all (fun x => !x.1) && (backToKw cpos (keywordEach [] X.env)).all (fun x => x.1.isSome) && decide (([e] : List PySem.Expr).length + ([] : List Keyword).length + (if ([] : List Keyword).isEmpty then 0 else 1) < 30)) = true := by rfl)
    (hline : (apos.endLine == cpos.line) = true := by rfl) (hs : starEach [e] X.env = (false, eval e X.env) :: starEach [] X.env := by rfl) (hplain : (backTo cpos (starEach [] X.env)).any (·.1) = false := by rfl) :
    PE X (.Call (.Attribute o "pop" apos) [e] [] cpos) (tBM K "list" rPopAt to t) := by
  subst hK
  exact pe_bm PySem.F.plainAttrs_list PySem.F.slot_list_pop PySem.F.type_list_pop mt_popAt ho ha hbase hfew hline hs hplain
end
end Ls
end
section
set_option Elab.async false
set_option linter.all false
set_option maxRecDepth 100000
set_option maxHeartbeats 4000000
namespace Ls
open PySem PySem.Spec PyProof.Rows L2 TL
/-! ### what repr can show: lists and tuples of several -/
theorem show_all : ∀ {ds : List PyData}, (∀ d ∈ ds, d.showable = true) → PyData.showableAll ds = true
  | [], _ => rfl
  | d :: r, h => by
    show (d.showable && PyData.showableAll r) = true
    rw [h d (by simp), show_all fun x hx => h x (List.mem_cons_of_mem _ hx)]
    rfl
theorem depth_all {k : Nat} : ∀ {ds : List PyData}, (∀ d ∈ ds, d.depth ≤ k) → PyData.depthAll ds ≤ k
  | [], _ => Nat.zero_le _
  | d :: r, h => by
    show max d.depth (PyData.depthAll r) ≤ k
    have h1 := h d (by simp)
    have h2 := depth_all (ds := r) fun x hx => h x (List.mem_cons_of_mem _ hx)
    omega
theorem shown_all {n : Nat} : ∀ {ds : List PyData}, (∀ d ∈ ds, d.shown.length ≤ n) → ((PyData.shownAll ds).map (·.length)).sum ≤ ds.length * n ∧ (PyData.shownAll ds).length = ds.length
  | [], _ => ⟨Nat.zero_le _, rfl⟩
  | d :: r, h => by
    obtain ⟨h1, h2⟩ := shown_all (ds := r) fun x hx => h x (List.mem_cons_of_mem _ hx)
    have h0 := h d (by simp)
    show ((d.shown :: PyData.shownAll r).map (·.length)).sum ≤ (r.length + 1) * n ∧ (PyData.shownAll r).length + 1 = r.length + 1
    rw [List.map_cons, List.sum_cons, Nat.add_mul, Nat.one_mul, h2]
    exact ⟨by omega, rfl⟩
theorem Shw.listN {n k : Nat} {ds : List PyData} (h : ∀ d ∈ ds, Shw n d) (hd : ∀ d ∈ ds, d.depth ≤ k) (hk : k < 20) : Shw (ds.length * n + 2 * ds.length + 3) (.list ds) := ⟨show_all fun d hx => (h d hx).sh, by
  have := depth_all hd
  show PyData.depthAll ds + 1 ≤ 20
  omega, by
  obtain ⟨h1, h2⟩ := shown_all fun d hx => (h d hx).ln
  have := listText_len_le (PyData.shownAll ds)
  show (listText (PyData.shownAll ds)).length ≤ _
  omega⟩
theorem Shw.tupN {n k : Nat} {ds : List PyData} (h : ∀ d ∈ ds, Shw n d) (hd : ∀ d ∈ ds, d.depth ≤ k) (hk : k < 20) : Shw (ds.length * n + 2 * ds.length + 3) (.tuple ds) := ⟨show_all fun d hx => (h d hx).sh, by
  have := depth_all hd
  show PyData.depthAll ds + 1 ≤ 20
  omega, by
  obtain ⟨h1, h2⟩ := shown_all fun d hx => (h d hx).ln
  have := tupleText_len_le (PyData.shownAll ds)
  show (tupleText (PyData.shownAll ds)).length ≤ _
  omega⟩
theorem depth_tup {k : Nat} {ds : List PyData} (h : ∀ d ∈ ds, d.depth ≤ k) : (PyData.tuple ds).depth ≤ k + 1 := by
  have := depth_all h
  show PyData.depthAll ds + 1 ≤ k + 1
  omega
theorem depth_lst {k : Nat} {ds : List PyData} (h : ∀ d ∈ ds, d.depth ≤ k) : (PyData.list ds).depth ≤ k + 1 := by
  have := depth_all h
  show PyData.depthAll ds + 1 ≤ k + 1
  omega
theorem tvs_strs {H : Hp} : ∀ us : List Str, TVs H (us.map V.str) (us.map .str)
  | [] => .nil
  | u :: r => .cons (.str u) (tvs_strs r)
end Ls
end
section
set_option Elab.async false
set_option linter.all false
set_option maxRecDepth 100000
set_option maxHeartbeats 4000000
namespace Ls
open PySem PySem.Spec PyProof.Rows L2 TL
/-! ### tuples of texts, compared -/
theorem dp_strs {K : PySem.W.Frag} {H : Hp} : ∀ us : List Str, DpAll K H (us.map V.str) (us.map .str)
  | [] => .nil
  | u :: r => .cons (.str u) (dp_strs r)
theorem lay_strs : ∀ us : List Str, (∀ z ∈ us, PyData.strOk z = true) → PyData.canLayAll0 (us.map .str) = true
  | [], _ => rfl
  | u :: r, h => by
    show (PyData.strOk u && PyData.canLayAll0 (r.map .str)) = true
    rw [h u (by simp), lay_strs r fun z hz => h z (by simp [hz])]
    rfl
theorem shaped_strs (us : List Str) (ho : ∀ z ∈ us, PyData.strOk z = true) : SeqAt.shaped (.tuple (us.map .str)) = true := by
  have h : (PyData.tuple (us.map .str)).depth ≤ 1 := depth_tup fun d hd => by
    obtain ⟨z, _, rfl⟩ := List.mem_map.mp hd
    exact Nat.le_refl _
  show (PyData.canLay0 (.tuple (us.map .str)) && decide ((PyData.tuple (us.map .str)).depth ≤ 64)) = true
  rw [decide_eq_true (Nat.le_trans h (by decide)), Bool.and_true]
  exact lay_strs us ho
theorem eqv_strs (us : List Str) (ho : ∀ z ∈ us, PyData.strOk z = true) : PyData.eqv (.tuple (us.map .str)) (.tuple (us.map .str)) = true := SeqAt.eqv_refl _ (lay_strs us ho)
end Ls
end
section
set_option Elab.async false
set_option linter.all false
set_option maxRecDepth 100000
set_option maxHeartbeats 4000000
namespace Ls
open PySem PySem.Spec PyProof.Rows L2 TL
/-! ### numbers and dicts that repr can show -/
theorem Shw.int10 {a : Int} {k : Nat} (hk : 0 < k) (h : a.natAbs < 10 ^ k) (h2 : k ≤ 450) : Shw (k + 1) (.int a) := ⟨by
  show decide (a.natAbs.log2 < 1920) = true
  refine decide_eq_true ?_
  by_cases e : a.natAbs = 0
  · rw [e]
    decide
  · rw [Nat.log2_lt e]
    refine Nat.lt_trans h (Nat.lt_of_le_of_lt (Nat.pow_le_pow_right (by decide) h2) ?_)
    decide +kernel, Nat.zero_le _, by
  show (Str.ofString (toString a)).length ≤ _
  rw [PySem.ofString_length]
  exact int_text_length_le10 hk h⟩
theorem Shw.dict1 {n m : Nat} {a b : PyData} (ha : Shw n a) (hb : Shw m b) (hd : a.depth < 20) (hd2 : b.depth < 20) : Shw (n + m + 7) (.dict [(a, b)]) := ⟨by
  show (a.showable && b.showable && true) = true
  rw [ha.sh, hb.sh]
  rfl, by
  show max (max a.depth b.depth) 0 + 1 ≤ 20
  omega, by
  have := dictText_len_le [a.shown ++ (": " : Str) ++ b.shown]
  have := ha.ln
  have := hb.ln
  show (dictText [a.shown ++ (": " : Str) ++ b.shown]).length ≤ _
  have e2 : (": " : Str).length = 2 := by decide +kernel
  simp [Str.length_append, e2] at *
  omega⟩
end Ls
end
section
set_option Elab.async false
set_option linter.all false
set_option maxRecDepth 100000
set_option maxHeartbeats 4000000
namespace Ls
open PySem PySem.Spec PyProof.Rows L2
/-! ### C(a = v), no positional argument -/
/-- the class under the module's name x, made by one argument given by its name -/
structure MkcK (P : Program) (w : World) (K : PySem.W.Frag) (mg : Str → Option Value) (base : Heap) (CX : CXT) (k : Nat) (C : Addr) (x a : Str) (sp : Sp) : Prop where
  ex : ∃ f fd, mg x = some (.ref C) ∧ Mk K C f ∧ FnOk P w K mg base CX k f fd ["self", a] sp ∧ KBn K fd ["self", a] 1 [a] (fun us ws => us ++ ws) (fun vs zs => vs ++ zs)
section
variable {X : Cx} {CX : CXT} {k : Nat} {C : Addr} {sp : Sp} {E : XK} {x a : Str} {p pos : Pos} {kws : List Keyword} {tk : TA}
theorem pe_makeK0 (c : MkcK X.prog X.w X.K X.mg X.base CX k C x a sp) (hr : Room (k + 1) X.A) (hg : Gl X x) (hx : Passes CX X E) (hkw : PK X kws tk)
    (hall : (backToKw pos (keywordEach kws X.env)).all (·.1.isSome) = true := by rfl) (hks : (backToKw pos (keywordEach kws X.env)).filterMap (·.1) = [a] := by rfl)
    (hdb : (x == ("__debug__" : Str)) = false := by decide)
    (hpl : ((backTo pos (starEach [] X.env)).any (·.1) || (backToKw pos (keywordEach kws X.env)).any (·.1.isNone)) = false := by rfl) :
    PE X (.Call (.Name x p) [] kws pos) (tMakeN C 0 1 sp (fun vs zs => vs ++ zs) E tNil tk) := by
  obtain ⟨f, fd, hm, M, F, hb⟩ := c.ex
  refine ⟨fun pins s σ H Q I h => ?_⟩
  refine wpAny_Call_Name_kw (ld_glob I hg hm ?_ hdb)
  refine PySem.W.callWith_KW0 (h₀ := X.base) I.ok.mod.kin M.kp hall ?_ hpl
  refine thn (hkw.run pos pins s σ H _ I h) fun ws s2 ⟨zs, H2, I2, rz, l1, l2, q2⟩ => ⟨I2.kIn, ?_⟩
  rw [hks]
  exact run_makeN (us := []) (vs := []) M F hr hb hx I2 .nil rz l1 l2 q2
end
theorem kbn_self {K : PySem.W.Frag} {x qual : Str} {st : Stmt} {f : Addr} {fd : FuncData} {a : Str} (F : Fun K x qual st f fd)
    (h : ∀ (kV doc pm : Value) (an : Option Addr) (cdv ct u v : Value), bindArgs (PySem.W.fnOf x qual (defArgs st) (defBody st) (defScope st) .none kV doc pm an cdv ct) ⟨[u], [(a, v)]⟩ = pure [(("self" : Str), u), (a, v)]) :
    KBn K fd ["self", a] 1 [a] (fun us ws => us ++ ws) (fun vs zs => vs ++ zs) := by
  obtain ⟨oc, od, kV, doc, pm, an, cdv, ct, osl, rfl, lk, hcd⟩ := F.ex
  refine ⟨fun s us ws _ l1 l2 => ?_, fun r1 r2 => r1.append r2⟩
  match us, ws, l1, l2 with
  | [v], [u], _, _ => exact .of_eq (h kV doc pm an cdv ct v u)
/-! ### xs[::-1] within a comprehension's block -/
theorem pe_revLK {X : Cx} {K : PySem.W.Frag} {e : Expr} {te : TE} {k : Nat} {p1 p2 p3 pos : Pos} (hK : X.K = K) (he : PE X e te) : PE X (.Subscript e (.Slice none none (some (.UnaryOp .USub (.Constant (.int 1) k p1) p2)) p3) pos) (tRevL K te) := by
  subst hK
  exact pe_revL he
/-! ### lists of texts, compared -/
theorem eqvAll_strs : ∀ us vs : List Str, PyData.eqvAll (us.map .str) (vs.map .str) = decide (us = vs)
  | [], [] => rfl
  | [], _ :: _ => rfl
  | _ :: _, [] => rfl
  | u :: us, v :: vs => by
    show ((u == v) && PyData.eqvAll (us.map .str) (vs.map .str)) = _
    rw [eqvAll_strs us vs]
    by_cases h : u = v
    · subst h
      simp
    · rw [show (u == v) = false from beq_eq_false_iff_ne.mpr h, Bool.false_and]
      exact (decide_eq_false fun e => h (List.cons.inj e).1).symm
end Ls
end
section
set_option Elab.async false
set_option linter.all false
set_option maxRecDepth 100000
set_option maxHeartbeats 4000000
namespace PySem
open Sem (wp)
set_option maxHeartbeats 1000000 in
theorem ls_meets_enumerate_new1 {v : Value} {o : Obj} {H : Heap → Prop} (B : Begins v o H) :
    Meets (Builtin.«enumerate.__new__» ⟨[.type "enumerate", v], []⟩) (fun _ R s => H s.heap ∧
      R (.ok (.ret (.ref (s.heap.push o).objs.size))) { s with heap := (s.heap.push o).push { cls := .type "enumerate", data := .fields #[.none, .bool false, .ref s.heap.objs.size, rawInt 0, .none, .none] } }) :=
  .of_wp fun prog w A R s h => by
    obtain ⟨hp, g, d, tks, os⟩ := s; obtain ⟨h1, h⟩ := h
    have hsub := sub_enumerate
    have one : ∀ {A' : Around} {E : Value → Shared → Prop} {Q : Value → Shared → Prop}, Q (.ref hp.objs.size) ⟨hp.push o, g, d, tks, os⟩ → wpAny (model prog w) A' (pyIter v) Q E ⟨hp, g, d, tks, os⟩ :=
      fun q => B.iter prog w _ _ ⟨hp, g, d, tks, os⟩ _ h1 q
    wp_walk using one
    refine wpAny_stack_any fun pos_ => wpAny_pure ?_
    split
    · rename_i c _ _ _ _ _
      cases (c == Value.type "enumerate")
      · wp_walk using one
        exact ⟨_, rfl, h⟩
      · wp_walk using one
        exact ⟨_, rfl, h⟩
    · wp_walk using one
      exact ⟨_, rfl, h⟩
section
variable {prog : Program} {w : World} {A : Around} {E : Value → Shared → Prop} {s : Shared}
theorem ls_enum_begins {v : Value} {o : Obj} {H : Heap → Prop} {Q : Value → Shared → Prop} (B : Begins v o H) (h1 : H s.heap)
    (h : ∀ h', IsEnum h' (s.heap.objs.size + 1) s.heap.objs.size 0 .none → h'.get? s.heap.objs.size = some o → h'.objs.size = s.heap.objs.size + 2 →
      (∀ b o, s.heap.get? b = some o → h'.get? b = some o) → Q (.ref (s.heap.objs.size + 1)) { s with heap := h' }) :
    wpAny (model prog w) A (call (.type "enumerate") [v]) Q E s := by
  refine callType_new F.called_enumerate (by decide) (F.typeCall_enumerate_1 _) (F.newCall_enumerate_1 _) (fun obj => F.args_object_init_2 obj _) F.entry_enumerate_new
    (ls_meets_enumerate_new1 B) ⟨h1, ?_⟩
  have szs : (s.heap.push o).objs.size = s.heap.objs.size + 1 := Heap.size_push ..
  show _ ∧ _
  rw [szs]
  have hen : IsEnum ((s.heap.push o).push { cls := .type "enumerate", data := .fields #[.none, .bool false, .ref s.heap.objs.size, rawInt 0, .none, .none] }) (s.heap.objs.size + 1) s.heap.objs.size 0 .none := by
    have := Heap.get?_push_size (s.heap.push o) (o := { cls := .type "enumerate", data := .fields #[.none, .bool false, .ref s.heap.objs.size, rawInt 0, .none, .none] }) rfl
    rw [szs] at this; exact this
  refine ⟨⟨_, hen, rfl⟩, h _ hen (Heap.get?_push_of_some _ (Heap.get?_push_size _ B.free)) (by rw [Heap.size_push, szs]) fun b o x => Heap.get?_push_of_some _ (Heap.get?_push_of_some _ x)⟩
end
end PySem
namespace Ls
open PySem PySem.Spec PyProof.Rows L2
/-! ### enumerate(t), t a tuple -/
def IteT (K : PySem.W.Frag) (a : Addr) : It :=
  ⟨fun i H => ∃ (xs : List V) (x : V), SqT K H a xs ∧ xs[i]? = some x, fun i H v H' => ∃ T x, v = .ref T ∧ H T = none ∧ H' = upd H T (.tup [.int (i : Nat), x]) ∧ ∀ xs, SqT K H a xs → xs[i]? = some x, fun i H => ∃ xs : List V, SqT K H a xs ∧ xs.length ≤ i⟩
theorem turn_enumT {P : Program} {w : World} {K : PySem.W.Frag} {elts : List Expr} {kk : Nat} {tpos : Pos} (a e it : Addr) :
    Turn P w K (.Tuple elts kk tpos) (IteT K a) [e, it] e (fun i h => (∃ prev, IsEnum h e it ((i : Nat) : Int) prev) ∧ h.IsTupleIter it a i ∧ e ≠ it) where
  mem := by simp
  obj := fun i h pos_ b hb => by
    obtain ⟨⟨prev, hen⟩, ⟨o, ho, hc, hd⟩, _⟩ := pos_
    have e' : b = e ∨ b = it := by simpa using hb
    rcases e' with z | z
    · rw [z]; exact ⟨_, hen, fun v q => nomatch q⟩
    · rw [z]; exact ⟨o, ho, fun v q => by rw [hd] at q; cases q⟩
  keep := fun i h h' pos_ k => let ⟨⟨prev, hen⟩, hi, hdf⟩ := pos_; ⟨⟨prev, k e (by simp) _ hen⟩, hi.at fun o q => k it (by simp) o q, hdf⟩
  item := by
    intro X hP hw hK hc i pins s σ H E I hfree pos_ hgo
    subst hP hw hK
    obtain ⟨⟨prev, hen⟩, hti, hdf⟩ := pos_
    obtain ⟨xs, x, hsq, hxi⟩ := hgo
    obtain ⟨vals, rvs, p, szs⟩ := I.tuple hsq
    obtain ⟨u, hu, rel⟩ := rvs.get hxi
    have ltE : e < s.heap.objs.size := Heap.lt_size hen
    have ltI : it < s.heap.objs.size := by obtain ⟨_, q, _⟩ := hti; exact Heap.lt_size q
    have pT : s.heap.IsTuple a vals.toArray := p
    have nai : a ≠ it := fun z => by
      obtain ⟨o1, one, q2, _⟩ := pT
      obtain ⟨o2, q3, q4, _⟩ := hti
      rw [z, q3] at one
      cases one
      rw [q4] at q2
      exact absurd (Value.type.inj q2) (by decide)
    have nea : e ≠ a := fun z => by
      obtain ⟨o1, one, q2, _⟩ := pT
      have he' : s.heap.get? e = _ := hen
      rw [z, one] at he'
      cases he'
      exact absurd (Value.type.inj q2) (by decide)
    have hi : i < vals.toArray.size := by
      rw [List.size_toArray]
      exact (List.getElem?_eq_some_iff.mp hu).1
    refine wpAny_pyNext_enum_itemC (fp := [it, a]) (Draws.tuple (A := X.A.in1) (show X.A.in1.handled = none from I.ok.hd hc) it a nai vals.toArray) hen ⟨hti, pT⟩ hi hdf (by simp [hdf, nea]) fun y h' tks hP ho hit' hT hgrow hkeep => ?_
    have hy : y = u := by
      have hu' : vals.toArray[i]? = some u := by simpa using hu
      rw [hu'] at hP
      exact (Option.some.inj hP).symm
    subst hy
    refine ⟨_, rfl, wpAny_letOwnedTupleGo_enum (s := { s with heap := h', toks := tks + 1 }) ho fun h'' he' same => ?_⟩
    have atT : h''.get? s.heap.objs.size = some { cls := .type "tuple", data := .seq #[.int i tks, y] } := (same.2 _ (Nat.ne_of_gt ltE)).trans hT
    have fresh : ObjOk X.prog X.w (upd H s.heap.objs.size (.tup [.int (i : Nat), x])) h'' s.heap.objs.size (.tup [.int (i : Nat), x]) :=
      ⟨by show 2 ≤ sizeLine; decide, [.int i tks, y], .cons ⟨_, rfl⟩ (.cons rel .nil), ⟨_, atT, rfl, _, rfl⟩⟩
    have I1 : Inv X pins σ (upd H s.heap.objs.size (.tup [.int (i : Nat), x])) { s with heap := h'', toks := tks + 1 } :=
      I.turnedNew (ch := [e, it]) (fun b ob hb q => (same.2 b (fun z => hb (by simp [z]))).trans (hkeep b ob (fun z => hb (by simp [z])) (fun z => hb (by simp [z])) q)) hfree (Nat.le_refl _) fresh
    refine ⟨.ref s.heap.objs.size, _, I1, rfl, ⟨_, x, rfl, I.hok.fresh (Nat.le_refl _), rfl, fun ys hy => by rw [I.tuple_inj hy hsq]; exact hxi⟩, ⟨⟨y, ?_⟩, hit'.1.at fun o q => (same.2 it (Ne.symm hdf)).trans q, hdf⟩, fun b hb => ?_⟩
    · have e1 : ((i + 1 : Nat) : Int) = (i : Int) + 1 := by omega
      rw [e1]; exact he'
    · have hb' : b < s.heap.objs.size := by
        have e' : b = e ∨ b = it := by simpa using hb
        rcases e' with z | z
        · rw [z]; exact ltE
        · rw [z]; exact ltI
      rw [upd_ne (Nat.ne_of_lt hb')]
      exact (hfree b hb).1
  done := by
    intro X hP hw hK hc i pins s σ H E I hfree pos_ hgo
    subst hP hw hK
    obtain ⟨⟨prev, hen⟩, hti, hdf⟩ := pos_
    obtain ⟨xs, hsq, hxi⟩ := hgo
    obtain ⟨vals, rvs, p, szs⟩ := I.tuple hsq
    obtain ⟨f0, f1, f2, f3, f4, f5⟩ := hfree it (by simp)
    have hl := rvs.length
    have pT : s.heap.IsTuple a vals.toArray := p
    have done : ∀ (n : Nat), vals.toArray.size ≤ n → s.heap.IsTupleIter it a n → wpAny (model X.prog X.w) X.A (pyNext (.ref e)) (fun r s' => r = none ∧ Inv X pins σ H s') E s := fun n hn hi => by
      have hT : s.TypeIs (.ref e) "enumerate" := ⟨_, hen, rfl⟩
      unfold pyNext
      refine wpAny_bind (wpAny_attempt (wpAny_callSpecial?_slot (name := Str.ofString "__next__") hT F.slot_enumerate_next
        (wpAny_call_entry F.slot_enumerate_next hT F.entry_enumerate_next ?_ (F.args_enumerate_next_1 _))))
      show wpAny _ _ (field (.ref e) 2 >>= _) _ _ _
      refine wpAny_bind (wpAny_field hen rfl (x := .ref it) rfl ?_)
      refine wpAny_bind (wpAny_nextOf_tuple_end (I.ok.hd hc) hi pT (Array.getElem?_eq_none hn) fun h' x he' hx' => ?_)
      obtain ⟨o, ho, hcs⟩ := hx'
      refine wpAny_bind (wpAny_isInstance (T := "StopIteration") (b := true) ⟨o, ho, hcs⟩ isSubtype_stop ?_)
      exact wpAny_pure ⟨rfl, I.turned (t' := s.toks) (fun b o hb q => he' b o hb q) f0 f1 f3 f4 f5⟩
    exact done i (by simp; omega) hti
  self := fun A i s Q E pos_ h => let ⟨⟨_, hen⟩, _⟩ := pos_; wpAny_pyIter_enum hen h
def iEnumT (K : PySem.W.Frag) (ta : TA) : TI := fun σ H R => ta σ H fun vs H1 => ∃ a xs, vs = [.ref a] ∧ SqT K H1 a xs ∧ R (IteT K a) H1
theorem pi_enumT {X : Cx} {e : Expr} {ta : TA} {p pos tpos : Pos} {elts : List Expr} {kk : Nat} (hgo : Gl X "enumerate") (hm : X.mg "enumerate" = none) (ha : PA X [e] ta) (hs : starEach [e] X.env = [(false, eval e X.env)] := by rfl) :
    PI X (.Tuple elts kk tpos) (.Call (.Name "enumerate" p) [e] [] pos) (iEnumT X.K ta) := by
  refine ⟨fun pins s σ H R I h => ?_⟩
  refine Call_ (ld_blt I hgo hm boot_enumerate (PyProof.Rows.callWith_type1 (thn (ha.run pos pins s σ H _ I h) fun us s1 ⟨vs, H1, I1, r1, one⟩ => ?_) hs rfl))
  obtain ⟨a, xs, ex, hsq, q⟩ := one
  subst ex
  cases r1 with
  | cons r rr =>
    cases rr
    cases r
    obtain ⟨vals, rvs, p', szs⟩ := I1.tuple hsq
    refine ls_enum_begins (begins_tuple a vals.toArray) p' fun h' hen hti hgrow hkeep => wpAny_pyIter_enum hen ?_
    have I2 : Inv X pins σ H1 { s1 with heap := h' } := I1.kept (t' := s1.toks) hkeep
    refine ⟨s1.heap.objs.size + 1, [s1.heap.objs.size + 1, s1.heap.objs.size], _, _, H1, rfl, I2, turn_enumT a (s1.heap.objs.size + 1) s1.heap.objs.size, ⟨⟨.none, hen⟩, ⟨_, hti, rfl, rfl⟩, Nat.succ_ne_self _⟩, fun b hb => ?_, q⟩
    have e' : b = s1.heap.objs.size + 1 ∨ b = s1.heap.objs.size := by simpa using hb
    have above : s1.heap.objs.size ≤ b := by
      rcases e' with z | z
      · rw [z]; exact Nat.le_add_right _ _
      · rw [z]; exact Nat.le_refl _
    exact I1.fpOk above (I1.hok.fresh above)
theorem walk_enumT {K : PySem.W.Frag} {a : Addr} {xs : List V} : Walk (IteT K a) xs.length (fun H => SqT K H a xs) (YPair (fun i => some (.int (i : Nat))) (fun i => xs[i]?)) := by
  refine ⟨fun i _ hi q => ⟨xs, xs[i], q, by simp [hi]⟩, fun _ q => ⟨xs, q, Nat.le_refl _⟩, fun i H v H' _ q y => ?_⟩
  obtain ⟨T, x, h1, h2, h3, h4⟩ := y
  exact ⟨T, .int (i : Nat), x, h1, h2, h3, rfl, h4 xs q⟩
end Ls
end
section
set_option Elab.async false
set_option linter.all false
set_option maxRecDepth 100000
set_option maxHeartbeats 4000000
namespace Ls
open PySem PySem.Spec PyProof.Rows L2 LamX
/-! ### a lambda as a value that is kept -/
abbrev lamObj (X : Cx) (ar : Arguments) (b : PySem.Expr) (sc : Scope) (pm : Value) (c' : Addr) (ctv : Value) : Obj :=
  PySem.W.kla_obj "<lambda>" (X.env.qual ++ "<lambda>") ar b sc (cloFrom X.env.cells sc.names []) pm c' ctv
/-- at f stands the lambda, its code object at c' -/
def LamO (X : Cx) (f c' : Addr) (ar : Arguments) (b : PySem.Expr) (sc : Scope) : HO := .ext fun h => ∃ pm ctv, h.get? f = some (lamObj X ar b sc pm c' ctv)
theorem lamO_ne {X : Cx} {f c' : Addr} {ar : Arguments} {b : PySem.Expr} {sc : Scope} (ps : Array Value) : LamO X f c' ar b sc ≠ .tbl ps := fun z => by
  unfold LamO at z
  cases z
section
variable {X : Cx} {pins : List (Addr × Obj)} {σ : L2.St} {H : Hp} {s : Shared}
/-- the newest object of the heap, a lambda, is tracked -/
theorem lam_tracked {h0 : Heap} {tk : Nat} {c' : Addr} {ar : Arguments} {b : PySem.Expr} {sc : Scope} {pm ctv : Value} {H1 : Hp} (I : Inv X pins σ H s) (le : s.heap.objs.size ≤ h0.objs.size)
    (J : Inv X pins σ H1 { s with heap := h0.push (lamObj X ar b sc pm c' ctv), toks := tk }) (hn : H1 h0.objs.size = none) :
    Inv X pins σ (upd H1 h0.objs.size (LamO X h0.objs.size c' ar b sc)) { s with heap := h0.push (lamObj X ar b sc pm c' ctv), toks := tk } := by
  have old : ∀ {g : Heap} {o : Obj}, g.get? h0.objs.size = some o → g.objs.size ≤ h0.objs.size → False := fun e z => Nat.lt_irrefl _ (Nat.lt_of_lt_of_le (Heap.lt_size e) z)
  have here : (h0.push (lamObj X ar b sc pm c' ctv)).get? h0.objs.size = some (lamObj X ar b sc pm c' ctv) := Heap.get?_push_size _ rfl
  refine inv_track J hn ?_ (Nat.ne_of_gt (Nat.lt_of_lt_of_le I.lt le)) (fun x c e z => ?_) (fun p hp z => ?_) ⟨⟨pm, ctv, here⟩, ⟨_, here⟩, fun h1 h2 ⟨a, b, e⟩ st => ⟨a, b, st _ e⟩⟩
  · cases q : X.s_0.heap.get? h0.objs.size with
    | none => rfl
    | some o => exact (old q (Nat.le_trans I.sz le)).elim
  · obtain ⟨v, o, ho, _⟩ := I.cell x c e
    rw [z] at ho
    exact old ho le
  · obtain ⟨q, _⟩ := I.pin p hp
    rw [z] at q
    exact old q le
theorem pe_lamV {T : List (Addr × Str)} {c P : Addr} {ar : Arguments} {b : PySem.Expr} {sc : Scope} {pos : Pos} (TB : TabB X.base X.mg c P) (hcode : X.env.code = .ref c) (hm : (P, X.env.qual ++ "<lambda>") ∈ T)
    (hu : ∀ p ∈ T, p.1 = P → p.2 = X.env.qual ++ "<lambda>") (hdef : defaultsOf ar X.env = ([], [])) (L : LamS X.env.scope sc) :
    PE X (.Lambda ar b sc pos) (fun σ H Q => Tabs T H ∧ ∀ (f c' : Addr) (H' : Hp), ExtN H H' → Tabs T H' → H f = none → H' f = some (LamO X f c' ar b sc) → H' c' = some (CodeO c' (X.env.qual ++ "<lambda>")) → Q (.ref f) H') := by
  refine ⟨fun pins s σ H Q I ⟨hT, h⟩ => ?_⟩
  have free := L.has I.ok
  have bP : s.heap.BuiltinsAt X.mg P := TB.bm.keeps I.bk
  obtain ⟨ps, hP, ht, ha⟩ := hT _ hm
  have oP : s.heap.get? P = some { cls := .none, data := .fields ps } := I.hok P _ hP
  refine PySem.W.kla_eval hdef ?_
  cases found : codeAmong pos ps.toList with
  | some cv =>
    obtain ⟨c', rfl, hco⟩ := ha pos cv found
    refine PySem.W.kla_makeFunctionHit (mg := X.mg) (c := c) (P := P) (ps := ps) (closure_ok free) I.ok.glob (I.mod.glob.keeps I.bk) hcode (TB.code.keeps I.bk) oP ht found bP fun ctv h' tk keep le => ?_
    have n : H h'.objs.size = none := I.hok.fresh le
    have J : Inv X pins σ H { s with heap := h'.push (lamObj X ar b sc ((X.mg "__name__").getD .none) c' ctv), toks := tk } := I.kept fun b o e => Heap.get?_push_of_some _ (keep b o e)
    have e0 : ∀ d o, H d = some o → upd H h'.objs.size (LamO X h'.objs.size c' ar b sc) d = some o := fun d o e => by
      rw [upd_ne (ne_of_none e n)]
      exact e
    exact ⟨.ref h'.objs.size, _, lam_tracked I le J n, rfl, h _ c' _ (ExtN.of e0) (hT.ext e0) n upd_same (e0 _ _ hco)⟩
  | none =>
    refine PySem.W.kla_makeFunction (mg := X.mg) (c := c) (P := P) (ps := ps) (closure_ok free) I.ok.glob (I.mod.glob.keeps I.bk) hcode (TB.code.keeps I.bk) oP ht found TB.gP bP fun c' ctv h' tk keep ge lt rec tab => ?_
    obtain ⟨_, oc, vs, t, e2, hoc, hd, hv⟩ := rec
    cases e2
    have le : s.heap.objs.size ≤ h'.objs.size := Nat.le_trans ge (Nat.le_of_lt lt)
    have nc : H c' = none := I.hok.fresh ge
    have n : H h'.objs.size = none := I.hok.fresh le
    have nf : h'.objs.size ≠ c' := Nat.ne_of_gt lt
    have nP : h'.objs.size ≠ P := Nat.ne_of_gt (Nat.lt_of_lt_of_le (Heap.lt_size oP) le)
    have cP : P ≠ c' := ne_of_none hP nc
    have J := inv_table (t' := tk) (q := X.env.qual ++ "<lambda>") (more := #[rawInt pos.line, rawInt pos.col, .ref c']) (h' := h'.push (lamObj X ar b sc ((X.mg "__name__").getD .none) c' ctv)) I hP
      (fun b o hb e => Heap.get?_push_of_some _ (keep b o hb e)) (Heap.get?_push_of_some _ tab) ge ⟨oc, vs, t, Heap.get?_push_of_some _ hoc, hd, hv⟩
    have n1 : upd (upd H P (.tbl (ps ++ #[rawInt pos.line, rawInt pos.col, .ref c']))) c' (CodeO c' (X.env.qual ++ "<lambda>")) h'.objs.size = none := by rw [upd_ne nf, upd_ne nP, n]
    have J2 := lam_tracked I le J n1
    generalize hH2 : upd (upd (upd H P (.tbl (ps ++ #[rawInt pos.line, rawInt pos.col, .ref c']))) c' (CodeO c' (X.env.qual ++ "<lambda>"))) h'.objs.size (LamO X h'.objs.size c' ar b sc) = H2 at J2
    have atP : H2 P = some (.tbl (ps ++ #[rawInt pos.line, rawInt pos.col, .ref c'])) := by rw [← hH2, upd_ne (Ne.symm nP), upd_ne cP, upd_same]
    have atc : H2 c' = some (CodeO c' (X.env.qual ++ "<lambda>")) := by rw [← hH2, upd_ne (Ne.symm nf), upd_same]
    have off : ∀ d, d ≠ h'.objs.size → d ≠ c' → d ≠ P → H2 d = H d := fun d a b c => by rw [← hH2, upd_ne a, upd_ne b, upd_ne c]
    have grow : ExtN H H2 := fun d o e nt => by
      rw [off d (ne_of_none e n) (ne_of_none e nc) (fun z => ?_)]
      · exact e
      · rw [z, hP] at e
        exact nt ps (Option.some.inj e).symm
    have tabs : Tabs T H2 := fun p hp => by
      by_cases hb : p.1 = P
      · rw [hu p hp hb, hb]
        have eL : (ps ++ #[rawInt pos.line, rawInt pos.col, .ref c']).toList = ps.toList ++ [rawInt pos.line, rawInt pos.col, .ref c'] := by simp
        refine ⟨_, atP, by rw [eL]; exact PySem.TriplesOk_snoc _ _ _ _ ht, fun p' cv q => ?_⟩
        rw [eL] at q
        rcases among_app _ ht q with z | z
        · obtain ⟨d, e1, e2⟩ := ha p' cv z
          exact ⟨d, e1, grow _ _ e2 codeO_ne⟩
        · exact ⟨c', z, atc⟩
      · obtain ⟨qs, a1, a2, a3⟩ := hT p hp
        refine ⟨qs, (off _ (ne_of_none a1 n) (ne_of_none a1 nc) hb).trans a1, a2, fun p' cv q => ?_⟩
        obtain ⟨d, e1, e2⟩ := a3 p' cv q
        exact ⟨d, e1, grow _ _ e2 codeO_ne⟩
    exact ⟨.ref h'.objs.size, _, J2, rfl, h _ c' H2 grow tabs n (by rw [← hH2]; exact upd_same) atc⟩
/-- v(): a kept lambda under a local name, in the def that made it -/
theorem pe_callV {ar : Arguments} {b : PySem.Expr} {sc : Scope} {k i : Nat} {a : Str} {E : XK} {tb : TE} {p1 p2 : Pos} (L : LamS X.env.scope sc)
    (hbind : ∀ (q : Str) (cl : List (Str × Addr)) (pm cv ctv : Value), bindArgs (PySem.W.kla_fn "<lambda>" q ar b sc cl pm cv ctv) ⟨[], []⟩ = pure [])
    (hx : Passes (L2.CX X.prog X.w) X E) (hr : Room (k + 1) X.A)
    (hbody : ∀ (A : Around) (outer : List Env) (s : Shared) (H : Hp) (f c' : Addr), Room k (A.deeper (lamEnv X sc s.heap.objs.size f c')) → PE (lamCx X A outer s H E sc f c') b tb)
    (hN : X.N[i]? = some a) (hv : Vis X.env.scope a) (hd : (a == ("__debug__" : Str)) = false := by decide) (hcd : (a == ("__classdict__" : Str)) = false := by decide) :
    PE X (.Call (.Name a p1) [] [] p2) (fun σ H Q => ∃ f c', σ[i]? = some (some (.ref f)) ∧ H f = some (LamO X f c' ar b sc) ∧ H c' = some (CodeO c' (X.env.qual ++ "<lambda>")) ∧ tb σ H Q) := by
  refine ⟨fun pins s σ H Q I ⟨f, c', hs, hf, hc, ht⟩ => ?_⟩
  refine wpAny_Call_Name_kw (thn ((pe_var (pos := p1) (i := i) hN hv hd hcd).run pins s σ H (fun v H1 => v = .ref f ∧ H1 = H) I ⟨.ref f, hs, rfl, rfl⟩) fun u s1 ⟨v, H1, I1, r1, ev, eH⟩ => ?_)
  subst ev eH
  obtain rfl : u = Value.ref f := r1
  obtain ⟨⟨pm, ctv, of1⟩, _, _⟩ := I1.hok f _ hf
  obtain ⟨⟨oc, vs, t, hoc, hdc, hvc⟩, _, _⟩ := I1.hok c' _ hc
  refine PySem.W.callWith_F0 ⟨_, _, _, _, of1⟩ ?_
  have rc : codeAny (model X.prog X.w) X.A (.call (.ref f) ⟨[], []⟩) (CR (L2.CX X.prog X.w) X.stack X.prog X.w H1 s1 Q E) s1 := by
    refine PySem.W.kla_callFunE hr.depth of1 rfl L.co L.gen rfl ⟨c', oc, vs, t, rfl, hoc, hdc, hvc⟩ ?_
    rw [hbind]
    refine wpAny_pure (wpAny_newFunctionEnv (fun y hy => (L.own y hy).2) (fun y hy => absurd hy (by simp)) (fun h₁ hns hsb => ⟨I1.nolimit.fresh _ hsb, ?_⟩) L.kind)
    show codeAny _ _ (.expr b (lamEnv X sc s1.heap.objs.size f c')) _ _
    have J := lam_start2 (E := E) (f := f) (c' := c') (tk := s1.toks + ([] : List (Str × Value)).length) I1 L I1.env0 hr.hd (Un.kept fun b o e => e) hns fun b o e => hsb.extBut b o (Nat.ne_of_lt (Heap.lt_size e)) (Heap.get?_push_of_some _ e)
    refine PySem.W.kla_codeExpr (wpAny_mono ((hbody _ _ s1 H1 _ _ (hr.deeper _)).run [] _ _ H1 Q J ht) (fun v s' hq => ?_) fun e s' hq => hq)
    obtain ⟨w', H', J', rv, q⟩ := hq
    exact ⟨w', H', J'.os, J'.bare, J'.base, J'.hok, rv, q⟩
  refine wpAny_call (codeAny_mono rc fun r s' hq => ?_)
  match r, hq with
  | .error e, hq => exact hx pins σ H1 s1 e s' I1 hq
  | .ok (.ret u), hq => exact I1.after hq
/-- one promise or another -/
theorem pe_or {e : PySem.Expr} {t1 t2 : TE} (h1 : PE X e t1) (h2 : PE X e t2) : PE X e (fun σ H Q => t1 σ H Q ∨ t2 σ H Q) := ⟨fun pins s σ H Q I h => h.elim (h1.run pins s σ H Q I) (h2.run pins s σ H Q I)⟩
end
/-- a def whose walk must know its code object -/
theorem okC {P : Program} {w : World} {K : PySem.W.Frag} {mg : Str → Option Value} {base : Heap} {CX : CXT} {x qual : Str} {st : Stmt} {f : Addr} {fd : FuncData} {N ps : List Str} {k : Nat} {sp : Sp} (F : Fun K x qual st f fd) (S : FnScope N ps (defScope st)) (len : ∀ vs H Q E, sp vs H Q E → vs.length = ps.length)
    (walk : ∀ (A : Around) (outer : List Env) (s : Shared) (H : Hp) (vs : List V) (Q : VK) (E : XK), Room k (A.deeper (envOfC qual (defScope st) s.heap.objs.size f fd.code)) → sp vs H Q E →
      ∃ t, PSs (cxOf CX P w K mg base N qual (defScope st) f fd.code A outer s H E) (defBody st) t ∧ t { nx := fun _ H' => Q .non H', rt := Q } (start N vs) H) : FnOk P w K mg base CX (k + 1) f fd ps sp := by
  obtain ⟨_, _, _, _, _, _, _, _, _, rfl, lk, hcd⟩ := F.ex
  exact fn_of lk hcd S len walk
end Ls
end
section
set_option Elab.async false
set_option linter.all false
set_option maxRecDepth 100000
set_option maxHeartbeats 4000000
namespace Ls
open PySem PySem.Spec PyProof.Rows L2
/-! ### x in t, x not in t: t a tuple of plain data, x plain data of any kind -/
def rInTV (neg : Bool) : R2 := fun x y H Q => ∃ d ds, TV H x d ∧ TV H y (.tuple ds) ∧ PyData.canLayAll0 ds = true ∧ d.canLay0 = true ∧ PyData.depthAll ds ≤ 50 ∧ Q (.bl (if neg then !ds.any fun z => PyData.eqv z d else ds.any fun z => PyData.eqv z d)) H
section
variable {X : Cx} {k : Nat}
theorem room_in {A : Around} {ds : List PyData} {d : PyData} (hr : Room k A) (h : PyData.depthAll ds ≤ 50) : A.units + 1 + min (PyData.depthAll ds) d.depth < cLine := by
  have h1 := Nat.min_le_left (PyData.depthAll ds) d.depth
  have h2 := hr.units
  omega
theorem no_sys {pins : List (Addr × Obj)} {σ : L2.St} {H : Hp} {s : Shared} (hb : (X.base.get? sysModules).isSome = true) (I : Inv X pins σ H s) : H sysModules = none := by
  obtain ⟨o, e⟩ := Option.isSome_iff_exists.mp hb
  exact (I.bs _ _ e).2
theorem op_inTV (hb : (X.base.get? sysModules).isSome = true) (hr : Room k X.A) : OpR X (compareOp .In) (rInTV false) := by
  intro pins s σ H x y v u Q I rx ry ⟨d, ds, hd, he, h1, h2, h3, q⟩
  obtain ⟨as, r1, _⟩ := reads_of I (no_sys hb I) hd rx
  obtain ⟨bs, r2, _⟩ := reads_of I (no_sys hb I) he ry
  exact SeqAt.in_tuple_reads r2 r1 h1 h2 (room_in hr h3) ⟨.bl _, H, I, rfl, q⟩
theorem op_notInTV (hb : (X.base.get? sysModules).isSome = true) (hr : Room k X.A) : OpR X (compareOp .NotIn) (rInTV true) := by
  intro pins s σ H x y v u Q I rx ry ⟨d, ds, hd, he, h1, h2, h3, q⟩
  obtain ⟨as, r1, _⟩ := reads_of I (no_sys hb I) hd rx
  obtain ⟨bs, r2, _⟩ := reads_of I (no_sys hb I) he ry
  exact SeqAt.notIn_tuple_reads r2 r1 h1 h2 (room_in hr h3) ⟨.bl _, H, I, rfl, q⟩
end
theorem depth_strs : ∀ us : List Str, PyData.depthAll (us.map .str) ≤ 1
  | [] => by simp [PyData.depthAll]
  | u :: r => by
    have h := depth_strs r
    simp only [List.map_cons, PyData.depthAll, PyData.depth]
    omega
end Ls
end
section
set_option Elab.async false
set_option autoImplicit false
set_option linter.all false
set_option maxRecDepth 100000
set_option maxHeartbeats 4000000
namespace Ls
open PySem PySem.Spec PyProof.Rows L2
/-! ### cuts of lists -/
theorem sIx_pos {n d : Nat} {i : Int} (h : 0 ≤ i) : HT.sIx n d (some i) = min i.toNat n := by
  show (if i < 0 then (i + (n : Int)).toNat else min i.toNat n) = _
  rw [if_neg (by omega)]
theorem cutV_to (xs : List V) {i : Int} (h : 0 ≤ i) : cutV xs none (some i) = xs.take i.toNat := by
  unfold cutV
  rw [sIx_pos h, HT.sIx_none, List.drop_zero, Nat.sub_zero]
  rcases Nat.le_total i.toNat xs.length with h1 | h1
  · rw [Nat.min_eq_left h1]
  · rw [Nat.min_eq_right h1, List.take_of_length_le (Nat.le_refl _), List.take_of_length_le h1]
theorem cutV_from (xs : List V) {i : Int} (h : 0 ≤ i) : cutV xs (some i) none = xs.drop i.toNat := by
  unfold cutV
  rw [sIx_pos h, HT.sIx_none]
  rcases Nat.le_total i.toNat xs.length with h1 | h1
  · rw [Nat.min_eq_left h1]
    exact List.take_of_length_le (by rw [List.length_drop]; omega)
  · rw [Nat.min_eq_right h1, List.drop_of_length_le (Nat.le_refl _), List.drop_of_length_le h1]
    simp
theorem cutM_to (ws : List Str) {i : Int} (h : 0 ≤ i) : cutV (ws.map V.str) none (some i) = (ws.take i.toNat).map V.str := by rw [cutV_to _ h, List.map_take]
theorem cutM_from (ws : List Str) {i : Int} (h : 0 ≤ i) : cutV (ws.map V.str) (some i) none = (ws.drop i.toNat).map V.str := by rw [cutV_from _ h, List.map_drop]
end Ls
end
section
set_option Elab.async false
set_option autoImplicit false
set_option linter.all false
set_option maxRecDepth 100000
set_option maxHeartbeats 4000000
namespace Ls
open PySem PySem.Spec PyProof.Rows L2
/-! ### lists of plain data: new ones, joined, cut, put in between -/
mutual
/-- all of it is new -/
theorem tv_new {S : List Addr} {H H' : Hp} (h : ∀ b ∈ S, H b ≠ none) : ∀ {v : V} {d : PyData}, TV (nw H H') v d → TV (vis S H') v d
  | _, _, .non => .non
  | _, _, .bl b => .bl b
  | _, _, .int i => .int i
  | _, _, .str x => .str x
  | _, _, .lst q t => .lst (vis_new h q fun _ z => by cases z) (tvs_new h t)
  | _, _, .tup q t => .tup (vis_new h q fun _ z => by cases z) (tvs_new h t)
  | _, _, .dct q t1 t2 => .dct (vis_new h q fun _ z => by cases z) (tvs_new h t1) (tvs_new h t2)
theorem tvs_new {S : List Addr} {H H' : Hp} (h : ∀ b ∈ S, H b ≠ none) : ∀ {vs : List V} {ds : List PyData}, TVs (nw H H') vs ds → TVs (vis S H') vs ds
  | _, _, .nil => .nil
  | _, _, .cons t ts => .cons (tv_new h t) (tvs_new h ts)
end
theorem TVs.app {H : Hp} : ∀ {xs ys : List V} {ds es : List PyData}, TVs H xs ds → TVs H ys es → TVs H (xs ++ ys) (ds ++ es)
  | _, _, _, _, .nil, k => k
  | _, _, _, _, .cons h hs, k => .cons h (TVs.app hs k)
theorem TVs.cut {H : Hp} : ∀ {xs : List V} {ds : List PyData} (i : Nat), TVs H xs ds → TVs H (xs.take i) (ds.take i)
  | _, _, _, .nil => by simp only [List.take_nil]; exact .nil
  | _, _, 0, .cons h hs => .nil
  | _, _, i + 1, .cons h hs => .cons h (TVs.cut i hs)
theorem TVs.from {H : Hp} : ∀ {xs : List V} {ds : List PyData} (i : Nat), TVs H xs ds → TVs H (xs.drop i) (ds.drop i)
  | _, _, _, .nil => by simp only [List.drop_nil]; exact .nil
  | _, _, 0, .cons h hs => .cons h hs
  | _, _, i + 1, .cons h hs => TVs.from i hs
theorem TVs.put {H : Hp} {xs : List V} {ds : List PyData} {v : V} {d : PyData} (i : Nat) (h : TVs H xs ds) (hv : TV H v d) : TVs H (xs.take i ++ [v] ++ xs.drop i) (ds.take i ++ [d] ++ ds.drop i) :=
  ((h.cut i).app (.cons hv .nil)).app (h.from i)
theorem TVs.mem {H : Hp} : ∀ {xs : List V} {ds : List PyData} {v : V}, TVs H xs ds → v ∈ xs → ∃ d, d ∈ ds ∧ TV H v d
  | _, _, _, .nil, h => by cases h
  | _, _, v, .cons (d := d) h hs, hm => by
    rcases List.mem_cons.mp hm with rfl | hm
    · exact ⟨d, by simp, h⟩
    · obtain ⟨d', h1, h2⟩ := TVs.mem hs hm
      exact ⟨d', by simp [h1], h2⟩
theorem put_len {α : Type} (xs : List α) (y : α) (i : Nat) : (xs.take i ++ [y] ++ xs.drop i).length = xs.length + 1 := by
  rw [List.length_append, List.length_append, List.length_take, List.length_drop]
  simp
  omega
theorem put_mem {α : Type} {xs : List α} {y z : α} {i : Nat} (h : z ∈ xs.take i ++ [y] ++ xs.drop i) : z ∈ xs ∨ z = y := by
  rcases List.mem_append.mp h with h | h
  · rcases List.mem_append.mp h with h | h
    · exact .inl (List.mem_of_mem_take h)
    · exact .inr (by simpa using h)
  · exact .inl (List.mem_of_mem_drop h)
/-- a place out of sight may be written -/
theorem vis_upd {S : List Addr} {H : Hp} {a : Addr} {o : HO} (h : a ∈ S) : vis S (upd H a o) = vis S H := by
  funext b
  unfold vis
  by_cases hb : b ∈ S
  · rw [if_pos hb, if_pos hb]
  · rw [if_neg hb, if_neg hb, upd_ne fun z => hb (by rw [z]; exact h)]
/-- a place that is not yet there may be put out of sight -/
theorem vis_add {S : List Addr} {H : Hp} {a : Addr} (h : H a = none) : Ext (vis S H) (vis (S ++ [a]) H) := fun b o e => by
  obtain ⟨h1, h2, h3⟩ := vis_some e
  refine vis_at (fun z => ?_) h2 h3
  rcases List.mem_append.mp z with z | z
  · exact h1 z
  · have : b = a := by simpa using z
    rw [this, h] at h2
    cases h2
end Ls
end
section
set_option Elab.async false
set_option autoImplicit false
set_option linter.all false
set_option maxRecDepth 100000
set_option maxHeartbeats 4000000
namespace Ls
open PySem PySem.Spec PyProof.Rows L2

/-! ### x op y, x an instance whose class has the text's own method, y of the same class or of a builtin's type -/
namespace OB
open PySem.W
/-- what a builtin's type has for an operator -/
structure Slots (T nm : String) : Prop where
  fl : ∃ b, fillsNumberSlot (.type T) nm = pure b
  lk : ∃ r, typeLookup (.type T) (dunderR nm) = pure r
theorem slots_of {T nm : String} {f r : Option Value} (hf : typeLookup (.type T) (dunder nm) = pure f) (hr : typeLookup (.type T) (dunderR nm) = pure r) : Slots T nm := ⟨⟨(f.isSome && !isSeqSlot f) || (r.isSome && !isSeqSlot r), by
  unfold fillsNumberSlot
  simp only [hf, hr, pure_bind]⟩, r, hr⟩
/-- the class's own turned form, or none -/
def Turn (K : Frag) (C : Addr) (nm : String) : Prop := ∃ ro, findIn K (.ref C) (dunderR nm) = some ro ∧ (ro = none ∨ ∃ g, ro = some (.ref g))
section
variable {prog : Program} {w : World} {A : Around} {E : Value → Shared → Prop} {s : Shared} {K : Frag} {x C f : Addr} {ox : Obj} {od : Option Obj} {b : Value}
theorem looks_inPy {M : Model} {h : Heap} {nm : String} (X : K.In h) (h1 : findIn K (.ref C) (dunder nm) = some (some (.ref f))) (h2 : Turn K C nm) : Looks M h (numberSlotInPython (.ref C) nm) true := by
  obtain ⟨ro, h2, h3⟩ := h2
  intro A Q E s k q
  unfold numberSlotInPython
  refine wpAny_bind (looks_findIn X h1 A _ E s k ?_)
  refine wpAny_bind (wpAny_pure ?_)
  refine wpAny_bind (looks_findIn X h2 A _ E s k ?_)
  rcases h3 with rfl | ⟨g, rfl⟩
  · exact wpAny_bind (wpAny_pure (wpAny_pure q))
  · exact wpAny_bind (wpAny_pure (wpAny_pure q))
theorem binop1_F {nm T : String} {Q : Value → Shared → Prop} {R : Option Value → Shared → Prop} (X : K.In s.heap) (I : InstAt s.heap x ox C od) (hb : Looks (model prog w) s.heap (typeOf b) (.type T)) (hc : selfFirst K C = true)
    (hs : findIn K (.ref C) (dunder nm) = some (some (.ref f))) (ht : Turn K C nm) (hf : isFn K (.ref f) = true) (hT : Slots T nm) (hsub : subIn K (.type T) (.ref C) = some false)
    (h : wpAny (model prog w) A (call (.ref f) [.ref x, b]) (PySem.W.CmpBack Q) E s) (hR : ∀ v s', Q v s' → R (some v) s') : wpAny (model prog w) A (binaryOp1 nm (.ref x) b) R E s := by
  obtain ⟨cd, hcd, hm⟩ := any_some hc
  obtain ⟨rest, hm⟩ : ∃ rest, cd.mro = .ref C :: rest := by
    cases q : cd.mro with
    | nil => rw [q] at hm; cases hm
    | cons a r => rw [q] at hm; exact ⟨r, by rw [List.head?_cons] at hm; cases (beq_iff_eq.mp hm); rfl⟩
  obtain ⟨⟨fb, hfl⟩, rb, hlk⟩ := hT
  have fin : ∀ {R : Option Value → Shared → Prop}, (∀ v s', Q v s' → R (some v) s') → wpAny (model prog w) A (tryMethod (.ref x) (dunder nm) b) R E s := fun {R} hR => by
    unfold tryMethod
    refine wpAny_bind (special_fn X I hs (beq_iff_eq.mp hf) (wpAny_mono h (fun v s' hv => ?_) fun _ _ e => e))
    cases v <;> first | exact hv.elim | exact wpAny_pure (hR _ _ hv)
  unfold binaryOp1
  refine wpAny_bind (I.type.here (wpAny_bind (hb.here (wpAny_bind ((fills_K X hcd hm hs).here ?_)))))
  rw [if_neg (by simp)]
  refine wpAny_bind (wpAny_of_eq hfl ?_)
  cases fb with
  | false =>
    simp only [Bool.and_false, Bool.false_eq_true, if_false, Bool.false_and]
    refine wpAny_bind (wpAny_pure ?_)
    simp only [Bool.false_eq_true, if_false]
    refine wpAny_bind (m := tryMethod (.ref x) _ b) (fin fun v s' q => ?_)
    exact wpAny_pure (hR _ _ q)
  | true =>
    simp only [Bool.and_self, if_true, Bool.not_false]
    refine wpAny_bind ((looks_subIn X hsub).here ?_)
    simp only [Bool.false_eq_true, if_false, Bool.not_false, Bool.and_self, if_true]
    refine wpAny_bind ((looks_inPy X hs ht).here ?_)
    simp only [if_true]
    refine wpAny_bind (wpAny_pure ?_)
    simp only [Bool.not_false, if_true]
    refine wpAny_bind (wpAny_of_eq hlk ?_)
    refine wpAny_bind (m := tryMethod (.ref x) _ b) (fin fun v s' q => ?_)
    exact wpAny_pure (hR _ _ q)
theorem binop_F {op : Operator} {T : String} {Q : Value → Shared → Prop} (X : K.In s.heap) (I : InstAt s.heap x ox C od) (hb : Looks (model prog w) s.heap (typeOf b) (.type T)) (hc : selfFirst K C = true)
    (hs : findIn K (.ref C) (dunder op.info.2) = some (some (.ref f))) (ht : Turn K C op.info.2) (hf : isFn K (.ref f) = true) (hT : Slots T op.info.2) (hsub : subIn K (.type T) (.ref C) = some false)
    (h : wpAny (model prog w) A (call (.ref f) [.ref x, b]) (PySem.W.CmpBack Q) E s) : wpAny (model prog w) A (binaryOp op (.ref x) b) Q E s := by
  unfold binaryOp
  exact wpAny_holding (wpAny_bind (binop1_F X I hb hc hs ht hf hT hsub h fun v s' q => wpAny_pure q))
theorem binop1_S {nm : String} {Q : Value → Shared → Prop} {R : Option Value → Shared → Prop} (X : K.In s.heap) (I : InstAt s.heap x ox C od) (hb : Looks (model prog w) s.heap (typeOf b) (.ref C)) (hc : selfFirst K C = true)
    (hs : findIn K (.ref C) (dunder nm) = some (some (.ref f))) (hf : isFn K (.ref f) = true)
    (h : wpAny (model prog w) A (call (.ref f) [.ref x, b]) (PySem.W.CmpBack Q) E s) (hR : ∀ v s', Q v s' → R (some v) s') : wpAny (model prog w) A (binaryOp1 nm (.ref x) b) R E s := by
  obtain ⟨cd, hcd, hm⟩ := any_some hc
  obtain ⟨rest, hm⟩ : ∃ rest, cd.mro = .ref C :: rest := by
    cases q : cd.mro with
    | nil => rw [q] at hm; cases hm
    | cons a r => rw [q] at hm; exact ⟨r, by rw [List.head?_cons] at hm; cases (beq_iff_eq.mp hm); rfl⟩
  have fin : ∀ {R : Option Value → Shared → Prop}, (∀ v s', Q v s' → R (some v) s') → wpAny (model prog w) A (tryMethod (.ref x) (dunder nm) b) R E s := fun {R} hR => by
    unfold tryMethod
    refine wpAny_bind (special_fn X I hs (beq_iff_eq.mp hf) (wpAny_mono h (fun v s' hv => ?_) fun _ _ e => e))
    cases v <;> first | exact hv.elim | exact wpAny_pure (hR _ _ hv)
  unfold binaryOp1
  refine wpAny_bind (I.type.here (wpAny_bind (hb.here (wpAny_bind ((fills_K X hcd hm hs).here ?_)))))
  simp only [beq_self_eq_true, if_true]
  refine wpAny_bind (wpAny_pure ?_)
  simp only [Bool.and_false, Bool.false_eq_true, if_false, Bool.false_and]
  refine wpAny_bind (wpAny_pure ?_)
  simp only [Bool.false_eq_true, if_false]
  refine wpAny_bind (m := tryMethod (.ref x) _ b) (fin fun v s' q => ?_)
  exact wpAny_pure (hR _ _ q)
/-- the class over object alone, without the form in place -/
structure NoIp (K : Frag) (C : Addr) (nm : String) : Prop where
  mro : (clsIn K C).any (fun cd => cd.mro == [.ref C, .type "object"]) = true
  no : findIn K (.ref C) (dunderI nm) = some none
  ob : typeLookup (.type "object") (dunderI nm) = pure none
theorem looks_noIp {M : Model} {h : Heap} {nm : String} {add : Bool} (X : K.In h) (n : NoIp K C nm) : Looks M h (fillsInplaceSlot (.ref C) nm add) false := by
  obtain ⟨cd, hcd, hm⟩ := any_some n.mro
  have hm : cd.mro = [.ref C, .type "object"] := beq_iff_eq.mp hm
  intro A Q E s k q
  unfold fillsInplaceSlot
  refine wpAny_bind ((looks_clsIn X hcd).andThen (f := fun cd => pure cd.mro) .now A _ E s k ?_)
  rw [hm, List.anyM_cons]
  refine wpAny_bind (wpAny_bind (looks_findIn X n.no A _ E s k ?_))
  refine wpAny_pure ?_
  simp only [Bool.false_eq_true, if_false]
  rw [List.anyM_cons]
  refine wpAny_bind (wpAny_bind (wpAny_of_eq n.ob ?_))
  refine wpAny_pure ?_
  simp only [Bool.false_eq_true, if_false]
  exact wpAny_pure q
end
end OB
/-- what the top says of the class's own method for an operator, at f -/
structure OwnOp (K : PySem.W.Frag) (C f : Addr) (nm : String) : Prop where
  sf : PySem.W.selfFirst K C = true
  at_ : PySem.W.findIn K (.ref C) (dunder nm) = some (some (.ref f))
  fn : PySem.W.isFn K (.ref f) = true
  tn : OB.Turn K C nm
/-- the other one: of the same class, or of a builtin's type -/
def Beside (K : PySem.W.Frag) (C : Addr) (nm : String) (H : Hp) (y : V) : Prop := (∃ b dy gs, y = .ref b ∧ H b = some (.ins C dy gs)) ∨ ∃ T, TyX K H y (.type T) ∧ OB.Slots T nm ∧ PySem.W.subIn K (.type T) (.ref C) = some false
def rBinO (K : PySem.W.Frag) (nm : String) (C f : Addr) (sp : Sp) (E : XK) : R2 := fun x y H Q => ∃ (a dx : Addr) (fs : List (Str × V)), x = .ref a ∧ H a = some (.ins C dx fs) ∧ Beside K C nm H y ∧ sp [x, y] H Q E
theorem relV_back {v : V} {u : Value} {P : Value → Shared → Prop} {s : Shared} (r : RelV v u) (h : P u s) : PySem.W.CmpBack P u s := by
  cases v <;> first | (obtain ⟨t, rfl⟩ := r; exact h) | (cases r; exact h)
section
variable {X : Cx} {CX : CXT} {n : Nat} {f C : Addr} {sp : Sp} {E : XK} {op : Operator}
theorem op_binO (F : FnR X.prog X.w X.K X.mg X.base CX n f sp) (O : OwnOp X.K C f op.info.2) (hr : Room n X.A) (hx : Passes CX X E) : OpR X (binaryOp op) (rBinO X.K op.info.2 C f sp E) := by
  intro pins s σ H x y v u Q I rx ry h
  obtain ⟨a, dx, fs, rfl, ha, hy, q⟩ := h
  cases (show v = Value.ref a from rx)
  obtain ⟨mA, J, _⟩ := ins_get I.hok ha
  obtain ⟨od, J, _⟩ := J.look
  have cl : wpAny (model X.prog X.w) X.A (call (.ref f) [.ref a, u]) (PySem.W.CmpBack (EP X pins σ Q)) X.xe s := by
    have r2 : Vals [V.ref a, y] [Value.ref a, u] := .cons rfl (.cons ry .nil)
    exact thn (wpAny_call (run_fnR F hr hx I r2 q)) fun w' s' ⟨z, H', I', rz, q'⟩ => relV_back rz ⟨z, H', I', rz, q'⟩
  rcases hy with ⟨b, dy, gs, rfl, hb⟩ | ⟨T, hT, hs, hsub⟩
  · cases (show u = Value.ref b from ry)
    obtain ⟨mB, J2, _⟩ := ins_get I.hok hb
    obtain ⟨od2, J2, _⟩ := J2.look
    unfold binaryOp
    exact wpAny_holding (wpAny_bind (OB.binop1_S I.kIn J J2.type O.sf O.at_ O.fn cl fun v s' q => wpAny_pure q))
  · obtain ⟨P, Z, p, _⟩ := kit_of I ry hT
    exact OB.binop_F I.kIn J (Z.ty _ _ I.kIn p) O.sf O.at_ O.tn O.fn hs hsub cl
theorem ip_own (F : FnR X.prog X.w X.K X.mg X.base CX n f sp) (O : OwnOp X.K C f op.info.2) (no : OB.NoIp X.K C op.info.2) (hr : Room n X.A) (hx : Passes CX X E) : PIp X op (rBinO X.K op.info.2 C f sp E) := by
  intro pins s σ H x y v u Q I rx ry h
  obtain ⟨a, dx, fs, rfl, ha, hy, q⟩ := h
  cases (show v = Value.ref a from rx)
  obtain ⟨mA, J, _⟩ := ins_get I.hok ha
  obtain ⟨od, J, _⟩ := J.look
  have cl : wpAny (model X.prog X.w) X.A (call (.ref f) [.ref a, u]) (PySem.W.CmpBack (EP X pins σ Q)) X.xe s := by
    have r2 : Vals [V.ref a, y] [Value.ref a, u] := .cons rfl (.cons ry .nil)
    exact thn (wpAny_call (run_fnR F hr hx I r2 q)) fun w' s' ⟨z, H', I', rz, q'⟩ => relV_back rz ⟨z, H', I', rz, q'⟩
  unfold inplaceOp
  refine wpAny_holding (wpAny_bind (J.type.here (wpAny_bind ((OB.looks_noIp I.kIn no).here ?_))))
  simp only [Bool.false_eq_true, if_false]
  rcases hy with ⟨b, dy, gs, rfl, hb⟩ | ⟨T, hT, hs, hsub⟩
  · cases (show u = Value.ref b from ry)
    obtain ⟨mB, J2, _⟩ := ins_get I.hok hb
    obtain ⟨od2, J2, _⟩ := J2.look
    exact wpAny_bind (OB.binop1_S I.kIn J J2.type O.sf O.at_ O.fn cl fun v s' q => wpAny_pure q)
  · obtain ⟨P, Z, p, _⟩ := kit_of I ry hT
    exact wpAny_bind (OB.binop1_F I.kIn J (Z.ty _ _ I.kIn p) O.sf O.at_ O.tn O.fn hs hsub cl fun v s' q => wpAny_pure q)
/-! ### x[i] by an own __getitem__ -/
structure OwnGet (K : PySem.W.Frag) (C f : Addr) : Prop where
  at_ : PySem.W.findIn K (.ref C) "__getitem__" = some (some (.ref f))
  fi : PySem.W.fnIn K f = true
  fn : PySem.W.isFn K (.ref f) = true
def rGetO (C : Addr) (sp : Sp) (E : XK) : R2 := fun x y H Q => ∃ (a dx : Addr) (fs : List (Str × V)), x = .ref a ∧ H a = some (.ins C dx fs) ∧ sp [x, y] H Q E
theorem pe_ixO {a b : PySem.Expr} {ta tb : TE} {pos : Pos} (F : FnR X.prog X.w X.K X.mg X.base CX n f sp) (O : OwnGet X.K C f) (hr : Room (n + 1) X.A) (hx : Passes CX X E) (ha : PE X a ta) (hb : PE X b tb)
    (hs : ∀ x i, subscripted b true (.ref x) i = runValue (.builtin "lifetime.subscript" ⟨[.ref x, i], []⟩)) : PE X (.Subscript a b pos) (tOp (rGetO C sp E) ta tb) := by
  refine ⟨fun pins s σ H Q I h => ?_⟩
  refine Subscript_ (binT ha hb I h fun v u s2 x y H2 I2 rx ry q => ?_)
  obtain ⟨c, dx, fs, rfl, hc, q⟩ := q
  cases (show v = Value.ref c from rx)
  obtain ⟨mA, J, _⟩ := ins_get I2.hok hc
  obtain ⟨od, J, _⟩ := J.look
  obtain ⟨m, hF⟩ := I2.fr
  refine PySem.W.sub_K hF I2.ok.mod.kin J O.at_ O.fi O.fn ?_ (hs _ _)
  have r2 : Vals [V.ref c, y] [Value.ref c, u] := .cons rfl (.cons ry .nil)
  exact wpAny_call (SlX.run_at F hr.in1 I2.env0.in1 hx I2 r2 q)
/-! ### o.m(e, ..) by an own method of the class at C -/
structure OwnM (P : Program) (w : World) (K : PySem.W.Frag) (mg : Str → Option Value) (base : Heap) (CX : CXT) (k : Nat) (C : Addr) (m : Str) (sp : Sp) : Prop where
  ex : ∃ f, Cls K C ∧ Meth K C m f ∧ FnR P w K mg base CX k f sp
theorem pe_om {k : Nat} {m : Str} {o e : PySem.Expr} {es : List PySem.Expr} {ta : TE} {t : TA} {apos pos : Pos} {pl : Sem Bool} (c : OwnM X.prog X.w X.K X.mg X.base CX k C m sp) (hr : Room k X.A) (he : PE X o ta) (hx : Passes CX X E) (ha : PA X (e :: es) t)
    (hst : starEach (e :: es) X.env = (false, eval e X.env) :: starEach es X.env := by rfl) (hpl : (backTo pos (starEach es X.env)).any (·.1) = false := by rfl)
    (ht : eval (.Call (.Attribute o m apos) (e :: es) [] pos) X.env = (do
      let ov ← eval o X.env
      standAt apos.atName
      let (f, first) ← holding [ov] (getMethod ov m pl)
      callWith pos f first (backTo pos (starEach (e :: es) X.env)) (backToKw pos (keywordEach [] X.env))) := by rfl) : PE X (.Call (.Attribute o m apos) (e :: es) [] pos) (tMethR C m sp E ta t) := by
  obtain ⟨f, h1, h2, F⟩ := c.ex
  exact pe_methR he h1 h2 F hr hx ha hst hpl ht
end
end Ls
end
section
set_option Elab.async false
set_option autoImplicit false
set_option linter.all false
set_option maxRecDepth 100000
set_option maxHeartbeats 4000000
namespace Ls
open PySem PySem.Spec PyProof.Rows L2
/-! ### i op y, i a whole number, y an instance whose class has the turned form -/
namespace OB
open PySem.W
/-- int's own slot for an operator declines what is no number -/
structure IntSlot (nm id : String) (B : Builtin) : Prop where
  fills : fillsNumberSlot (.type "int") nm = pure true
  slot : Slot "int" (dunder nm) id
  entry : entryFor table id = some B
  args : ∀ a b : Value, argsOk id ⟨[a, b], []⟩
  is : ∃ f nn, B = PySem.Builtin.Int.intBinary nn f
theorem sMul : IntSlot "mul" "int.__mul__" PySem.Builtin.«int.__mul__» := ⟨PySem.F.fills_int_mul, PySem.F.slot_int_mul, PySem.F.entry_int_mul, fun _ _ => PySem.F.args_int_mul_2 _ _, _, _, rfl⟩
theorem sAdd : IntSlot "add" "int.__add__" PySem.Builtin.«int.__add__» := ⟨PySem.F.fills_int_add, PySem.F.slot_int_add, PySem.F.entry_int_add, fun _ _ => PySem.F.args_int_add_2 _ _, _, _, rfl⟩
theorem sSub : IntSlot "sub" "int.__sub__" PySem.Builtin.«int.__sub__» := ⟨PySem.F.fills_int_sub, PySem.F.slot_int_sub, PySem.F.entry_int_sub, fun _ _ => PySem.F.args_int_sub_2 _ _, _, _, rfl⟩
section
variable {prog : Program} {w : World} {A : Around} {E : Value → Shared → Prop} {s : Shared} {K : Frag} {x dx C f : Addr} {od : Option Obj}
theorem fillsR_K {M : Model} {h : Heap} {nm : String} {cd : ClassData} {rest : List Value} (X : K.In h) (hc : clsIn K C = some cd) (hm : cd.mro = .ref C :: rest) (h1 : findIn K (.ref C) (dunder nm) = some none ∨ ∃ g, findIn K (.ref C) (dunder nm) = some (some (.ref g))) (h2 : findIn K (.ref C) (dunderR nm) = some (some (.ref f))) :
    Looks M h (fillsNumberSlot (.ref C) nm) true := by
  rcases h1 with h1 | ⟨g, h1⟩
  · intro A Q E s k q
    unfold fillsNumberSlot
    refine wpAny_bind ((looks_clsIn X hc).andThen (f := fun cd => pure cd.mro) .now A _ E s k ?_)
    rw [hm, List.anyM_cons]
    refine wpAny_bind ?_
    rw [List.anyM_cons]
    refine wpAny_bind (wpAny_bind (looks_findIn X h1 A _ E s k ?_))
    refine wpAny_pure ?_
    simp only [Bool.false_eq_true, if_false]
    rw [List.anyM_cons]
    refine wpAny_bind (wpAny_bind (looks_findIn X h2 A _ E s k ?_))
    dsimp only
    rw [if_pos (show (!ownNameWrapper (.ref f) (dunderR nm)) = true from rfl)]
    refine wpAny_pure ?_
    rw [if_pos rfl]
    refine wpAny_pure ?_
    rw [if_pos rfl]
    exact wpAny_pure q
  · exact fills_K X hc hm h1
theorem declines {nm id : String} {B : Builtin} {Q : Option Value → Shared → Prop} {i : Int} {t : Tok} (S : IntSlot nm id B) (hx : s.heap.get? x = some (instObj C dx)) (hq : Q none s) :
    wpAny (model prog w) A (tryMethod (.int i t) (dunder nm) (.ref x)) Q E s := by
  obtain ⟨g, nn, hB⟩ := S.is
  refine wpAny_tryMethod_declines (typeIs_int s i t) S.slot (wpAny_call (codeAny_call_builtin S.slot.plain S.entry (S.slot.check _ _ _ _ _ _ _ _ (typeIs_int s i t) (S.args _ _) ?_)))
  rw [hB]
  unfold PySem.Builtin.Int.intBinary
  show wpAny _ _ (do let o ← (do match (← load x).data with | .prim (.int i _) => pure (some i) | _ => pure none : Sem (Option Int)); _) _ _ _
  refine wpAny_bind (wpAny_bind (wpAny_load hx (wpAny_pure ?_)))
  exact wpAny_bind (wpAny_rule (wpAny_pure ⟨rfl, hq⟩))
theorem binop1_R {nm id : String} {B : Builtin} {Q : Value → Shared → Prop} {R : Option Value → Shared → Prop} {i : Int} {t : Tok} (X : K.In s.heap) (I : InstAt s.heap x (instObj C dx) C od) (S : IntSlot nm id B) (hc : selfFirst K C = true)
    (h1 : findIn K (.ref C) (dunder nm) = some none ∨ ∃ g, findIn K (.ref C) (dunder nm) = some (some (.ref g))) (h2 : findIn K (.ref C) (dunderR nm) = some (some (.ref f))) (hf : isFn K (.ref f) = true) (hsub : subIn K (.ref C) (.type "int") = some false)
    (h : wpAny (model prog w) A (call (.ref f) [.ref x, .int i t]) (PySem.W.CmpBack Q) E s) (hR : ∀ v s', Q v s' → R (some v) s') : wpAny (model prog w) A (binaryOp1 nm (.int i t) (.ref x)) R E s := by
  obtain ⟨cd, hcd, hm⟩ := any_some hc
  obtain ⟨rest, hm⟩ : ∃ rest, cd.mro = .ref C :: rest := by
    cases q : cd.mro with
    | nil => rw [q] at hm; cases hm
    | cons a r => rw [q] at hm; exact ⟨r, by rw [List.head?_cons] at hm; cases (beq_iff_eq.mp hm); rfl⟩
  have hpy : numberSlotInPython (.type "int") nm = pure false := rfl
  unfold binaryOp1
  refine wpAny_bind (wpAny_typeOf (typeIs_int s i t) (wpAny_bind (I.type.here (wpAny_bind (wpAny_of_eq S.fills ?_)))))
  have hne : (Value.type "int" == Value.ref C) = false := by simp
  simp only [hne, Bool.false_eq_true, if_false]
  refine wpAny_bind ((fillsR_K X hcd hm h1 h2).here ?_)
  simp only [Bool.and_self, if_true]
  refine wpAny_bind ((looks_subIn X hsub).here ?_)
  simp only [Bool.false_eq_true, if_false, Bool.not_false, Bool.and_self, if_true, pure_bind, hpy]
  refine wpAny_bind (declines S I.at_ ?_)
  dsimp only
  unfold tryMethod
  refine wpAny_bind (m := callSpecial? (.ref x) _ [.int i t] >>= _) (wpAny_bind (special_fn X I h2 (beq_iff_eq.mp hf) (wpAny_mono h (fun v s' hv => ?_) fun _ _ e => e)))
  cases v <;> first | exact hv.elim | exact wpAny_pure (wpAny_bind (wpAny_rule (wpAny_pure (hR _ _ hv)))) | exact wpAny_pure (wpAny_rule (wpAny_pure (hR _ _ hv)))
end
end OB
/-- what the top says of the class's own turned form, at f -/
structure OwnOpR (K : PySem.W.Frag) (C f : Addr) (nm : String) : Prop where
  sf : PySem.W.selfFirst K C = true
  fw : PySem.W.findIn K (.ref C) (dunder nm) = some none ∨ ∃ g, PySem.W.findIn K (.ref C) (dunder nm) = some (some (.ref g))
  at_ : PySem.W.findIn K (.ref C) (dunderR nm) = some (some (.ref f))
  fn : PySem.W.isFn K (.ref f) = true
  sub : PySem.W.subIn K (.ref C) (.type "int") = some false
/-- i op y: the class's turned form is called with y and i -/
def rBinR (C : Addr) (sp : Sp) (E : XK) : R2 := fun x y H Q => ∃ (i : Int) (a dx : Addr) (fs : List (Str × V)), x = .int i ∧ y = .ref a ∧ H a = some (.ins C dx fs) ∧ sp [y, x] H Q E
section
variable {X : Cx} {CX : CXT} {n : Nat} {f C : Addr} {sp : Sp} {E : XK} {op : Operator}
theorem op_binR {id : String} {B : Builtin} (F : FnR X.prog X.w X.K X.mg X.base CX n f sp) (S : OB.IntSlot op.info.2 id B) (O : OwnOpR X.K C f op.info.2) (hr : Room n X.A) (hx : Passes CX X E) : OpR X (binaryOp op) (rBinR C sp E) := by
  intro pins s σ H x y v u Q I rx ry h
  obtain ⟨i, a, dx, fs, rfl, rfl, ha, q⟩ := h
  obtain ⟨t, rfl⟩ : ∃ t, v = .int i t := rx
  cases (show u = Value.ref a from ry)
  obtain ⟨mA, J, _⟩ := ins_get I.hok ha
  obtain ⟨od, J, _⟩ := J.look
  have r2 : Vals [V.ref a, V.int i] [Value.ref a, Value.int i t] := .cons rfl (.cons ⟨t, rfl⟩ .nil)
  have cl : wpAny (model X.prog X.w) X.A (call (.ref f) [.ref a, .int i t]) (PySem.W.CmpBack (EP X pins σ Q)) X.xe s :=
    thn (wpAny_call (run_fnR F hr hx I r2 q)) fun w' s' ⟨z, H', I', rz, q'⟩ => relV_back rz ⟨z, H', I', rz, q'⟩
  unfold binaryOp
  exact wpAny_holding (wpAny_bind (OB.binop1_R I.kIn J S O.sf O.fw O.at_ O.fn O.sub cl fun v s' q => wpAny_pure q))
/-! ### -x by an own __neg__ -/
structure OwnNeg (K : PySem.W.Frag) (C f : Addr) : Prop where
  at_ : PySem.W.findIn K (.ref C) "__neg__" = some (some (.ref f))
  fn : PySem.W.isFn K (.ref f) = true
def rNegO (C : Addr) (sp : Sp) (E : XK) : V → Hp → VK → Prop := fun x H Q => ∃ (a dx : Addr) (fs : List (Str × V)), x = .ref a ∧ H a = some (.ins C dx fs) ∧ sp [x] H Q E
theorem un_negO (F : FnR X.prog X.w X.K X.mg X.base CX n f sp) (O : OwnNeg X.K C f) (hr : Room n X.A) (hx : Passes CX X E) : UnR X (unaryOp .USub) (rNegO C sp E) := by
  intro pins s σ H x v Q I rx h
  obtain ⟨a, dx, fs, rfl, ha, q⟩ := h
  cases (show v = Value.ref a from rx)
  obtain ⟨mA, J, _⟩ := ins_get I.hok ha
  obtain ⟨od, J, _⟩ := J.look
  obtain ⟨m, hF⟩ := I.fr
  exact PySem.W.ksp_neg hF I.ok.mod.kin J O.at_ O.fn (wpAny_call (run_fnR F hr hx I (us := [.ref a]) (vs := [.ref a]) (.cons rfl .nil) q))
/-! ### C.f(e, ..), f a static method of the class at C -/
structure Stm (P : Program) (w : World) (K : PySem.W.Frag) (mg : Str → Option Value) (base : Heap) (CX : CXT) (k : Nat) (C : Addr) (m : Str) (sp : Sp) : Prop where
  ex : ∃ (mc : Value) (p g : Addr) (rest : List Value), PySem.W.typeIn K (.ref C) = some mc ∧ ClX.CRead K C mc ∧ PySem.W.findCls K (.ref C) mc m = some (.get (.builtin "staticmethod.__get__") (.ref p) .none (.ref C)) ∧ PySem.W.recIn K p "staticmethod" = some (.ref g :: rest) ∧ PySem.W.keepIn K (.ref g) = true ∧ FnR P w K mg base CX k g sp
end
section
variable {X : Cx} {CX : CXT} {k : Nat} {C : Addr} {m x : Str} {sp : Sp} {E : XK} {o e : PySem.Expr} {es : List PySem.Expr} {ta te : TE} {t : TA} {p apos pos sp_ : Pos} {pl : Sem Bool}
theorem pe_stm (c : Stm X.prog X.w X.K X.mg X.base CX k C m sp) (hr : Room k X.A) (ho : PE X o ta) (hx : Passes CX X E) (ha : PA X (e :: es) t)
    (hst : starEach (e :: es) X.env = (false, eval e X.env) :: starEach es X.env := by rfl) (hpl : (backTo pos (starEach es X.env)).any (·.1) = false := by rfl)
    (ht : eval (.Call (.Attribute o m apos) (e :: es) [] pos) X.env = (do
      let ov ← eval o X.env
      standAt apos.atName
      let (f, first) ← holding [ov] (getMethod ov m pl)
      callWith pos f first (backTo pos (starEach (e :: es) X.env)) (backToKw pos (keywordEach [] X.env))) := by rfl) :
    PE X (.Call (.Attribute o m apos) (e :: es) [] pos) (fun σ H Q => ta σ H fun v H1 => v = .ref C ∧ t σ H1 fun vs H2 => sp vs H2 Q E) := by
  obtain ⟨mc, p', g, rest, ty, rd, fc, hp, kp, F⟩ := c.ex
  refine ⟨fun pins s σ H Q I h => PySem.W.methodCall_KW (pl := pl) (thn (ho.run pins s σ H _ I h) fun u s1 q1 => ?_) ht⟩
  obtain ⟨v, H1, I1, rv, rfl, q1⟩ := q1
  obtain rfl : u = Value.ref C := rv
  refine PySem.W.method_cls I1.kIn rd.ga ?_
  obtain ⟨mm, hF⟩ := I1.fr
  have J : Inv X pins σ H1 { s1 with toks := s1.toks + 1 } := I1.kept fun b o e => e
  refine PySem.W.cls_sm hF I1.ok.mod.kin ty rd.rd fc hp rfl ?_
  refine PySem.W.callWith_K (h₀ := X.base) J.ok.mod.kin kp (thn (ha.run pos pins _ σ H1 _ J q1) fun us s3 q3 => ?_) hst hpl
  obtain ⟨vs, H2, I3, r3, q3⟩ := q3
  exact ⟨I3.kIn, wpAny_call (run_fnR F hr hx I3 r3 q3)⟩
end
end Ls
end
section
set_option Elab.async false
set_option autoImplicit false
set_option linter.all false
set_option maxRecDepth 100000
set_option maxHeartbeats 4000000
namespace Ls
open PySem PySem.Spec PyProof.Rows L2
/-! ### x <= y, x >= y by an own __le__, __ge__ -/
def rCmpO (K : PySem.W.Frag) (nm : Str) (f : Addr) (sp : Sp) (E : XK) : R2 := fun x y H Q => ∃ (a C dx : Addr) (fs : List (Str × V)) (tb : Value), x = .ref a ∧ H a = some (.ins C dx fs) ∧ PySem.W.findIn K (.ref C) nm = some (some (.ref f)) ∧ TyX K H y tb ∧ PySem.W.notFirst K C tb = true ∧
  sp [x, y] H (fun v H' => ∃ r, v = .bl r ∧ Q (.bl r) H') E
section
variable {X : Cx} {CX : CXT} {n : Nat} {f : Addr} {sp : Sp} {E : XK}
theorem op_leO (F : FnR X.prog X.w X.K X.mg X.base CX n f sp) (hf : PySem.W.isFn X.K (.ref f) = true) (hr : Room n X.A) (hx : Passes CX X E) : OpR X (compareOp .LtE) (rCmpO X.K "__le__" f sp E) := by
  intro pins s σ H x y v u Q I rx ry h
  obtain ⟨a, C, dx, fs, tb, rfl, ha, hs, ty, hn, q⟩ := h
  cases (show v = Value.ref a from rx)
  obtain ⟨mA, J, _⟩ := ins_get I.hok ha
  obtain ⟨od, J, _⟩ := J.look
  obtain ⟨m, hF⟩ := I.fr
  obtain ⟨P, Z, p, _⟩ := kit_of I ry ty
  show wpAny (model X.prog X.w) X.A (richCompare .LtE (.ref a) u) (EP X pins σ Q) X.xe s
  refine PySem.W.cmp_K (op := .LtE) hr.units0 hF I.ok.mod.kin J (Z.ty _ _ I.kIn p) hn hs hf ?_
  have r2 : Vals [V.ref a, y] [Value.ref a, u] := .cons rfl (.cons ry .nil)
  refine thn (wpAny_call (run_fnR F hr hx I r2 q)) fun w' s' ⟨z, H', I', rz, r, ez, q'⟩ => ?_
  subst ez
  cases rz
  exact ⟨.bl r, H', I', rfl, q'⟩
theorem op_geO (F : FnR X.prog X.w X.K X.mg X.base CX n f sp) (hf : PySem.W.isFn X.K (.ref f) = true) (hr : Room n X.A) (hx : Passes CX X E) : OpR X (compareOp .GtE) (rCmpO X.K "__ge__" f sp E) := by
  intro pins s σ H x y v u Q I rx ry h
  obtain ⟨a, C, dx, fs, tb, rfl, ha, hs, ty, hn, q⟩ := h
  cases (show v = Value.ref a from rx)
  obtain ⟨mA, J, _⟩ := ins_get I.hok ha
  obtain ⟨od, J, _⟩ := J.look
  obtain ⟨m, hF⟩ := I.fr
  obtain ⟨P, Z, p, _⟩ := kit_of I ry ty
  show wpAny (model X.prog X.w) X.A (richCompare .GtE (.ref a) u) (EP X pins σ Q) X.xe s
  refine PySem.W.cmp_K (op := .GtE) hr.units0 hF I.ok.mod.kin J (Z.ty _ _ I.kIn p) hn hs hf ?_
  have r2 : Vals [V.ref a, y] [Value.ref a, u] := .cons rfl (.cons ry .nil)
  refine thn (wpAny_call (run_fnR F hr hx I r2 q)) fun w' s' ⟨z, H', I', rz, r, ez, q'⟩ => ?_
  subst ez
  cases rz
  exact ⟨.bl r, H', I', rfl, q'⟩
end
end Ls
end
section
set_option Elab.async false
set_option autoImplicit false
set_option linter.all false
set_option maxRecDepth 100000
set_option maxHeartbeats 4000000
namespace Ls
open PySem PySem.Spec PyProof.Rows L2 GenW
/-! ### for, in a generator def -/
def tGFor (wi : TI) (g : TG) (tb : TGn) : TGn := fun D ys σ H => wi σ H fun J H1 => ∃ W : Nat → Nat → List V → L2.St → Hp → Prop, (∃ m, W 0 m ys σ H1) ∧ ∀ i m ys σ H, W i m ys σ H →
  (J.stop i H ∧ D.nx ys σ H) ∨ (J.go i H ∧ ∃ N : List V → L2.St → Hp → Prop, (∀ ys' σ' H', N ys' σ' H' → ∃ m', m' < m ∧ W (i + 1) m' ys' σ' H') ∧ ∀ x H', J.yld i H x H' → g x σ H' fun σ2 H2 => tb { D with nx := N, ct := N, bk := D.nx } ys σ2 H2)
section
variable {X : Cx}
theorem gs_for {tg iter : PySem.Expr} {body : List Stmt} {pos : Pos} {wi : TI} {g : TG} {tb : TGn} (hp : PassesOwn (model X.prog X.w) X.A X.env X.xe) (hc : X.calm = true) (hi : PI X tg iter wi) (hg : PG X tg g) (hb : GSs X body tb)
    (hs : ∀ x, foldedSetIterable iter X.env x = pure x := by intro _; rfl) : GS X (.For tg iter body [] pos) (tGFor wi g tb) := by
  refine ⟨fun A S ip R n ys s₀ c fs K J gd lv s σ H D gc hn k hI ht => ?_⟩
  obtain ⟨acc, cc, r, I⟩ := hI
  rw [exec_For]
  refine seg_bind_wrap (wpAny_standAt ?_)
  refine seg_bind_wrap ?_
  rw [gc.over]
  refine wpAny_mono (hi.run _ s σ H _ I ht) (fun v s1 h1 => ?_) fun x s' hx => k.exc n s₀ x s' hx
  refine seg_bind_wrap (wpAny_of_eq (hs v) ?_)
  refine seg_bind_wrap (wpAny_standAt ?_)
  refine seg_bind_wrap (wpAny_holding ?_)
  rw [gc.over]
  refine wpAny_mono h1 (fun itv s2 h2 => ?_) fun x s' hx => k.exc n s₀ x s' hx
  obtain ⟨it, fp, tn, Jt, H2, e, I2, T, st2, f2, W, ⟨m0, w0⟩, turn⟩ := h2
  subst e
  refine seg_call fun p => ?_
  have gl := fun (kk : Result → Sem PySem.Fin) => gc_loop (k := kk) (c' := .forLoop tg (.ref it) body [] X.env) (l := lv []) (kp := []) (p := p) gc rfl rfl
  have stat : ∀ {H' : Hp} {acc' : Array Value} {c' : Nat}, (∀ b ∈ fp, H' b = none) → ∀ b ∈ fp, FpOk X ((S, lstObj acc' c') :: ip) H' b := fun {H' acc' c'} hn b hb => by
    obtain ⟨_, q1, q2, q3, q4, q5⟩ := f2 b hb
    refine ⟨hn b hb, q1, q2, q3, q4, fun p hp => ?_⟩
    rcases List.mem_append.mp hp with hp | hp
    · exact q5 p (List.mem_append_left _ hp)
    · rcases List.mem_cons.mp hp with hp | hp
      · rw [hp]
        exact q5 (S, lstObj acc cc) (List.mem_append_right _ List.mem_cons_self)
      · exact q5 p (List.mem_append_right _ (List.mem_cons_of_mem _ hp))
  have loop : ∀ (m i n : Nat) (ys : List V) (s₀ s : Shared) (σ : L2.St) (H : Hp), n + ys.length = sizeLine → W i m ys σ H → GI X S ip ys σ H s → tn i s.heap → (∀ b ∈ fp, H b = none) →
      Seg (model X.prog X.w) A R (GY X S) n s₀ (.forLoop tg (.ref it) body [] X.env) ((model X.prog X.w).den (.forLoop tg (.ref it) body [] X.env))
        (.ret (fun r => ((match r with | .ok f => (.pure f : Sem Flow) | .error e => .raise e).onRaise (cameBack X.env)).wrap K J gd lv) none (gd false) (lv []) c p [] :: fs) s := by
    intro m
    induction m using Nat.strongRecOn with
    | ind m ih =>
      intro i n ys s₀ s σ H hn w hI hst hfr
      have ee : ∀ (n : Nat) (s₀ : Shared) (x : Value) (s' : Shared), X.xe x s' → Seg (model X.prog X.w) A R (GY X S) n s₀ (.forLoop tg (.ref it) body [] X.env)
          ((do noteFrame x X.env; theTreesLotGoes x : Sem Unit).bind (fun _ => .raise x))
          (.ret (fun r => ((match r with | .ok f => (.pure f : Sem Flow) | .error e => .raise e).onRaise (cameBack X.env)).wrap K J gd lv) none (gd false) (lv []) c p [] :: fs) s' := fun n s₀ x s' hx => by
        rw [Sem.bind_eq_wrap]
        refine seg_wrap ?_
        rw [(gl _).over]
        refine wpAny_bind (wpAny_mono (hp x s' hx) (fun _ s'' hcb => wpAny_theTreesLotGoes ?_) fun y s'' hcb => ?_)
        · exact seg_leaf (.error x) (seg_cameBack gc k hcb)
        · exact seg_leaf (.error y) (seg_cameBack gc k hcb)
      obtain ⟨acc3, c3, r3, I3⟩ := hI
      show Seg _ A R _ n s₀ _ ((forTurn tg (.ref it) body [] X.env).onRaise (fun x => do noteFrame x X.env; theTreesLotGoes x)) _ s
      rw [Sem.onRaise_eq_wrap]
      simp only [forTurn]
      refine seg_bind_wrap (wpAny_standAt ?_)
      refine seg_bind_wrap (wpAny_onRaise ?_)
      rw [(gl _).over]
      rcases turn i m ys σ H w with ⟨stop, qn⟩ | ⟨go, N, hN, step⟩
      · refine wpAny_mono (T.done X rfl rfl rfl hc i _ s σ H X.xe I3 (stat hfr) hst stop) (fun r' s4 ⟨hr, I4⟩ => ?_) fun x s' hx => wpAny_standAt (ee n s₀ x s' hx)
        subst hr
        refine seg_again rfl ?_
        exact seg_leaf (.ok .next) (k.ok n ys s₀ s4 .next hn ⟨σ, H, ⟨acc3, c3, r3, I4⟩, qn⟩)
      · refine wpAny_mono (T.item X rfl rfl rfl hc i _ s σ H X.xe I3 (stat hfr) hst go) (fun r' s4 ⟨u, hr, h4⟩ => ?_) fun x s' hx => wpAny_standAt (ee n s₀ x s' hx)
        subst hr
        refine seg_bind_wrap ?_
        rw [(gl _).over]
        refine wpAny_mono h4 (fun _ s5 ⟨x, H5, I5, r5, y5, st5, fr5⟩ => ?_) fun x s' hx => ee n s₀ x s' hx
        have I5' := I5.pinned (stat fr5) (T.obj _ _ st5)
        refine seg_bind_wrap ?_
        rw [(gl _).over]
        refine wpAny_mono (hg.run _ s5 σ H5 x u _ I5' r5 (step x H5 y5)) (fun _ s6 ⟨σ6, H6, I6, q6⟩ => ?_) fun x s' hx => ee n s₀ x s' hx
        rw [Sem.bind_eq_wrap', Sem.wrap_wrap]
        have ipn : ∀ p ∈ ip ++ pinsAt fp s5.heap, p.1 ≠ S := fun p hp => by
          rcases List.mem_append.mp hp with hp | hp
          · exact gc.ip p hp
          · intro z
            obtain ⟨hb, _⟩ := of_pinsAt hp
            obtain ⟨_, _, _, _, _, q5⟩ := f2 p.1 hb
            exact q5 (S, lstObj acc cc) (List.mem_append_right _ List.mem_cons_self) z.symm
        have gl2 := gl (fun r => ((match r with | .ok f => (.pure f : Sem Flow) | .error e => .raise e).onRaise (cameBack X.env)).wrap K J gd lv)
        have again : ∀ {ys7 : List V} {σ7 : L2.St} {H7 : Hp} {s7 : Shared} (n' : Nat) (s₀' : Shared), n' + ys7.length = sizeLine → GI X S (ip ++ pinsAt fp s5.heap) ys7 σ7 H7 s7 → N ys7 σ7 H7 →
            Seg (model X.prog X.w) A R (GY X S) n' s₀' (.forLoop tg (.ref it) body [] X.env) (.pure (.again (.forLoop tg (.ref it) body [] X.env)))
              (.ret (fun r => ((match r with | .ok f => (.pure f : Sem Flow) | .error e => .raise e).onRaise (cameBack X.env)).wrap K J gd lv) none (gd false) (lv []) c p [] :: fs) s7 := fun {ys7 σ7 H7 s7} n' s₀' hn' hG n7 => by
          obtain ⟨m', hm, w7⟩ := hN ys7 σ7 H7 n7
          obtain ⟨acc7, c7, r7, I7⟩ := hG
          have pin7 : ∀ b ∈ fp, ∀ o, s5.heap.get? b = some o → s7.heap.get? b = some o ∧ H7 b = none := fun b hb o e => by
            obtain ⟨z1, z2, _⟩ := I7.pin (b, o) (List.mem_append_right _ (List.mem_cons_of_mem _ (List.mem_append_right _ (mem_pinsAt hb e))))
            exact ⟨z1, z2⟩
          refine seg_again rfl (ih m' hm (i + 1) n' ys7 s₀' s7 σ7 H7 hn' w7 ⟨acc7, c7, r7, Inv.unpinned (pins := (S, lstObj acc7 c7) :: ip) I7⟩ (T.keep _ _ _ st5 fun b hb o e => (pin7 b hb o e).1) fun b hb => ?_)
          obtain ⟨o, e, _⟩ := T.obj _ _ st5 b hb
          exact (pin7 b hb o e).2
        refine hb.run A S (ip ++ pinsAt fp s5.heap) R n ys s₀ _ _ _ _ id id s6 σ6 H6 { D with nx := N, ct := N, bk := D.nx } ⟨gl2.pn, ipn, gl2.apart, gl2.over, gl2.split, gl2.guard, gl2.gd⟩ hn ⟨fun n' ys' s₀' s7 f hn' hs7 => ?_, fun n' s₀' x s7 hx => ee n' s₀' x s7 hx⟩ ⟨acc3, c3, r3, I6⟩ q6
        have un : ∀ {ys' : List V} {σ' : L2.St} {H' : Hp}, GI X S (ip ++ pinsAt fp s5.heap) ys' σ' H' s7 → GI X S ip ys' σ' H' s7 := fun {ys' σ' H'} hG => by
          obtain ⟨acc7, c7, r7, I7⟩ := hG
          exact ⟨acc7, c7, r7, Inv.unpinned (pins := (S, lstObj acc7 c7) :: ip) I7⟩
        cases f with
        | next =>
          obtain ⟨σ7, H7, I7, n7⟩ := hs7
          exact again n' s₀' hn' I7 n7
        | cont =>
          obtain ⟨σ7, H7, I7, n7⟩ := hs7
          exact again n' s₀' hn' I7 n7
        | brk =>
          obtain ⟨σ7, H7, I7, q7⟩ := hs7
          exact seg_leaf (.ok .next) (k.ok n' ys' s₀' s7 .next hn' ⟨σ7, H7, un I7, q7⟩)
        | ret v =>
          obtain ⟨x7, σ7, H7, I7, r7, q7⟩ := hs7
          exact seg_leaf (.ok (.ret v)) (k.ok n' ys' s₀' s7 (.ret v) hn' ⟨x7, σ7, H7, un I7, r7, q7⟩)
  exact loop m0 0 n ys s₀ s2 σ H2 hn w0 ⟨acc, cc, r, I2⟩ st2 fun b hb => (f2 b hb).1
end
end Ls
end
section
set_option Elab.async false
set_option autoImplicit false
set_option linter.all false
set_option maxRecDepth 100000
set_option maxHeartbeats 4000000
namespace Ls
open PySem PySem.Spec PyProof.Rows L2 GenW
/-! ### o.m(a = v) -/
section
variable (P : Program) (w : World) (K : PySem.W.Frag) (mg : Str → Option Value) (base : Heap) (CX : CXT) (k : Nat)
structure OwnMK (C : Addr) (m a : Str) (sp : Sp) : Prop where
  ex : ∃ f fd c, Cls K C ∧ Meth K C m f ∧ FnOk P w K mg base CX k f fd [c, a] sp ∧ ∀ (s : Shared) (v u : Value), BindsTo s fd ⟨[v], [(a, u)]⟩ [(c, v), (a, u)]
structure GenMK (C : Addr) (m a : Str) (sp : SpG) : Prop where
  ex : ∃ f fd c, Cls K C ∧ Meth K C m f ∧ GFn P w K mg base k f fd [c, a] sp ∧ ∀ (s : Shared) (v u : Value), BindsTo s fd ⟨[v], [(a, u)]⟩ [(c, v), (a, u)]
structure GenM (C : Addr) (m : Str) (sp : SpG) : Prop where
  ex : ∃ f fd ps, Cls K C ∧ Meth K C m f ∧ GFn P w K mg base k f fd ps sp ∧ Binds K fd ps []
end
section
variable {X : Cx} {CX : CXT} {k : Nat} {C : Addr} {sp : Sp} {spg : SpG} {E : XK} {m a : Str} {pos apos : Pos} {o : PySem.Expr} {kws : List Keyword} {ta : TE} {tk : TA} {pl : Sem Bool}
def tMethK (C : Addr) (m : Str) (sp : Sp) (E : XK) (ta : TE) (tk : TA) : TE := fun σ H Q => ta σ H fun x H1 => ∃ b dx fs, x = .ref b ∧ H1 b = some (.ins C dx fs) ∧ fs.lookup m = none ∧ tk σ H1 fun zs H2 => ∃ z, zs = [z] ∧ sp [.ref b, z] H2 Q E
theorem pe_omk (c : OwnMK X.prog X.w X.K X.mg X.base CX k C m a sp) (hr : Room k X.A) (ho : PE X o ta) (hx : Passes CX X E) (hkw : PK X kws tk)
    (hall : (backToKw pos (keywordEach kws X.env)).all (·.1.isSome) = true := by rfl) (hks : (backToKw pos (keywordEach kws X.env)).filterMap (·.1) = [a] := by rfl)
    (hpl : ((backTo pos (starEach [] X.env)).any (·.1) || (backToKw pos (keywordEach kws X.env)).any (·.1.isNone)) = false := by rfl)
    (ht : eval (.Call (.Attribute o m apos) [] kws pos) X.env = (do
      let ov ← eval o X.env
      standAt apos.atName
      let (f, first) ← holding [ov] (getMethod ov m pl)
      callWith pos f first (backTo pos (starEach [] X.env)) (backToKw pos (keywordEach kws X.env))) := by rfl) :
    PE X (.Call (.Attribute o m apos) [] kws pos) (tMethK C m sp E ta tk) := by
  obtain ⟨f, fd, cn, cl, hm, F, hb⟩ := c.ex
  refine ⟨fun pins s σ H Q I h => ?_⟩
  refine PySem.W.methodCall_KW (pl := pl) (thn (ho.run pins s σ H _ I h) fun u s1 ⟨x, H1, I1, rx, b, dx, fs, ex, eb, l, q⟩ => ?_) ht
  subst ex
  obtain rfl : u = Value.ref b := rx
  refine getmeth_ok I1 eb cl hm l ?_
  refine PySem.W.callWith_of (P := X.K.In) hpl (PySem.W.keeps_K hm.kp) (evalArgs_kw2_nil hall ?_)
  refine thn (hkw.run pos _ s1 σ H1 _ I1 q) fun ws s3 ⟨zs, H2, I3, rz, z, ez, q3⟩ => ?_
  subst ez
  refine ⟨I3.kIn, ?_⟩
  rw [hks]
  obtain ⟨u, rfl, ru⟩ := vals1 rz
  have r2 : Vals [V.ref b, z] [Value.ref b, u] := .cons rfl (.cons ru .nil)
  have run := F.run X.A X.stack s3 H2 ⟨[.ref b], [(a, u)]⟩ [.ref b, u] [.ref b, z] Q E hr I3.env0 (hb s3 (.ref b) u) r2 q3
  refine wpAny_call (codeAny_mono run fun res s' hq => ?_)
  match res, hq with
  | .error e, hq => exact hx _ σ H2 s3 e s' I3 hq
  | .ok (.ret u), hq => exact I3.after hq
  | .ok .next, hq => exact hq.elim
  | .ok .brk, hq => exact hq.elim
  | .ok .cont, hq => exact hq.elim
/-! ### generator methods -/
def tGenM (C : Addr) (m : Str) (sp : SpG) (E : XK) (ta : TE) (t : TA) : TGen := fun σ H cont => ta σ H fun x H1 => ∃ a dx fs, x = .ref a ∧ H1 a = some (.ins C dx fs) ∧ fs.lookup m = none ∧ t σ H1 fun vs H2 => sp (x :: (vs ++ [])) H2 cont E
theorem pgen_m {e : PySem.Expr} {es : List PySem.Expr} {t : TA} (c : GenM X.prog X.w X.K X.mg X.base k C m spg) (hr : Room k X.A) (he : PE X o ta) (ha : PA X (e :: es) t)
    (hst : starEach (e :: es) X.env = (false, eval e X.env) :: starEach es X.env := by rfl) (hpl : (backTo pos (starEach es X.env)).any (·.1) = false := by rfl)
    (ht : eval (.Call (.Attribute o m apos) (e :: es) [] pos) X.env = (do
      let ov ← eval o X.env
      standAt apos.atName
      let (f, first) ← holding [ov] (getMethod ov m pl)
      callWith pos f first (backTo pos (starEach (e :: es) X.env)) (backToKw pos (keywordEach [] X.env))) := by rfl) :
    PGen X k (.Call (.Attribute o m apos) (e :: es) [] pos) (tGenM C m spg E ta t) E := by
  obtain ⟨f, fd, ps, cl, hm, F, hb⟩ := c.ex
  exact pgen_meth he cl hm F hr hb .nil ha hst hpl ht
def tGenMK (C : Addr) (m : Str) (sp : SpG) (E : XK) (ta : TE) (tk : TA) : TGen := fun σ H cont => ta σ H fun x H1 => ∃ b dx fs, x = .ref b ∧ H1 b = some (.ins C dx fs) ∧ fs.lookup m = none ∧ tk σ H1 fun zs H2 => ∃ z, zs = [z] ∧ sp [.ref b, z] H2 cont E
theorem pgen_mk (c : GenMK X.prog X.w X.K X.mg X.base k C m a spg) (hr : Room k X.A) (ho : PE X o ta) (hkw : PK X kws tk)
    (hall : (backToKw pos (keywordEach kws X.env)).all (·.1.isSome) = true := by rfl) (hks : (backToKw pos (keywordEach kws X.env)).filterMap (·.1) = [a] := by rfl)
    (hpl : ((backTo pos (starEach [] X.env)).any (·.1) || (backToKw pos (keywordEach kws X.env)).any (·.1.isNone)) = false := by rfl)
    (ht : eval (.Call (.Attribute o m apos) [] kws pos) X.env = (do
      let ov ← eval o X.env
      standAt apos.atName
      let (f, first) ← holding [ov] (getMethod ov m pl)
      callWith pos f first (backTo pos (starEach [] X.env)) (backToKw pos (keywordEach kws X.env))) := by rfl) :
    PGen X k (.Call (.Attribute o m apos) [] kws pos) (tGenMK C m spg E ta tk) E := by
  obtain ⟨f, fd, cn, cl, hm, F, hb⟩ := c.ex
  refine ⟨fun pins s σ H cont I h => ?_⟩
  refine PySem.W.methodCall_KW (pl := pl) (thn (ho.run pins s σ H _ I h) fun u s1 ⟨x, H1, I1, rx, b, dx, fs, ex, eb, l, q⟩ => ?_) ht
  subst ex
  obtain rfl : u = Value.ref b := rx
  refine getmeth_ok I1 eb cl hm l ?_
  refine PySem.W.callWith_of (P := X.K.In) hpl (PySem.W.keeps_K hm.kp) (evalArgs_kw2_nil hall ?_)
  refine thn (hkw.run pos _ s1 σ H1 _ I1 q) fun ws s3 ⟨zs, H2, I3, rz, z, ez, q3⟩ => ?_
  subst ez
  refine ⟨I3.kIn, ?_⟩
  rw [hks]
  obtain ⟨u, rfl, ru⟩ := vals1 rz
  have r2 : Vals [V.ref b, z] [Value.ref b, u] := .cons rfl (.cons ru .nil)
  refine wpAny_call (codeAny_mono (F.run X.A X.stack s3 H2 ⟨[.ref b], [(a, u)]⟩ [.ref b, u] [.ref b, z] cont E hr I3.env0 (hb s3 (.ref b) u) r2 q3) fun r s' hq => ?_)
  match r, hq with
  | .error e, hq => exact hq.elim
  | .ok (.ret u), hq => exact ⟨H2, s3, [], I3, .nil, hq⟩
  | .ok .next, hq => exact hq.elim
  | .ok .brk, hq => exact hq.elim
  | .ok .cont, hq => exact hq.elim
end
/-! ### what leaves a generator's body -/
section
variable {P : Program} {w : World} {K : PySem.W.Frag} {mg : Str → Option Value} {base : Heap} {N : List Str} {qual : Str} {scope : Scope} {f : Addr} {cd : Value} {A : Around} {outer : List Env} {s : Shared} {H : Hp} {E : XK} {pn : List (Addr × Obj)}
theorem passG : Passes (L2.CX P w) (gcxOf P w K mg base N qual scope f cd A outer s H E pn) E := passes_call takes_gcx fun _ _ _ _ h => h
end
/-- one class alone is let out -/
def onlyC (C : Addr) (E : XK) : XK := fun cls d H => E cls d H ∧ cls = .ref C
section
variable {X : Cx} {A : Around} {outer : List Env} {s : Shared} {H : Hp} {E : XK} {scope : Scope} {f c' C : Addr} {K : PySem.W.Frag}
theorem passLm1 : Passes (L2.CX X.prog X.w) (LamX.lamCx X A outer s H E scope f c') (onlyC C E) := passes_call tkL fun _ _ _ _ h => h.1
theorem noStop_only (h : PySem.W.subIn K (.ref C) (.type "StopIteration") = some false) : NoStop K (onlyC C E) := fun cls d H h' => by
  rw [h'.2]
  exact h
theorem noStop0 : NoStop K (fun _ _ _ => False) := fun _ _ _ h => h.elim
end
/-- list(g); what is let out is looked at last -/
theorem pe_listGC {X : Cx} {CXx : CXT} {k : Nat} {p pos : Pos} {e : PySem.Expr} {tg : TGen} {E : XK} {nm : Str} (h : PGen X k e tg E) (hx : Passes CXx X E) (hns : NoStop X.K E) (hr : Room (k + 3) X.A) (hg : Gl X nm) (hmg : X.mg nm = none) (hv : bootBuiltins nm = some (.type "list")) (hnm : nm ≠ "__name__" := by decide) (hdb : (nm == ("__debug__" : Str)) = false := by decide)
    (he : starEach [e] X.env = (false, eval e X.env) :: starEach [] X.env := by rfl) (hCX : CXx = L2.CX X.prog X.w := by rfl) : PE X (.Call (.Name nm p) [e] [] pos) (tListG tg) := by
  subst hCX
  exact pe_listG h hx hns hr hg hmg hv hnm hdb he
/-- the turns of a generator's for over a range -/
theorem forG_range {lo : Int} {n : Nat} {g : TG} {tb : TGn} {D : GEnds} {ys : List V} {σ : L2.St} {H : Hp} (Pv : Nat → List V → L2.St → Hp → Prop) (h0 : Pv 0 ys σ H)
    (hs : ∀ i ys σ H, i < n → Pv i ys σ H → g (.int (lo + i)) σ H fun σ2 H2 => tb { D with nx := Pv (i + 1), ct := Pv (i + 1), bk := D.nx } ys σ2 H2) (hd : ∀ ys σ H, Pv n ys σ H → D.nx ys σ H) :
    ∃ W : Nat → Nat → List V → L2.St → Hp → Prop, (∃ m, W 0 m ys σ H) ∧ ∀ i m ys σ H, W i m ys σ H →
      ((Itr lo n).stop i H ∧ D.nx ys σ H) ∨ ((Itr lo n).go i H ∧ ∃ N : List V → L2.St → Hp → Prop, (∀ ys' σ' H', N ys' σ' H' → ∃ m', m' < m ∧ W (i + 1) m' ys' σ' H') ∧ ∀ x H', (Itr lo n).yld i H x H' → g x σ H' fun σ2 H2 => tb { D with nx := N, ct := N, bk := D.nx } ys σ2 H2) := by
  refine ⟨fun i m ys σ H => m = n - i ∧ i ≤ n ∧ Pv i ys σ H, ⟨n, by simp, Nat.zero_le _, h0⟩, ?_⟩
  rintro i m ys σ H ⟨rfl, hi, p⟩
  by_cases hlt : i < n
  · refine .inr ⟨?_, Pv (i + 1), fun ys' σ' H' p' => ⟨n - (i + 1), by omega, rfl, hlt, p'⟩, fun x H' y => ?_⟩
    · exact hlt
    · obtain ⟨e, y⟩ := y
      subst e
      subst y
      exact hs i ys σ _ hlt p
  · have e : i = n := by omega
    subst e
    exact .inl ⟨Nat.le_refl _, hd ys σ H p⟩
end Ls
end
section
set_option Elab.async false
set_option autoImplicit false
set_option linter.all false
set_option maxRecDepth 100000
set_option maxHeartbeats 4000000
namespace Ls
open PySem PySem.Spec PyProof.Rows L2
/-! ### x in y, x not in y by an own __contains__ -/
def rInO (K : PySem.W.Frag) (neg : Bool) (f : Addr) (sp : Sp) (E : XK) : R2 := fun x y H Q => ∃ (a C dx : Addr) (fs : List (Str × V)), y = .ref a ∧ H a = some (.ins C dx fs) ∧ PySem.W.findIn K (.ref C) "__contains__" = some (some (.ref f)) ∧
  sp [y, x] H (fun v H' => ∃ r, v = .bl r ∧ Q (.bl (if neg then !r else r)) H') E
section
variable {X : Cx} {CX : CXT} {n : Nat} {f : Addr} {sp : Sp} {E : XK}
theorem op_inO (F : FnR X.prog X.w X.K X.mg X.base CX n f sp) (hf : PySem.W.isFn X.K (.ref f) = true) (hr : Room n X.A) (hx : Passes CX X E) : OpR X (compareOp .In) (rInO X.K false f sp E) := by
  intro pins s σ H x y v u Q I rx ry h
  obtain ⟨a, C, dx, fs, rfl, ha, hs, q⟩ := h
  cases (show u = Value.ref a from ry)
  obtain ⟨mA, J, _⟩ := ins_get I.hok ha
  obtain ⟨od, J, _⟩ := J.look
  obtain ⟨m, hF⟩ := I.fr
  refine PySem.W.in_K hF I.ok.mod.kin J hs hf ?_
  have r2 : Vals [V.ref a, x] [Value.ref a, v] := .cons rfl (.cons rx .nil)
  refine thn (wpAny_call (run_fnR F hr hx I r2 q)) fun w' s' ⟨z, H', I', rz, r, ez, q'⟩ => ?_
  subst ez
  cases rz
  exact wpAny_truthy_bool ⟨.bl r, H', I', rfl, q'⟩
theorem op_notInO (F : FnR X.prog X.w X.K X.mg X.base CX n f sp) (hf : PySem.W.isFn X.K (.ref f) = true) (hr : Room n X.A) (hx : Passes CX X E) : OpR X (compareOp .NotIn) (rInO X.K true f sp E) := by
  intro pins s σ H x y v u Q I rx ry h
  obtain ⟨a, C, dx, fs, rfl, ha, hs, q⟩ := h
  cases (show u = Value.ref a from ry)
  obtain ⟨mA, J, _⟩ := ins_get I.hok ha
  obtain ⟨od, J, _⟩ := J.look
  obtain ⟨m, hF⟩ := I.fr
  refine PySem.W.notIn_K hF I.ok.mod.kin J hs hf ?_
  have r2 : Vals [V.ref a, x] [Value.ref a, v] := .cons rfl (.cons rx .nil)
  refine thn (wpAny_call (run_fnR F hr hx I r2 q)) fun w' s' ⟨z, H', I', rz, r, ez, q'⟩ => ?_
  subst ez
  cases rz
  exact wpAny_truthy_bool ⟨.bl (!r), H', I', rfl, q'⟩
end
/-! ### the same in a comprehension's block -/
section
variable {X : Cx} {P : Program} {w : World} {K : PySem.W.Frag} {mg : Str → Option Value} {base : Heap} {CX : CXT} {n : Nat} {f : Addr} {sp : Sp} {E : XK} {A : Around}
theorem op_inOK (F : FnR P w K mg base CX n f sp) (hf : PySem.W.isFn K (.ref f) = true) (hr : Room n A) (hP : X.prog = P) (hw : X.w = w) (hK : X.K = K) (hmg : X.mg = mg) (hb : X.base = base) (hA : X.A = A) (hx : Passes CX X E) : OpR X (compareOp .In) (rInO K false f sp E) := by
  subst hP hw hK hmg hb hA
  exact op_inO F hf hr hx
theorem op_notInOK (F : FnR P w K mg base CX n f sp) (hf : PySem.W.isFn K (.ref f) = true) (hr : Room n A) (hP : X.prog = P) (hw : X.w = w) (hK : X.K = K) (hmg : X.mg = mg) (hb : X.base = base) (hA : X.A = A) (hx : Passes CX X E) : OpR X (compareOp .NotIn) (rInO K true f sp E) := by
  subst hP hw hK hmg hb hA
  exact op_notInO F hf hr hx
end
section
variable {X : Cx} {K : PySem.W.Frag} {e : PySem.Expr} {te : TE} {f : Str} {pos : Pos}
theorem op_in_seqK (hK : X.K = K) : OpR X (compareOp .In) (rIn K false) := by subst hK; exact op_in_seq
theorem op_notIn_seqK (hK : X.K = K) : OpR X (compareOp .NotIn) (rIn K true) := by subst hK; exact op_notIn_seq
theorem cr_setTK {w : World} (hK : X.K = K) (hw : X.w = w) (hc : X.calm = true) : CallR X (.type "set") (rSetT K w) := by subst hK hw; exact cr_setT hc
theorem cr_sortTK {w : World} (hw : X.w = w) (hc : X.calm = true) : CallR X (.builtin "sorted") (rSortT w) := by subst hw; exact cr_sortT hc
theorem sl_listK (hK : X.K = K) : SlR X (rSlL K) := by subst hK; exact sl_list
theorem pe_fldK (hK : X.K = K) (he : PE X e te) (hab : attributeBase e f X.env (eval e X.env) = eval e X.env := by rfl) : PE X (.Attribute e f pos) (tFld K te f) := by subst hK; exact pe_fld he hab
end
/-! ### C(a = u, b = v), no positional argument -/
/-- the class under the module's name x, made by n arguments by position and others by name: gV puts them in the parameters' order -/
structure MkcN (P : Program) (w : World) (K : PySem.W.Frag) (mg : Str → Option Value) (base : Heap) (CX : CXT) (k : Nat) (C : Addr) (x : Str) (n : Nat) (ks : List Str) (gV : List V → List V → List V) (sp : Sp) : Prop where
  ex : ∃ f fd ps g, mg x = some (.ref C) ∧ Mk K C f ∧ FnOk P w K mg base CX k f fd ps sp ∧ KBn K fd ps (n + 1) ks g gV
section
variable {X : Cx} {CX : CXT} {k n : Nat} {C : Addr} {sp : Sp} {E : XK} {x : Str} {p pos : Pos} {e : PySem.Expr} {es : List PySem.Expr} {kws : List Keyword} {ks : List Str} {gV : List V → List V → List V} {t tk : TA}
theorem pe_mkN0 (c : MkcN X.prog X.w X.K X.mg X.base CX k C x 0 ks gV sp) (hr : Room (k + 1) X.A) (hg : Gl X x) (hx : Passes CX X E) (hkw : PK X kws tk)
    (hall : (backToKw pos (keywordEach kws X.env)).all (·.1.isSome) = true := by rfl) (hks : (backToKw pos (keywordEach kws X.env)).filterMap (·.1) = ks := by rfl)
    (hdb : (x == ("__debug__" : Str)) = false := by decide)
    (hpl : ((backTo pos (starEach [] X.env)).any (·.1) || (backToKw pos (keywordEach kws X.env)).any (·.1.isNone)) = false := by rfl) :
    PE X (.Call (.Name x p) [] kws pos) (tMakeN C 0 ks.length sp gV E tNil tk) := by
  obtain ⟨f, fd, ps, g, hm, M, F, hb⟩ := c.ex
  refine ⟨fun pins s σ H Q I h => ?_⟩
  refine wpAny_Call_Name_kw (ld_glob I hg hm ?_ hdb)
  refine PySem.W.callWith_KW0 (h₀ := X.base) I.ok.mod.kin M.kp hall ?_ hpl
  refine thn (hkw.run pos pins s σ H _ I h) fun ws s2 ⟨zs, H2, I2, rz, l1, l2, q2⟩ => ⟨I2.kIn, ?_⟩
  rw [hks]
  exact run_makeN (us := []) (vs := []) M F hr hb hx I2 .nil rz l1 l2 q2
theorem pe_mkN (c : MkcN X.prog X.w X.K X.mg X.base CX k C x n ks gV sp) (hr : Room (k + 1) X.A) (hg : Gl X x) (hx : Passes CX X E) (ha : PA X (e :: es) t) (hkw : PK X kws tk)
    (hall : (backToKw pos (keywordEach kws X.env)).all (·.1.isSome) = true := by rfl) (hks : (backToKw pos (keywordEach kws X.env)).filterMap (·.1) = ks := by rfl)
    (hdb : (x == ("__debug__" : Str)) = false := by decide) (he : starEach (e :: es) X.env = (false, eval e X.env) :: starEach es X.env := by rfl)
    (hpl : ((backTo pos (starEach (e :: es) X.env)).any (·.1) || (backToKw pos (keywordEach kws X.env)).any (·.1.isNone)) = false := by rfl) :
    PE X (.Call (.Name x p) (e :: es) kws pos) (tMakeN C n ks.length sp gV E t tk) := by
  obtain ⟨f, fd, ps, g, hm, M, F, hb⟩ := c.ex
  exact pe_makeN M F hr hg hm hb hx ha hkw hall hks hdb he hpl
end
theorem at_new {H : Hp} {D c : Addr} {o o' : HO} (hD : H D = none) (h : H c = some o) : upd H D o' c = some o := by rw [upd_ne (ne_of_none h hD)]; exact h
/-! ### a comprehension that changes nothing: f tells what an item gives, or that it is left out -/
section
variable {J : It} {G : Hp → Prop} {g : TG} {tt : TT} {te : TE} {vs : List Nat} {σ : L2.St} {H1 : Hp} {D : Addr} {Qd : Hp → Prop} {xs : List V}
theorem lc_pure (w : Walk J xs.length G (YAt xs)) (f : V → Option V) (hn : xs.length ≤ 100000) (hG : ∀ l, G (upd H1 D (.lst l)))
    (hs : ∀ (i : Nat) (x : V) (l : List V) (C : VK) (N : Hp → Prop), xs[i]? = some x → (∀ y, f x = some y → C y (upd H1 D (.lst l))) → (f x = none → N (upd H1 D (.lst l))) →
      g x (wipe σ vs) (upd H1 D (.lst l)) fun σ2 H2 => wipe σ2 vs = wipe σ vs ∧ tt σ2 H2 fun b H3 => if b = true then te σ2 H3 C else N H3)
    (hd : Qd (upd H1 D (.lst (xs.filterMap f)))) :
    ∃ W : Nat → Nat → Hp → Prop, (∃ m, W 0 m (upd H1 D (.lst []))) ∧ ∀ i m H, W i m H →
      (J.stop i H ∧ Qd H) ∨ (J.go i H ∧ ∃ Nx : Hp → Prop, (∀ H', Nx H' → ∃ m', m' < m ∧ W (i + 1) m' H') ∧ ∀ x H', J.yld i H x H' → g x (wipe σ vs) H' fun σ2 H2 => wipe σ2 vs = wipe σ vs ∧ tt σ2 H2 fun b H3 =>
        if b = true then te σ2 H3 fun y H4 => ∃ acc, H4 D = some (.lst acc) ∧ acc.length < sizeLine ∧ Nx (upd H4 D (.lst (acc ++ [y]))) else Nx H3) := by
  have h4 : sizeLine = 16777216 := sizeLine_eq
  refine lc_it w (fun i Hx => Hx = upd H1 D (.lst ((xs.take i).filterMap f))) (by simp) (fun i Hx _ e => by rw [e]; exact hG _) ?_ ?_
  · rintro i x Hx H' hi rfl ⟨rfl, hx⟩
    have tk : xs.take (i + 1) = xs.take i ++ [x] := by rw [List.take_add_one, hx]; rfl
    refine hs i x _ _ _ hx (fun y hy => ?_) fun hy => ?_
    · refine ⟨_, upd_same, ?_, ?_⟩
      · have h1 := List.length_filterMap_le f (xs.take i)
        have h2 := List.length_take_le i xs
        omega
      · rw [upd_upd, tk, List.filterMap_append]
        simp [hy]
    · rw [tk, List.filterMap_append]
      simp [hy]
  · rintro Hx rfl
    rw [List.take_length]
    exact hd
theorem lc_strs {zs : List Str} (w : Walk J (zs.map V.str).length G (YAt (zs.map V.str))) (p : Str → Option V) (hn : zs.length ≤ 100000) (hG : ∀ l, G (upd H1 D (.lst l)))
    (hs : ∀ (i : Nat) (z : Str) (l : List V) (C : VK) (N : Hp → Prop), zs[i]? = some z → (∀ y, p z = some y → C y (upd H1 D (.lst l))) → (p z = none → N (upd H1 D (.lst l))) →
      g (.str z) (wipe σ vs) (upd H1 D (.lst l)) fun σ2 H2 => wipe σ2 vs = wipe σ vs ∧ tt σ2 H2 fun b H3 => if b = true then te σ2 H3 C else N H3)
    (hd : Qd (upd H1 D (.lst (zs.filterMap p)))) :
    ∃ W : Nat → Nat → Hp → Prop, (∃ m, W 0 m (upd H1 D (.lst []))) ∧ ∀ i m H, W i m H →
      (J.stop i H ∧ Qd H) ∨ (J.go i H ∧ ∃ Nx : Hp → Prop, (∀ H', Nx H' → ∃ m', m' < m ∧ W (i + 1) m' H') ∧ ∀ x H', J.yld i H x H' → g x (wipe σ vs) H' fun σ2 H2 => wipe σ2 vs = wipe σ vs ∧ tt σ2 H2 fun b H3 =>
        if b = true then te σ2 H3 fun y H4 => ∃ acc, H4 D = some (.lst acc) ∧ acc.length < sizeLine ∧ Nx (upd H4 D (.lst (acc ++ [y]))) else Nx H3) := by
  refine lc_pure w (fun x => match x with | .str z => p z | _ => none) (by rw [List.length_map]; exact hn) hG (fun i x l C N hx hC hN => ?_) ?_
  · rw [List.getElem?_map] at hx
    obtain ⟨z, hz, rfl⟩ := Option.map_eq_some_iff.mp hx
    exact hs i z l C N hz hC hN
  · rw [List.filterMap_map]
    exact hd
/-- the heap may grow; what each turn gives is known -/
theorem lc_det {n : Nat} {Y : Nat → Hp → V → Hp → Prop} (w : Walk J n G Y) (ys : List V) (hl : ys.length = n) (hn : n ≤ 100000) (hD : H1 D = none) (hG : ∀ H, Ext H1 H → G H)
    (hs : ∀ (i : Nat) (x : V) (H H' : Hp) (C : VK), i < n → Ext H1 H → Y i H x H' → (∀ y H4, Ext H H4 → ys[i]? = some y → C y H4) → g x (wipe σ vs) H' fun σ2 H2 => wipe σ2 vs = wipe σ vs ∧ te σ2 H2 C)
    (hd : ∀ H, Ext H1 H → H D = some (.lst ys) → Qd H) :
    ∃ W : Nat → Nat → Hp → Prop, (∃ m, W 0 m (upd H1 D (.lst []))) ∧ ∀ i m H, W i m H →
      (J.stop i H ∧ Qd H) ∨ (J.go i H ∧ ∃ Nx : Hp → Prop, (∀ H', Nx H' → ∃ m', m' < m ∧ W (i + 1) m' H') ∧ ∀ x H', J.yld i H x H' → g x (wipe σ vs) H' fun σ2 H2 => wipe σ2 vs = wipe σ vs ∧ tYes σ2 H2 fun b H3 =>
        if b = true then te σ2 H3 fun y H4 => ∃ acc, H4 D = some (.lst acc) ∧ acc.length < sizeLine ∧ Nx (upd H4 D (.lst (acc ++ [y]))) else Nx H3) := by
  have ex : ∀ {H : Hp}, Ext (hid [D] H1) (hid [D] H) → Ext H1 H := fun {H} e b o q => Ext.at' e (by simpa using ne_of_none q hD) q
  refine lc_map w [D] (by simp) (fun _ => True) (fun j y _ => ys[j]? = some y) hn (fun _ _ _ _ _ h => h) (fun _ _ _ => trivial) trivial (fun H e _ => hG H (ex e)) ?_ ?_
  · intro i x H H' acc C hi e _ hDs y hC
    exact hs i x H H' C hi (ex e) y fun y H4 e4 hy => hC y H4 (e4 _ _ hDs) (hid_mono e4) trivial hy
  · intro H zs e _ hDs hl' hz
    have : zs = ys := by
      refine List.ext_getElem? fun j => ?_
      cases q : zs[j]? with
      | none =>
        have := List.getElem?_eq_none_iff.mp q
        symm
        rw [List.getElem?_eq_none_iff]
        omega
      | some y => exact (hz j y q).symm
    subst this
    exact hd H (ex e) hDs
end
end Ls
end
section
set_option Elab.async false
set_option linter.all false
set_option maxRecDepth 100000
set_option maxHeartbeats 4000000
namespace K19
open PySem PySem.Spec PyProof.Rows L2 Ls
open C8 (pss_cut tCut)
open TL
def top (i : Nat) : Stmt := PySem.Challenge.pw_loopstow_k19_standings.main.body.getD i (.Pass ⟨0, 0, 0, 0⟩)
def inClass (s : Stmt) (j : Nat) : Stmt := match s with
  | .ClassDef _ _ _ body .. => body.getD j (.Pass ⟨0, 0, 0, 0⟩)
  | _ => .Pass ⟨0, 0, 0, 0⟩
def bns : List Str := ["len", "int", "abs", "list", "str", "isinstance", "all", "range", "tuple", "super", "repr", "set", "sorted", "enumerate", "ValueError"]
def lettersS : Str := "abcdefghijklmnopqrstuvwxyz"
/-- what the top has left, for the defs -/
structure Tx (K : PySem.W.Frag) (mg : Str → Option Value) (CE CN CB CW CS : Addr) (tL tN : Tok) : Prop where
  bn : ∀ x ∈ bns, mg x = none
  m_LETTERS : mg "LETTERS" = some (.str lettersS tL)
  m_LONGEST_NAME : mg "LONGEST_NAME" = some (.int 6 tN)
  m_StowError : mg "StowError" = some (.ref CE)
  m_BadName : mg "BadName" = some (.ref CN)
  m_BadStanding : mg "BadStanding" = some (.ref CB)
  m_Twice : mg "Twice" = some (.ref CW)
  m_Standing : mg "Standing" = some (.ref CS)
/-! ### the pen -/
/-- a pen stands at p, its cells at c; at most n cells were read -/
def PenAt (H : Hp) (p c : Addr) (n : Nat) : Prop := ∃ (ns : List Int) (a r : Int), H p = some (.lst [.ref c, .int a, .int r]) ∧ H c = some (.lst (ns.map V.int)) ∧ p ≠ c ∧ 0 ≤ a ∧ a ≤ n ∧ 0 ≤ r ∧ ns.length ≤ 63
theorem PenAt.mono {H : Hp} {p c : Addr} {n m : Nat} (h : PenAt H p c n) (l : n ≤ m) : PenAt H p c m := let ⟨ns, a, r, h1, h2, h3, h4, h5, h6, h7⟩ := h; ⟨ns, a, r, h1, h2, h3, h4, by omega, h6, h7⟩
theorem PenAt.upd {H : Hp} {p c a : Addr} {n : Nat} {o : HO} (h : PenAt H p c n) (np : p ≠ a) (nc : c ≠ a) : PenAt (upd H a o) p c n := by
  obtain ⟨ns, b, r, h1, h2, h3⟩ := h
  exact ⟨ns, b, r, by rw [upd_ne np]; exact h1, by rw [upd_ne nc]; exact h2, h3⟩
theorem PenAt.ext {H H' : Hp} {p c : Addr} {n : Nat} (h : PenAt H p c n) (e : Ext H H') : PenAt H' p c n := by
  obtain ⟨ns, b, r, h1, h2, h3⟩ := h
  exact ⟨ns, b, r, e _ _ h1, e _ _ h2, h3⟩
theorem PenAt.ne {H : Hp} {p c a : Addr} {n : Nat} (h : PenAt H p c n) (ha : H a = none) : p ≠ a ∧ c ≠ a := by
  obtain ⟨ns, b, r, h1, h2, _⟩ := h
  exact ⟨ne_of_none h1 ha, ne_of_none h2 ha⟩
theorem PenAt.tabs {H H' : Hp} {p c : Addr} {n : Nat} {TT : List (Addr × Str)} (h : PenAt H p c n) (t : LamX.Tabs TT H) (k : Keep p c H H') : LamX.Tabs TT H' := by
  obtain ⟨ns, b, r, h1, h2, _⟩ := h
  exact tabs_keep t k h1 h2
theorem PenAt.extN {H H' : Hp} {p c : Addr} {n : Nat} (h : PenAt H p c n) (e : LamX.ExtN H H') : PenAt H' p c n := by
  obtain ⟨ns, b, r, h1, h2, h3⟩ := h
  exact ⟨ns, b, r, e _ _ h1 (fun ps z => nomatch z), e _ _ h2 (fun ps z => nomatch z), h3⟩
def spDraw : Sp := fun vs H Q _ => ∃ (p c : Addr) (n : Nat) (many : Int), vs = [.ref p, .int many] ∧ PenAt H p c n ∧ n < 1048576 ∧ 0 < many ∧ many < 1073741824 ∧
  ∀ (j : Int) (H' : Hp), 0 ≤ j → j < many → PenAt H' p c (n + 1) → Keep p c H H' → Q (.int j) H'
section
variable {P : Program} {w : World} {K : PySem.W.Frag} {mg : Str → Option Value} {base : Heap} {CE CN CB CW CS : Addr} {tL tN : Tok}
abbrev s__law_draw : Stmt := top 19
abbrev N__law_draw : List Str := ["_law_pen_here", "_law_many", "_law_digit", "_law_at", "_law_cell", "_law_great", "_law_mixed_here"]
theorem sc__law_draw : FnScope N__law_draw ["_law_pen_here", "_law_many"] (defScope s__law_draw) := ⟨rfl, rfl, rfl, by decide +kernel, rfl, by decide +kernel, by decide +kernel⟩
theorem pow18 : ((10 : Int) ^ (18 : Int).toNat) = 1000000000000000000 := by decide +kernel
theorem ok_draw {f : Addr} {fd : FuncData} (F : Fun K "_law_draw" "_law_draw" s__law_draw f fd) (T : Tx K mg CE CN CB CW CS tL tN) : FnOk P w K mg base CX0 1 f fd ["_law_pen_here", "_law_many"] spDraw := by
  refine F.ok sc__law_draw (fun vs H Q E h => ?_) (fun cdv A outer s H vs Q E hr h => ?_)
  · obtain ⟨p, c, n, many, rfl, _⟩ := h
    rfl
  · obtain ⟨p, c, n, many, rfl, ⟨ns, a, r, hp, hc, npc, a0, an, r0, hz⟩, n1, m0, m1, k⟩ := h
    have hu := hu_of hr
    refine ⟨_, (pss_cons (ps_if (pt_cmpR op_gt (pe_ix ix_list (pv 0) pe_int (fun _ _ => rfl)) pe_int (nomark _)) (pss_cons (ps_set (i := 2) sc__law_draw.nd rfl (by first | exact Or.inl rfl | exact Or.inr rfl) (pe_op op_mod (pe_callTy call_int1 (by rfl) (T.bn _ (by decide +kernel)) (by decide +kernel) (pa_cons (pe_ix ix_list (pv 0) pe_int (fun _ _ => rfl)) pa_nil)) (pv 1)))
      (pss_cons (ps_asg (pe_op op_fdiv (pe_callTy call_int1 (by rfl) (T.bn _ (by decide +kernel)) (by decide +kernel) (pa_cons (pe_ix ix_list (pv 0) pe_int (fun _ _ => rfl)) pa_nil)) (pv 1)) (pg_sub (pv 0) pe_int set_list))
      (pss_one (ps_ret (pv 2))))) pss_nil)
      (pss_cons (ps_set (i := 3) sc__law_draw.nd rfl (by first | exact Or.inl rfl | exact Or.inr rfl) (pe_ix ix_list (pv 0) pe_int (fun _ _ => rfl)))
      (pss_cons (ps_asg (pe_op op_add (pv 3) pe_int) (pg_sub (pv 0) pe_int set_list))
      (pss_cons (ps_set (i := 4) sc__law_draw.nd rfl (by first | exact Or.inl rfl | exact Or.inr rfl) (pe_op op_add (pe_op op_mul pe_int (pv 3)) pe_int))
      (pss_cut (ps_if (pt_cmpR (op_neNil hr) (pe_ix ix_list (pv 0) pe_int (fun _ _ => rfl)) (pe_lst pa_nil) (nomark _)) (pss_one (ps_set (i := 4) sc__law_draw.nd rfl (by first | exact Or.inl rfl | exact Or.inr rfl) (pe_ix ix_list (pe_ix ix_list (pv 0) pe_int (fun _ _ => rfl)) (pe_op op_mod (pe_callTy call_int1 (by rfl) (T.bn _ (by decide +kernel)) (by decide +kernel) (pa_cons (pv 3) pa_nil)) (pe_callB call_len_seq (by rfl) (T.bn _ (by decide +kernel)) (by decide +kernel) (pa_cons (pe_ix ix_list (pv 0) pe_int (fun _ _ => rfl)) pa_nil))) (fun _ _ => rfl)))) pss_nil)
      (pss_cut (ps_if ((pw_and (pt_cmpR op_lt (pv 3) (pe_callB call_len_seq (by rfl) (T.bn _ (by decide +kernel)) (by decide +kernel) (pa_cons (pe_ix ix_list (pv 0) pe_int (fun _ _ => rfl)) pa_nil)) (nomark _)) (pw_and1 (pt_cmpR op_ge (pe_callB call_abs (by rfl) (T.bn _ (by decide +kernel)) (by decide +kernel) (pa_cons (pv 4) pa_nil)) (pe_op op_pow pe_int pe_int) (nomark _))))).pt (pss_cons (ps_set (i := 5) sc__law_draw.nd rfl (by first | exact Or.inl rfl | exact Or.inr rfl) (pe_op op_add (pe_op op_mul pe_int (pe_callB call_abs (by rfl) (T.bn _ (by decide +kernel)) (by decide +kernel) (pa_cons (pv 4) pa_nil))) (pe_callTy call_int1 (by rfl) (T.bn _ (by decide +kernel)) (by decide +kernel) (pa_cons (pe_cmpR op_lt (pv 4) pe_int (nomark _)) pa_nil))))
      (pss_cons (ps_asg (pe_op op_fdiv (pv 5) (pv 1)) (pg_sub (pv 0) pe_int set_list))
      (pss_one (ps_ret (pe_op op_mod (pe_callTy call_int1 (by rfl) (T.bn _ (by decide +kernel)) (by decide +kernel) (pa_cons (pv 5) pa_nil)) (pv 1)))))) pss_nil)
      (pss_cons (ps_set (i := 6) sc__law_draw.nd rfl (by first | exact Or.inl rfl | exact Or.inr rfl) (pe_op op_mod (pe_callTy call_int1 (by rfl) (T.bn _ (by decide +kernel)) (by decide +kernel) (pa_cons (pe_op op_pow (pe_op op_add (pe_op op_add (pe_op op_mod (pe_callTy call_int1 (by rfl) (T.bn _ (by decide +kernel)) (by decide +kernel) (pa_cons (pv 4) pa_nil)) pe_int) (pe_op op_mul pe_int (pv 3))) pe_int) pe_int) pa_nil)) pe_int))
      (pss_cons (ps_set (i := 6) sc__law_draw.nd rfl (by first | exact Or.inl rfl | exact Or.inr rfl) (pe_op op_mod (pe_callTy call_int1 (by rfl) (T.bn _ (by decide +kernel)) (by decide +kernel) (pa_cons (pe_op op_pow (pe_op op_add (pe_op op_add (pe_op op_mul (pv 6) (pe_op op_add (pe_op op_mul pe_int (pv 3)) pe_int)) (pe_op op_mul (pe_op op_mul pe_int (pv 3)) (pv 3))) pe_int) pe_int) pa_nil)) pe_int))
      (pss_one (ps_ret (pe_op op_mod (pe_callTy call_int1 (by rfl) (T.bn _ (by decide +kernel)) (by decide +kernel) (pa_cons (pe_op op_fdiv (pv 6) pe_int) pa_nil)) (pv 1)))))))))))), ?_⟩
    refine ⟨_, rfl, p, _, 2, .int r, rfl, rfl, SqL.of hp, atI_nat (j := 2) rfl, r, 0, rfl, rfl, _, rfl, ?_⟩
    refine ite2 (fun hpos => ?_) (fun hno => ?_)
    · have hpos' : 0 < r := by simpa using hpos
      refine ⟨_, rfl, p, _, 2, .int r, rfl, rfl, SqL.of hp, atI_nat (j := 2) rfl, .inl ⟨r, rfl, _, rfl, _, _, rfl, rfl, m0, ?_⟩⟩
      refine ⟨_, rfl, p, _, 2, .int r, rfl, rfl, SqL.of hp, atI_nat (j := 2) rfl, .inl ⟨r, rfl, _, rfl, _, _, rfl, rfl, ⟨m0, m1⟩, ?_⟩⟩
      refine ⟨_, rfl, p, _, 2, 2, rfl, rfl, hp, rfl, ?_⟩
      refine ⟨_, rfl, k _ _ (Int.emod_nonneg _ (by omega)) (Int.emod_lt_of_pos _ m0) ⟨ns, a, r / many, upd_same, by rw [upd_ne npc.symm]; exact hc, npc, a0, by omega, Int.ediv_nonneg (by omega) (by omega), hz⟩ Keep.upd1⟩
    · refine ⟨_, rfl, p, _, 1, .int a, rfl, rfl, SqL.of hp, atI_nat (j := 1) rfl, ?_⟩
      refine ⟨_, rfl, _, _, rfl, rfl, ?_⟩
      refine ⟨_, rfl, p, _, 1, 1, rfl, rfl, hp, rfl, ?_⟩
      have hp1 : (upd H p (.lst [.ref c, .int (a + 1), .int r])) p = some (.lst [.ref c, .int (a + 1), .int r]) := upd_same
      have hc1 : (upd H p (.lst [.ref c, .int (a + 1), .int r])) c = some (.lst (ns.map V.int)) := by rw [upd_ne npc.symm]; exact hc
      have kp1 : Keep p c H (upd H p (.lst [.ref c, .int (a + 1), .int r])) := Keep.upd1
      refine ⟨_, rfl, _, _, rfl, rfl, .inl ⟨by decide, by decide⟩, _, _, rfl, rfl, ?_⟩
      -- behind the if: the cell is a number
      refine ⟨fun σ' H' => ∃ z : Int, σ' = [some (.ref p), some (.int many), none, some (.int a), some (.int z), none, none] ∧ H' p = some (.lst [.ref c, .int (a + 1), .int r]) ∧ H' c = some (.lst (ns.map V.int)) ∧ Keep p c H H', ?_, ?_⟩
      · refine ⟨_, rfl, p, _, 0, .ref c, rfl, rfl, SqL.of hp1, atI_nat (j := 0) rfl, (by show 0 ≤ sizeLine; decide), fun l hl => ?_⟩
        have npl : p ≠ l := ne_of_none hp1 hl
        have ncl : c ≠ l := ne_of_none hc1 hl
        refine ⟨c, l, _, rfl, rfl, by rw [upd_ne ncl]; exact hc1, upd_same, _, rfl, ?_⟩
        have hp2 : (upd (upd H p (.lst [.ref c, .int (a + 1), .int r])) l (.lst [])) p = some (.lst [.ref c, .int (a + 1), .int r]) := by rw [upd_ne npl]; exact hp1
        have hc2 : (upd (upd H p (.lst [.ref c, .int (a + 1), .int r])) l (.lst [])) c = some (.lst (ns.map V.int)) := by rw [upd_ne ncl]; exact hc1
        have kp2 : Keep p c H (upd (upd H p (.lst [.ref c, .int (a + 1), .int r])) l (.lst [])) := kp1.trans (Keep.new hl)
        cases ns with
        | nil =>
          refine iteF ?_
          exact ⟨_, rfl, hp2, hc2, kp2⟩
        | cons n0 ns =>
          refine iteT ?_
          have hlen : (0 : Int) < (((n0 :: ns).map V.int).length : Nat) := by simp
          have j0 := Int.emod_nonneg a (Int.ne_of_gt hlen)
          have j1 := Int.emod_lt_of_pos a hlen
          refine ⟨_, rfl, p, _, 0, .ref c, rfl, rfl, SqL.of hp2, atI_nat (j := 0) rfl, _, rfl, .inl ⟨a, rfl, _, rfl, p, _, 0, .ref c, rfl, rfl, SqL.of hp2, atI_nat (j := 0) rfl, c, _, rfl, .inl (SqL.of hc2), _, _, rfl, rfl, hlen, ?_⟩⟩
          have hj : (a % (((n0 :: ns).map V.int).length : Nat)).toNat < ((n0 :: ns).map V.int).length := by omega
          refine ⟨c, _, _, ((n0 :: ns).map V.int)[(a % (((n0 :: ns).map V.int).length : Nat)).toNat], rfl, rfl, SqL.of hc2, atI_at (j := (a % (((n0 :: ns).map V.int).length : Nat)).toNat) (by omega) (List.getElem?_eq_getElem hj), ?_⟩
          rw [List.getElem_map]
          exact ⟨_, rfl, hp2, hc2, kp2⟩
      · rintro σ' H1 ⟨z, rfl, hp1, hc1, kp1⟩
        have ab : (0 : Int) ≤ (if z < 0 then -z else z) := by split <;> omega
        have last : ∀ j : Int, 0 ≤ j → j < many → Q (.int j) H1 := fun j j0 j1 => k j H1 j0 j1 ⟨ns, a + 1, r, hp1, hc1, npc, by omega, by omega, r0, hz⟩ kp1
        refine ⟨fun σ' H' => σ' = [some (.ref p), some (.int many), none, some (.int a), some (.int z), none, none] ∧ H' = H1, ?_, ?_⟩
        · refine ⟨_, rfl, _, rfl, p, _, 0, .ref c, rfl, rfl, SqL.of hp1, atI_nat (j := 0) rfl, c, _, rfl, .inl (SqL.of hc1), _, _, rfl, rfl, _, rfl, ?_⟩
          refine ite2 (fun h1 => ?_) (fun h1 => ?_)
          · refine ⟨_, rfl, z, rfl, _, _, rfl, rfl, ⟨by decide, by decide, by decide⟩, _, _, rfl, rfl, _, rfl, ?_⟩
            refine ite2 (fun h2 => ?_) (fun h2 => ?_)
            · refine ⟨_, rfl, z, rfl, _, _, rfl, rfl, .inl ⟨by decide, by decide⟩, ?_⟩
              refine ⟨_, rfl, _, _, rfl, rfl, .inr ⟨_, rfl, _, _, rfl, rfl, ?_⟩⟩
              refine ⟨_, rfl, _, rfl, _, _, rfl, rfl, ⟨m0, m1⟩, ?_⟩
              refine ⟨_, rfl, p, _, 2, 2, rfl, rfl, hp1, rfl, ?_⟩
              refine ⟨_, rfl, .inl ⟨_, rfl, _, rfl, _, _, rfl, rfl, m0, ?_⟩⟩
              refine k _ _ (Int.emod_nonneg _ (by omega)) (Int.emod_lt_of_pos _ m0) ⟨ns, a + 1, _, upd_same, by rw [upd_ne npc.symm]; exact hc1, npc, by omega, by omega, ?_, hz⟩ (kp1.trans Keep.upd1)
              refine Int.ediv_nonneg ?_ (by omega)
              have : (0 : Int) ≤ (if decide (z < 0) = true then 1 else 0) := by split <;> decide
              omega
            · exact ⟨rfl, rfl⟩
          · exact ⟨rfl, rfl⟩
        · rintro σ' H' ⟨rfl, rfl⟩
          have z0 := Int.emod_nonneg z (show (2147483563 : Int) ≠ 0 by decide)
          have z1 := Int.emod_lt_of_pos z (show (0 : Int) < 2147483563 by decide)
          refine ⟨_, rfl, .inl ⟨z, rfl, _, _, rfl, rfl, (by show (0 : Int) < 2147483563; decide), ?_⟩⟩
          refine ⟨_, rfl, _, _, rfl, rfl, .inl ⟨by decide, by decide⟩, _, _, rfl, rfl, _, _, rfl, rfl, _, _, rfl, rfl, ⟨by decide, by decide, ?_⟩, .inl ⟨_, rfl, _, _, rfl, rfl, (by show (0 : Int) < 2147483587; decide), ?_⟩⟩
          · show (z % 2147483563 + 52027 * a + 163).natAbs < 2 ^ 64
            have : (2 : Nat) ^ 64 = 18446744073709551616 := by decide
            omega
          obtain ⟨m, hm⟩ : ∃ m, (z % 2147483563 + 52027 * a + 163) ^ (5 : Int).toNat % 2147483587 = m := ⟨_, rfl⟩
          have q0 : 0 ≤ m := by rw [← hm]; exact Int.emod_nonneg _ (by decide)
          have q1 : m < 2147483587 := by rw [← hm]; exact Int.emod_lt_of_pos _ (by decide)
          have a1 : a ≤ 1048576 := by omega
          have e1 : m * (2 * a + 167) ≤ 2147483587 * 2097319 := Int.mul_le_mul (by omega) (by omega) (by omega) (by decide)
          have e2 : 0 ≤ m * (2 * a + 167) := Int.mul_nonneg q0 (by omega)
          have e3 : 41023 * a * a ≤ 41023 * 1048576 * 1048576 := Int.mul_le_mul (by omega) a1 a0 (by decide)
          have e4 : 0 ≤ 41023 * a * a := Int.mul_nonneg (by omega) a0
          refine ⟨_, rfl, _, rfl, _, _, rfl, rfl, .inl ⟨by decide, by decide⟩, _, _, rfl, rfl, _, _, rfl, rfl, .inl ⟨by omega, by omega⟩, ?_⟩
          refine ⟨_, rfl, _, _, rfl, rfl, .inl ⟨by decide, by decide⟩, _, rfl, _, _, rfl, rfl, .inr ⟨by omega, by omega⟩, _, _, rfl, rfl, _, _, rfl, rfl, _, _, rfl, rfl, ⟨by decide, by decide, ?_⟩, .inl ⟨_, rfl, _, _, rfl, rfl, (by show (0 : Int) < 2147483629; decide), ?_⟩⟩
          · show ((z % 2147483563 + 52027 * a + 163) ^ (5 : Int).toNat % 2147483587 * (2 * a + 167) + 41023 * a * a + 23).natAbs < 2 ^ 64
            rw [hm]
            have : (2 : Nat) ^ 64 = 18446744073709551616 := by decide
            generalize m * (2 * a + 167) = u at e1 e2
            generalize 41023 * a * a = v at e3 e4
            omega
          refine ⟨_, rfl, _, _, rfl, rfl, ⟨by decide, by decide⟩, .inl ⟨_, rfl, _, rfl, _, _, rfl, rfl, m0, ?_⟩⟩
          exact last _ (Int.emod_nonneg _ (by omega)) (Int.emod_lt_of_pos _ m0)
/-! ### the pen made; a pick -/
def spPen (K : PySem.W.Frag) : Sp := fun vs H Q _ => ∃ (a : Addr) (ns : List Int), vs = [.ref a] ∧ SqL K H a (ns.map V.int) ∧ ns.length ≤ 1000 ∧ ∀ p c H', PenAt H' p c 0 → Ext H H' → H p = none → H c = none → Q (.ref p) H'
abbrev s__law_pen : Stmt := top 18
abbrev N__law_pen : List Str := ["_law_script"]
theorem sc__law_pen : FnScope N__law_pen ["_law_script"] (defScope s__law_pen) := ⟨rfl, rfl, rfl, by decide +kernel, rfl, by decide +kernel, by decide +kernel⟩
theorem ok_pen {f : Addr} {fd : FuncData} (F : Fun K "_law_pen" "_law_pen" s__law_pen f fd) (T : Tx K mg CE CN CB CW CS tL tN) : FnOk P w K mg base CX0 1 f fd ["_law_script"] (spPen K) := by
  refine F.ok sc__law_pen (fun vs H Q E h => ?_) (fun cdv A outer s H vs Q E hr h => ?_)
  · obtain ⟨a, ns, rfl, _⟩ := h
    rfl
  · obtain ⟨a, ns, rfl, ha, hn, k⟩ := h
    refine ⟨_, (pss_one (ps_ret (pe_lst (pa_cons (pe_callTy call_list_of (by rfl) (T.bn _ (by decide +kernel)) (by decide +kernel) (pa_cons (pe_slice sl_list (pv 0) po_none (po_some pe_int)) pa_nil)) (pa_cons pe_int (pa_cons pe_int pa_nil)))))), ?_⟩
    refine ⟨_, rfl, 63, rfl, a, _, rfl, ha, fun q hq => ?_⟩
    refine ⟨q, _, rfl, .inl (SqL.of upd_same), fun c hc => ?_⟩
    have nqc : q ≠ c := ne_of_none upd_same hc
    refine ⟨(by show 3 ≤ sizeLine; decide), fun p hp => ?_⟩
    have npc : p ≠ c := (ne_of_none upd_same hp).symm
    have e1 := Ext.upd (o := HO.lst (((ns.map V.int).drop (HT.sIx (ns.map V.int).length 0 none)).take (HT.sIx (ns.map V.int).length (ns.map V.int).length (some 63) - HT.sIx (ns.map V.int).length 0 none))) hq
    refine k p c _ ⟨(ns.drop (HT.sIx (ns.map V.int).length 0 none)).take (HT.sIx (ns.map V.int).length (ns.map V.int).length (some 63) - HT.sIx (ns.map V.int).length 0 none), 0, 0, upd_same, ?_, npc, by decide, by decide, by decide, ?_⟩ ((e1.trans (Ext.upd hc)).trans (Ext.upd hp)) ?_ ?_
    · rw [upd_ne npc.symm, upd_same, List.map_take, List.map_drop]
      rfl
    · have : HT.sIx (ns.map V.int).length (ns.map V.int).length (some 63) ≤ 63 := by
        unfold HT.sIx
        simp
        omega
      rw [List.length_take]
      omega
    · exact ext_free (e1.trans (Ext.upd hc)) hp
    · exact ext_free e1 hc
def spPick (K : PySem.W.Frag) : Sp := fun vs H Q _ => ∃ (p c : Addr) (n : Nat) (v : V), vs = [.ref p, v] ∧ PenAt H p c n ∧ n < 1048576 ∧
  ((∃ (l : Addr) (xs : List V), v = .ref l ∧ l ≠ p ∧ l ≠ c ∧ H l = some (.lst xs) ∧ 0 < xs.length ∧ xs.length ≤ 1000 ∧ ∀ x H', x ∈ xs → PenAt H' p c (n + 1) → Keep p c H H' → Q x H') ∨
    ∃ z : Str, v = .str z ∧ 0 < z.length ∧ z.length ≤ 1000 ∧ ∀ c' H', c' ∈ tl z → PenAt H' p c (n + 1) → Keep p c H H' → Q (.str ⟨#[c']⟩) H')
abbrev s__law_pick : Stmt := top 20
abbrev N__law_pick : List Str := ["_law_pen_here", "_law_some"]
theorem sc__law_pick : FnScope N__law_pick ["_law_pen_here", "_law_some"] (defScope s__law_pick) := ⟨rfl, rfl, rfl, by decide +kernel, rfl, by decide +kernel, by decide +kernel⟩
theorem ok_pick {f : Addr} {fd : FuncData} (F : Fun K "_law_pick" "_law_pick" s__law_pick f fd) (T : Tx K mg CE CN CB CW CS tL tN) (c__law_draw : Cal P w K mg base CX0 1 "_law_draw" spDraw) : FnOk P w K mg base CX0 2 f fd ["_law_pen_here", "_law_some"] (spPick K) := by
  refine F.ok sc__law_pick (fun vs H Q E h => ?_) (fun cdv A outer s H vs Q E hr h => ?_)
  · obtain ⟨p, c, n, v, rfl, _⟩ := h
    rfl
  · obtain ⟨p, c, n, v, rfl, hp, hn, h⟩ := h
    refine ⟨_, (pss_one (ps_ret (pe_ix ix_seq (pv 1) (pe_cal c__law_draw (hr.mono (by decide)) (by rfl) pass0 (pa_cons (pv 0) (pa_cons (pe_callB (CallR.or call_len_seq call_len_str) (by rfl) (T.bn _ (by decide +kernel)) (by decide +kernel) (pa_cons (pv 1) pa_nil)) pa_nil))) (fun _ _ => rfl)))), ?_⟩
    rcases h with ⟨l, xs, rfl, n1, n2, hl, h0, h1, k⟩ | ⟨z, rfl, h0, h1, k⟩
    · refine ⟨_, rfl, _, rfl, _, rfl, .inl ⟨l, _, rfl, .inl (SqL.of hl), p, c, n, _, rfl, hp, hn, by omega, by omega, fun j H1 j0 j1 hp1 kp => ?_⟩⟩
      have hl1 := kp l _ hl n1 n2
      have hj : j.toNat < xs.length := by omega
      exact .inl ⟨l, xs, j, xs[j.toNat], rfl, rfl, SqL.of hl1, atI_at (j := j.toNat) (by omega) (List.getElem?_eq_getElem hj), k _ H1 (List.getElem_mem hj) hp1 kp⟩
    · refine ⟨_, rfl, _, rfl, _, rfl, .inr ⟨z, rfl, Nat.le_of_lt (small1000 h1), p, c, n, _, rfl, hp, hn, by omega, by omega, fun j H1 j0 j1 hp1 kp => ?_⟩⟩
      have hj : j.toNat < z.cps.toList.length := by
        have : z.cps.toList.length = z.length := by simp; rfl
        omega
      exact .inr (.inr ⟨z, j, z.cps.toList[j.toNat], rfl, rfl, Nat.le_of_lt (small1000 h1), atI_at (j := j.toNat) (by omega) (List.getElem?_eq_getElem hj), k _ H1 (List.getElem_mem hj) hp1 kp⟩)
end
end K19
end
section
set_option Elab.async false
set_option autoImplicit false
set_option linter.all false
set_option maxRecDepth 100000
set_option maxHeartbeats 4000000
set_option pp.maxSteps 1500
namespace K19
open PySem PySem.Spec PyProof.Rows L2 Ls
open C8 (pss_cut tCut)
open TL
/-! ### the data -/
def isName (z : Str) : Bool := decide (1 ≤ z.length) && (decide (z.length ≤ 6) && (tl z).all fun c => decide (c ∈ tl lettersS))
/-- the name that a value is -/
def nameOf : PyData → Option Str
  | .str z => if isName z = true then some z else none
  | _ => none
theorem nameOf_some {d : PyData} {n : Str} (h : nameOf d = some n) : d = .str n ∧ isName n = true := by
  cases d with
  | str z =>
    have h : (if isName z = true then some z else none) = some n := h
    by_cases e : isName z = true
    · rw [if_pos e] at h
      cases h
      exact ⟨rfl, e⟩
    · rw [if_neg e] at h
      cases h
  | _ => cases h
theorem nameOf_str {z : Str} (h : isName z = true) : nameOf (.str z) = some z := if_pos h
theorem nameOf_no {z : Str} (h : isName z = false) : nameOf (.str z) = none := if_neg (by rw [h]; exact Bool.false_ne_true)
theorem name_len {z : Str} (h : isName z = true) : 1 ≤ z.length ∧ z.length ≤ 6 := by
  unfold isName at h
  simp only [Bool.and_eq_true, decide_eq_true_eq] at h
  exact ⟨h.1, h.2.1⟩
theorem name_sub {z : Str} (h : isName z = true) : ∀ c ∈ tl z, c ∈ tl lettersS := by
  unfold isName at h
  simp only [Bool.and_eq_true, decide_eq_true_eq, List.all_eq_true] at h
  exact h.2.2
theorem name_no {z : Str} (h : isName z = true) {c : Nat} (hc : c ∉ tl lettersS) : c ∉ tl z := fun hm => hc (name_sub h c hm)
section
variable {P : Program} {w : World} {K : PySem.W.Frag} {mg : Str → Option Value} {base : Heap} {CE CN CB CW CS : Addr} {tL tN : Tok}
/-! ### is_name -/
def spName : Sp := fun vs H Q _ => ∃ (v : V) (d : PyData), vs = [v] ∧ TV H v d ∧ SmD d ∧ ∀ H', Ext H H' → Q (.bl (nameOf d).isSome) H'
abbrev s_is_name : Stmt := top 8
abbrev N_is_name : List Str := ["value", "letter"]
theorem sc_is_name : FnScope N_is_name ["value"] (defScope s_is_name) := ⟨rfl, rfl, rfl, by decide +kernel, rfl, by decide +kernel, by decide +kernel⟩
theorem ok_name {f : Addr} {fd : FuncData} (F : Fun K "is_name" "is_name" s_is_name f fd) (T : Tx K mg CE CN CB CW CS tL tN) : FnOk P w K mg base CX0 1 f fd ["value"] spName := by
  refine F.ok sc_is_name (fun vs H Q E h => ?_) (fun cdv A outer s H vs Q E hr h => ?_)
  · obtain ⟨v, d, rfl, _⟩ := h
    rfl
  · obtain ⟨v, d, rfl, hv, sm, k⟩ := h
    refine ⟨_, (pss_cons (ps_if ((pw_or (pt_not (pt_val (pe_callB call_isi (by rfl) (T.bn _ (by decide +kernel)) (by decide +kernel) (pa_cons (pv 0) (pa_cons (pe_gty (T := "str") (by rfl) (T.bn _ (by decide +kernel)) (by decide +kernel)) pa_nil))))) (pw_or1 (pt_not (pt_chain op_le op_le pe_int (pe_callB call_len_str (by rfl) (T.bn _ (by decide +kernel)) (by decide +kernel) (pa_cons (pv 0) pa_nil)) (pe_gint (by rfl) T.m_LONGEST_NAME)))))).pt (pss_one (ps_ret pe_bl)) pss_nil)
      (pss_one (ps_ret (pe_callB (cr_all rfl) (by rfl) (T.bn _ (by decide +kernel)) (by decide +kernel) (pa_cons (pe_lc (own := [("letter", 1)]) rfl sc_is_name.nd (pi_str (pv 0)) (blkOk_by (own := [("letter", 1)]) (N := N_is_name) (sc := defScope s_is_name) (by decide +kernel)) (fun _ _ _ _ _ => (pg_name (i := 1) sc_is_name.nd rfl (by first | exact Or.inl rfl | exact Or.inr rfl))) (fun _ _ _ _ _ => pts_nil) (fun _ _ _ _ _ => (pe_cmpR op_in_sign (pv 1) (pe_gstr (by rfl) T.m_LETTERS) rfl))) pa_nil))))), ?_⟩
    refine ⟨_, rfl, _, _, _, _, isStrD d, rfl, .ty "str", tyX_of hv, kit_str d, _, rfl, ?_⟩
    cases hd : isStrD d with
    | false =>
      refine iteT ?_
      have e1 : (nameOf d).isSome = false := by
        cases d <;> first | rfl | cases hd
      have := k H Ext.rfl'
      rw [e1] at this
      exact this
    | true =>
    obtain ⟨z, rfl⟩ := strD hd
    cases tv_str hv
    have hz : z.length ≤ 1000 := sm z rfl
    refine iteF ?_
    have hzl : z.length ≤ sizeLine := Nat.le_of_lt (small1000 hz)
    have eN : ∀ b, isName z = b → (nameOf (.str z)).isSome = b := fun b h => by
      show (if isName z = true then some z else none).isSome = b
      cases b with
      | true => rw [if_pos h]; rfl
      | false => rw [if_neg (by rw [h]; exact Bool.false_ne_true)]; rfl
    refine ⟨_, rfl, z, rfl, hzl, _, _, rfl, rfl, ?_⟩
    by_cases h1 : 1 ≤ z.length
    · refine ⟨true, by simp; omega, ?_⟩
      refine iteT ?_
      refine ⟨_, _, rfl, rfl, ?_⟩
      by_cases h6 : z.length ≤ 6
      · refine ⟨true, by simp; omega, ?_⟩
        refine iteF ?_
        -- the signs
        refine ⟨_, rfl, z, rfl, fun D hD => ?_⟩
        refine lc_map walk_str [D] (by simp) (fun _ => True) (fun i y _ => ∃ c, z.cps[i]? = some c ∧ y = .bl (decide (c ∈ tl lettersS))) (by have : z.length = z.cps.size := rfl; omega) (fun _ _ _ _ _ h => h) (fun _ _ _ => trivial) trivial (fun _ _ _ => trivial) ?_ ?_
        · rintro i x H1 H2 acc C hi e _ hD1 ⟨rfl, c, hc, rfl⟩ hC
          refine ⟨rfl, _, rfl, c, _, rfl, rfl, hC _ _ hD1 Ext.rfl' trivial ⟨c, hc, rfl⟩⟩
        · intro H1 ys e _ hD1 hl hy
          have hys : ys = ((tl z).map fun c => decide (c ∈ tl lettersS)).map V.bl := by
            refine List.ext_getElem? fun j => ?_
            cases q : ys[j]? with
            | none =>
              have : ys.length ≤ j := List.getElem?_eq_none_iff.mp q
              symm
              rw [List.getElem?_eq_none_iff]
              simp
              have : z.cps.size ≤ j := by omega
              exact this
            | some y =>
              obtain ⟨c, hc, rfl⟩ := hy j y q
              have hc' : (tl z)[j]? = some c := by rw [← hc]; simp [tl]
              simp [List.getElem?_map, hc']
          subst hys
          refine ⟨D, _, rfl, SqL.of hD1, ?_⟩
          have e1 : isName z = (((tl z).map fun c => decide (c ∈ tl lettersS)).all id) := by
            unfold isName
            rw [decide_eq_true h1, decide_eq_true h6, Bool.true_and, Bool.true_and, List.all_map]
            rfl
          rw [← eN _ e1]
          refine k _ fun b o q => ?_
          have := e b o (by rw [hid_at (by simpa using ne_of_none q hD)]; exact q)
          exact (hid_some this).2
      · refine ⟨false, by simp; omega, ?_⟩
        refine iteT ?_
        have e1 : isName z = false := by unfold isName; rw [decide_eq_false h6, Bool.false_and, Bool.and_false]
        have := k H Ext.rfl'
        rw [eN _ e1] at this
        exact this
    · refine ⟨false, by simp; omega, ?_⟩
      refine iteF ?_
      refine ⟨false, rfl, ?_⟩
      refine iteT ?_
      have e1 : isName z = false := by unfold isName; rw [decide_eq_false h1, Bool.false_and]
      have := k H Ext.rfl'
      rw [eN _ e1] at this
      exact this
/-! ### errors -/
abbrev s_BadName_init : Stmt := inClass (top 2) 0
theorem sc_BadName_init : ScS ["self", "value"] ["self", "value"] (defScope s_BadName_init) := ⟨rfl, rfl, rfl, by decide +kernel, rfl, by decide +kernel, by decide +kernel, by decide +kernel⟩
theorem ok_BadName_init {f cda cc C : Addr} {fd : FuncData} (F : Ls.FunS K "__init__" "BadName.__init__" s_BadName_init f fd cda cc) (S : SupE P K mg C C cc cda) (no : PySem.W.findIn K (.ref C) "value" = some none) :
    FnOk P w K mg base CX0 1 f fd ["self", "value"] (spX C ["value"]) := by
  obtain ⟨oc, od, kV, doc, pm, an, ct, osl, rfl, lk, hcd⟩ := F.ex
  refine fn_superE (N := ["self", "value"]) lk hcd sc_BadName_init rfl rfl rfl rfl rfl (fun vs H Q E h => ?_) (fun A outer s H vs Q E hr h => ?_) (fun _ => rfl) (fun _ => rfl) (fun _ => rfl) (fun _ => rfl) (fun _ => rfl)
  · obtain ⟨a, ys, rfl, hl, _⟩ := h
    simpa using hl
  · obtain ⟨a, ys, rfl, hl, ha, k⟩ := h
    obtain ⟨y, rfl⟩ : ∃ y, ys = [y] := by
      match ys, hl with
      | [y], _ => exact ⟨y, rfl⟩
    refine ⟨a, C, C, [y], _, _, rfl, ha, S, pa_cons pe_str pa_nil, pss_one (ps_ost (pv 0) (pv 1) rfl), ?_⟩
    refine ⟨(by show 1 ≤ 1000; decide), ha, _, rfl, _, rfl, a, C, rfl, S.oex, no, .inl ⟨ha, fun dx n ne => ?_⟩⟩
    refine k dx _ n ne upd_same (by rw [upd_ne ne]; exact upd_same) fun b h1 h2 => ?_
    rw [upd_ne h1, upd_ne h2]
abbrev s_BadStanding_init : Stmt := inClass (top 3) 0
theorem sc_BadStanding_init : ScS ["self", "value"] ["self", "value"] (defScope s_BadStanding_init) := ⟨rfl, rfl, rfl, by decide +kernel, rfl, by decide +kernel, by decide +kernel, by decide +kernel⟩
theorem ok_BadStanding_init {f cda cc C : Addr} {fd : FuncData} (F : Ls.FunS K "__init__" "BadStanding.__init__" s_BadStanding_init f fd cda cc) (S : SupE P K mg C C cc cda) (no : PySem.W.findIn K (.ref C) "value" = some none) :
    FnOk P w K mg base CX0 1 f fd ["self", "value"] (spX C ["value"]) := by
  obtain ⟨oc, od, kV, doc, pm, an, ct, osl, rfl, lk, hcd⟩ := F.ex
  refine fn_superE (N := ["self", "value"]) lk hcd sc_BadStanding_init rfl rfl rfl rfl rfl (fun vs H Q E h => ?_) (fun A outer s H vs Q E hr h => ?_) (fun _ => rfl) (fun _ => rfl) (fun _ => rfl) (fun _ => rfl) (fun _ => rfl)
  · obtain ⟨a, ys, rfl, hl, _⟩ := h
    simpa using hl
  · obtain ⟨a, ys, rfl, hl, ha, k⟩ := h
    obtain ⟨y, rfl⟩ : ∃ y, ys = [y] := by
      match ys, hl with
      | [y], _ => exact ⟨y, rfl⟩
    refine ⟨a, C, C, [y], _, _, rfl, ha, S, pa_cons pe_str pa_nil, pss_one (ps_ost (pv 0) (pv 1) rfl), ?_⟩
    refine ⟨(by show 1 ≤ 1000; decide), ha, _, rfl, _, rfl, a, C, rfl, S.oex, no, .inl ⟨ha, fun dx n ne => ?_⟩⟩
    refine k dx _ n ne upd_same (by rw [upd_ne ne]; exact upd_same) fun b h1 h2 => ?_
    rw [upd_ne h1, upd_ne h2]
abbrev s_Twice_init : Stmt := inClass (top 4) 0
theorem sc_Twice_init : ScS ["self", "name"] ["self", "name"] (defScope s_Twice_init) := ⟨rfl, rfl, rfl, by decide +kernel, rfl, by decide +kernel, by decide +kernel, by decide +kernel⟩
theorem ok_Twice_init {f cda cc C : Addr} {fd : FuncData} (F : Ls.FunS K "__init__" "Twice.__init__" s_Twice_init f fd cda cc) (S : SupE P K mg C C cc cda) (no : PySem.W.findIn K (.ref C) "name" = some none) :
    FnOk P w K mg base CX0 1 f fd ["self", "name"] (spX C ["name"]) := by
  obtain ⟨oc, od, kV, doc, pm, an, ct, osl, rfl, lk, hcd⟩ := F.ex
  refine fn_superE (N := ["self", "name"]) lk hcd sc_Twice_init rfl rfl rfl rfl rfl (fun vs H Q E h => ?_) (fun A outer s H vs Q E hr h => ?_) (fun _ => rfl) (fun _ => rfl) (fun _ => rfl) (fun _ => rfl) (fun _ => rfl)
  · obtain ⟨a, ys, rfl, hl, _⟩ := h
    simpa using hl
  · obtain ⟨a, ys, rfl, hl, ha, k⟩ := h
    obtain ⟨y, rfl⟩ : ∃ y, ys = [y] := by
      match ys, hl with
      | [y], _ => exact ⟨y, rfl⟩
    refine ⟨a, C, C, [y], _, _, rfl, ha, S, pa_cons pe_str pa_nil, pss_one (ps_ost (pv 0) (pv 1) rfl), ?_⟩
    refine ⟨(by show 1 ≤ 1000; decide), ha, _, rfl, _, rfl, a, C, rfl, S.oex, no, .inl ⟨ha, fun dx n ne => ?_⟩⟩
    refine k dx _ n ne upd_same (by rw [upd_ne ne]; exact upd_same) fun b h1 h2 => ?_
    rw [upd_ne h1, upd_ne h2]
end
end K19
end
section
set_option Elab.async false
set_option autoImplicit false
set_option linter.all false
set_option maxRecDepth 100000
set_option maxHeartbeats 4000000
set_option pp.maxSteps 1500
namespace K19
open PySem PySem.Spec PyProof.Rows L2 Ls
open C8 (pss_cut tCut)
open TL
/-! ### what is due, in plain Lean -/
def badOf : List PyData → Option PyData
  | [] => none
  | d :: r => if nameOf d = none then some d else badOf r
def namesOf (ds : List PyData) : List Str := ds.filterMap nameOf
/-- the first that stood before -/
def twi : List Str → List Str → Option Str
  | _, [] => none
  | seen, z :: r => if z ∈ seen then some z else twi (seen ++ [z]) r
theorem bad_none : ∀ {ds : List PyData}, badOf ds = none → ds = (namesOf ds).map .str ∧ ∀ z ∈ namesOf ds, isName z = true
  | [], _ => ⟨rfl, by simp [namesOf]⟩
  | d :: r, h => by
    have h : (if nameOf d = none then some d else badOf r) = none := h
    by_cases q : nameOf d = none
    · rw [if_pos q] at h
      cases h
    · rw [if_neg q] at h
      obtain ⟨h1, h2⟩ := bad_none h
      cases hn : nameOf d with
      | none => exact absurd hn q
      | some n =>
        obtain ⟨e, g⟩ := nameOf_some hn
        have en : namesOf (d :: r) = n :: namesOf r := by
          show List.filterMap nameOf (d :: r) = _
          rw [List.filterMap_cons, hn]
          rfl
        rw [en]
        refine ⟨?_, fun z hz => ?_⟩
        · rw [List.map_cons, ← h1, e]
        · rcases List.mem_cons.mp hz with rfl | hz
          · exact g
          · exact h2 z hz
theorem bad_at : ∀ {ds : List PyData} {i : Nat} {d : PyData}, (∀ (j : Nat) d', j < i → ds[j]? = some d' → nameOf d' ≠ none) → ds[i]? = some d → nameOf d = none → badOf ds = some d
  | [], i, d, _, h, _ => by simp at h
  | x :: r, 0, d, _, h, hn => by
    have : x = d := by simpa using h
    subst this
    show (if nameOf x = none then some x else badOf r) = _
    rw [if_pos hn]
  | x :: r, i + 1, d, hb, h, hn => by
    show (if nameOf x = none then some x else badOf r) = _
    rw [if_neg (hb 0 x (by omega) rfl)]
    exact bad_at (i := i) (fun j d' hj hd => hb (j + 1) d' (by omega) (by simpa using hd)) (by simpa using h) hn
theorem bad_all : ∀ {ds : List PyData}, (∀ (j : Nat) d', ds[j]? = some d' → nameOf d' ≠ none) → badOf ds = none
  | [], _ => rfl
  | x :: r, h => by
    show (if nameOf x = none then some x else badOf r) = _
    rw [if_neg (h 0 x rfl)]
    exact bad_all fun j d' hd => h (j + 1) d' (by simpa using hd)
theorem names_str (zs : List Str) (h : ∀ z ∈ zs, isName z = true) : namesOf (zs.map .str) = zs := by
  induction zs with
  | nil => rfl
  | cons z r ih =>
    show List.filterMap nameOf (.str z :: r.map .str) = _
    rw [List.filterMap_cons, nameOf_str (h z (by simp))]
    exact congrArg (z :: ·) (ih fun x hx => h x (List.mem_cons_of_mem _ hx))
/-! ### errors, from a heap that has grown -/
def Errs (C : Addr) (f : Str) (v : V) (H : Hp) (E : XK) : Prop := ∀ dd H', Ext H H' → nw H H' dd = some (.xd [(f, v)]) → E (.ref C) (some dd) H'
theorem Errs.ext {C : Addr} {f : Str} {v : V} {H H1 : Hp} {E : XK} (h : Errs C f v H E) (e : Ext H H1) : Errs C f v H1 E := fun dd H' e' q => h dd H' (e.trans e') (nw_back e _ _ q)
theorem Errs.at {C : Addr} {f : Str} {v : V} {H H1 : Hp} {E : XK} (h : Errs C f v H E) (e : Ext H H1) {dd : Addr} (nd : H1 dd = none) : E (.ref C) (some dd) (upd H1 dd (.xd [(f, v)])) :=
  h dd _ (e.trans (Ext.upd nd)) (by rw [nw_at (ext_free e nd)]; exact upd_same)
/-- values that are handed in -/
structure ArgsAt (H : Hp) (xs : List V) (ds : List PyData) : Prop where
  tv : TVs H xs ds
  sm : ∀ d ∈ ds, SmD d
  ln : xs.length ≤ 100
theorem ArgsAt.ext {H H' : Hp} {xs : List V} {ds : List PyData} (h : ArgsAt H xs ds) (e : Ext H H') : ArgsAt H' xs ds := ⟨h.tv.ext e, h.sm, h.ln⟩
theorem ArgsAt.at_ {H : Hp} {xs : List V} {ds : List PyData} {i : Nat} {v : V} (h : ArgsAt H xs ds) (q : xs[i]? = some v) : ∃ d, ds[i]? = some d ∧ TV H v d ∧ SmD d := by
  obtain ⟨d, h1, h2⟩ := h.tv.at_ q
  exact ⟨d, h1, h2, h.sm d (List.mem_of_getElem? h1)⟩
theorem ArgsAt.names {H : Hp} {xs : List V} {ds : List PyData} (h : ArgsAt H xs ds) (hb : badOf ds = none) : xs = (namesOf ds).map V.str := by
  have e := (bad_none hb).1
  refine List.ext_getElem? fun j => ?_
  have hl := h.tv.len
  have hl2 : ds.length = (namesOf ds).length := by
    have := congrArg List.length e
    rw [List.length_map] at this
    exact this
  cases q : xs[j]? with
  | none =>
    have := List.getElem?_eq_none_iff.mp q
    symm
    rw [List.getElem?_eq_none_iff, List.length_map]
    omega
  | some v =>
    obtain ⟨d, h1, h2⟩ := h.tv.at_ q
    rw [e, List.getElem?_map] at h1
    obtain ⟨z, g1, rfl⟩ := Option.map_eq_some_iff.mp h1
    rw [List.getElem?_map, g1, tv_str h2]
    rfl
theorem eqV_str (a b : Str) : eqV (.str a) (.str b) = decide (b = a) := by
  show (a == b) = _
  by_cases h : b = a
  · subst h
    simp
  · rw [decide_eq_false h]
    exact beq_eq_false_iff_ne.mpr fun e => h e.symm
theorem inV_strs (z : Str) : ∀ l : List Str, inV (.str z) (l.map V.str) = decide (z ∈ l)
  | [] => rfl
  | a :: l => by
    have ih := inV_strs z l
    show (eqV (.str a) (.str z) || inV (.str z) (l.map V.str)) = _
    rw [eqV_str, ih]
    simp only [List.mem_cons, Bool.decide_or]
theorem flat_strs (l : List Str) : (l.map V.str).all flatV = true := by
  rw [List.all_map]
  exact List.all_eq_true.mpr fun _ _ => rfl
/-! ### ascending, plain -/
def Asc (zs ys : List Str) : Prop := ys.Nodup ∧ sortedS ys = true ∧ ∀ y, y ∈ ys ↔ y ∈ zs
theorem rising_pw : ∀ {l : List Str} {p : Str}, risingS p l = true → (p :: l).Pairwise fun a b => tl a ≤ tl b
  | [], p, _ => List.pairwise_cons.mpr ⟨fun _ h => (List.not_mem_nil h).elim, .nil⟩
  | x :: r, p, h => by
    have h : (!ltCps x.cps.toList p.cps.toList && risingS x r) = true := h
    rw [Bool.and_eq_true, ltCps_eq] at h
    have hpx : tl p ≤ tl x := fun z => by
      have h1 := h.1
      rw [decide_eq_true (show x.cps.toList < p.cps.toList from z)] at h1
      cases h1
    have ih := rising_pw h.2
    refine List.pairwise_cons.mpr ⟨fun y hy => ?_, ih⟩
    rcases List.mem_cons.mp hy with rfl | hy
    · exact hpx
    · exact List.le_trans hpx ((List.pairwise_cons.mp ih).1 y hy)
theorem sorted_pw {l : List Str} (h : sortedS l = true) : l.Pairwise fun a b => tl a ≤ tl b := by
  cases l with
  | nil => exact .nil
  | cons x r => exact rising_pw h
theorem Asc.uniq {zs zs' ys ys' : List Str} (h : Asc zs ys) (h' : Asc zs' ys') (e : ∀ y, y ∈ zs ↔ y ∈ zs') : ys = ys' := by
  obtain ⟨n1, s1, m1⟩ := h
  obtain ⟨n2, s2, m2⟩ := h'
  exact List.Perm.eq_of_pairwise (le := fun a b => tl a ≤ tl b) (fun a b _ _ h1 h2 => ext_tl (List.le_antisymm h1 h2)) (sorted_pw s1) (sorted_pw s2) ((List.perm_ext_iff_of_nodup n1 n2).mpr fun y => by rw [m1, m2, e])
theorem list_of_get {ys : List V} {us : List Str} (hl : ys.length = us.length) (h : ∀ (j : Nat) (y : V), ys[j]? = some y → ∃ z, us[j]? = some z ∧ y = .str z) : ys = us.map V.str := by
  refine List.ext_getElem? fun j => ?_
  cases q : ys[j]? with
  | none =>
    have := List.getElem?_eq_none_iff.mp q
    symm
    rw [List.getElem?_eq_none_iff, List.length_map]
    omega
  | some v =>
    obtain ⟨z, h1, rfl⟩ := h j v q
    rw [List.getElem?_map, h1]
    rfl
section
variable {P : Program} {w : World} {K : PySem.W.Frag} {mg : Str → Option Value} {base : Heap} {CE CN CB CW CS : Addr} {tL tN : Tok}
/-! ### ascending -/
def spAsc (K : PySem.W.Frag) : Sp := fun vs H Q _ => ∃ (t : Addr) (zs : List Str), vs = [.ref t] ∧ (SqL K H t (zs.map V.str) ∨ SqT K H t (zs.map V.str)) ∧ zs.length ≤ 60 ∧ ∀ q ys H', Asc zs ys → Ext H H' → nw H H' q = some (.tup (ys.map V.str)) → Q (.ref q) H'
abbrev s_ascending : Stmt := top 9
abbrev N_ascending : List Str := ["names", "name"]
theorem sc_ascending : FnScope N_ascending ["names"] (defScope s_ascending) := ⟨rfl, rfl, rfl, by decide +kernel, rfl, by decide +kernel, by decide +kernel⟩
theorem ok_asc {f : Addr} {fd : FuncData} (F : Fun K "ascending" "ascending" s_ascending f fd) (T : Tx K mg CE CN CB CW CS tL tN) : FnOk P w K mg base CX0 1 f fd ["names"] (spAsc K) := by
  refine F.ok sc_ascending (fun vs H Q E h => ?_) (fun cdv A outer s H vs Q E hr h => ?_)
  · obtain ⟨t, zs, rfl, _⟩ := h
    rfl
  · obtain ⟨t, zs, rfl, ht, hln, k⟩ := h
    have h4 : sizeLine = 16777216 := sizeLine_eq
    have lz : (zs.map V.str).length = zs.length := List.length_map _
    refine ⟨_, (pss_one (ps_ret (pe_callTy call_tuple_of (by rfl) (T.bn _ (by decide +kernel)) (by decide +kernel) (pa_cons (pe_callB (cr_sortT rfl) (by rfl) (T.bn _ (by decide +kernel)) (by decide +kernel) (pa_cons (pe_callTy (cr_setT rfl) (by rfl) (T.bn _ (by decide +kernel)) (by decide +kernel) (pa_cons (pe_lc (own := [("name", 1)]) rfl sc_ascending.nd (pi_seq (pv 0)) (blkOk_by (own := [("name", 1)]) (N := N_ascending) (sc := defScope s_ascending) (by decide +kernel)) (fun _ _ _ _ _ => (pg_name (i := 1) sc_ascending.nd rfl (by first | exact Or.inl rfl | exact Or.inr rfl))) (fun _ _ _ _ _ => pts_nil) (fun _ _ _ _ _ => (pe_callTy SkE.call_str_str (by rfl) (T.bn _ (by decide +kernel)) (by decide +kernel) (pa_cons (pv 1) pa_nil)))) pa_nil)) pa_nil)) pa_nil)))), ?_⟩
    refine ht.elim (fun ht => .inl ⟨_, rfl, t, rfl, ⟨_, ht⟩, fun D hD => ?_⟩) (fun ht => .inr ⟨_, rfl, t, rfl, ⟨_, ht⟩, fun D hD => ?_⟩)
    · refine lc_map (walk_list (K := K) (xs := zs.map V.str)) [D] (by simp) (fun H' => Ext H H') (fun j y _ => ∃ z, zs[j]? = some z ∧ y = .str z) (by omega) (fun _ _ _ _ _ h => h)
        (fun H' o hh b o' z => by rw [upd_ne (ne_of_none z hD)]; exact hh b o' z) (Ext.upd hD) (fun H' _ hh => ht.ext hh) ?_ ?_
      · rintro j x H8 _ acc C hj e hh8 hD8 ⟨rfl, hx⟩ hC
        rw [List.getElem?_map] at hx
        obtain ⟨y, hy, rfl⟩ := Option.map_eq_some_iff.mp hx
        exact ⟨rfl, _, rfl, _, rfl, hC _ _ hD8 Ext.rfl' hh8 ⟨y, hy, rfl⟩⟩
      · intro H8 ys e hh8 hD8 hlen8 hy8
        have hzs := list_of_get (by rw [lz] at hlen8; exact hlen8) hy8
        subst hzs
        refine ⟨D, zs, rfl, SqL.of hD8, by omega, fun S M1 nS nd lM mM => ?_⟩
        have e9 : Ext H8 (upd H8 S (SetT w S M1)) := Ext.upd nS
        refine ⟨S, M1, rfl, upd_same, by omega, fun ys p pm so np => ?_⟩
        have e10 := e9.trans (Ext.upd (o := HO.lst (ys.map V.str)) np)
        refine ⟨p, _, rfl, .inl ⟨SqL.of upd_same, fun q nq => ?_⟩⟩
        refine k q ys _ ⟨pm.nodup_iff.mpr nd, so, fun y => by rw [pm.mem_iff, mM]⟩ (hh8.trans (e10.trans (Ext.upd nq))) ?_
        rw [nw_at (ext_free (hh8.trans e10) nq)]
        exact upd_same
    · refine lc_map (walk_tup (K := K) (xs := zs.map V.str)) [D] (by simp) (fun H' => Ext H H') (fun j y _ => ∃ z, zs[j]? = some z ∧ y = .str z) (by omega) (fun _ _ _ _ _ h => h)
        (fun H' o hh b o' z => by rw [upd_ne (ne_of_none z hD)]; exact hh b o' z) (Ext.upd hD) (fun H' _ hh => ht.ext hh) ?_ ?_
      · rintro j x H8 _ acc C hj e hh8 hD8 ⟨rfl, hx⟩ hC
        rw [List.getElem?_map] at hx
        obtain ⟨y, hy, rfl⟩ := Option.map_eq_some_iff.mp hx
        exact ⟨rfl, _, rfl, _, rfl, hC _ _ hD8 Ext.rfl' hh8 ⟨y, hy, rfl⟩⟩
      · intro H8 ys e hh8 hD8 hlen8 hy8
        have hzs := list_of_get (by rw [lz] at hlen8; exact hlen8) hy8
        subst hzs
        refine ⟨D, zs, rfl, SqL.of hD8, by omega, fun S M1 nS nd lM mM => ?_⟩
        have e9 : Ext H8 (upd H8 S (SetT w S M1)) := Ext.upd nS
        refine ⟨S, M1, rfl, upd_same, by omega, fun ys p pm so np => ?_⟩
        have e10 := e9.trans (Ext.upd (o := HO.lst (ys.map V.str)) np)
        refine ⟨p, _, rfl, .inl ⟨SqL.of upd_same, fun q nq => ?_⟩⟩
        refine k q ys _ ⟨pm.nodup_iff.mpr nd, so, fun y => by rw [pm.mem_iff, mM]⟩ (hh8.trans (e10.trans (Ext.upd nq))) ?_
        rw [nw_at (ext_free (hh8.trans e10) nq)]
        exact upd_same
/-! ### need_all_names -/
def spNA (K : PySem.W.Frag) (CN : Addr) : Sp := fun vs H Q E => ∃ (l : Addr) (xs : List V) (ds : List PyData), vs = [.ref l] ∧ (SqL K H l xs ∨ SqT K H l xs) ∧ ArgsAt H xs ds ∧
  (∀ d, badOf ds = some d → ∀ v H1, Ext H H1 → TV H1 v d → Errs CN "value" v H1 E) ∧ (badOf ds = none → ∀ H', Ext H H' → Q .non H')
abbrev s_need_all_names : Stmt := top 14
abbrev N_need_all_names : List Str := ["values", "value"]
theorem sc_need_all_names : FnScope N_need_all_names ["values"] (defScope s_need_all_names) := ⟨rfl, rfl, rfl, by decide +kernel, rfl, by decide +kernel, by decide +kernel⟩
theorem ok_na {f : Addr} {fd : FuncData} (F : Fun K "need_all_names" "need_all_names" s_need_all_names f fd) (T : Tx K mg CE CN CB CW CS tL tN) (c_is_name : Cal P w K mg base CX0 1 "is_name" spName) (x_BadName : Xer P w K mg base CN "BadName" ["value"]) :
    FnOk P w K mg base (L2.CX P w) 3 f fd ["values"] (spNA K CN) := by
  refine F.okX sc_need_all_names (fun vs H Q E h => ?_) (fun cdv A outer s H vs Q E hr h => ?_)
  · obtain ⟨l, xs, ds, rfl, _⟩ := h
    rfl
  · obtain ⟨l, xs, ds, rfl, hl, ha, k1, k2⟩ := h
    refine ⟨_, (pss_one (ps_for (passes_of rfl) rfl (pi_seq (pv 0)) (pg_name (i := 1) sc_need_all_names.nd rfl (by first | exact Or.inl rfl | exact Or.inr rfl))
      (pss_one (ps_if (pt_not (pt_val (pe_cal c_is_name (hr.mono (by decide)) (by rfl) pass0 (pa_cons (pv 1) pa_nil)))) (pss_one (ps_raise rfl tkC (pmk_err x_BadName (hr.mono (by decide)) (by rfl) (pa_cons (pv 1) pa_nil)))) pss_nil)))), ?_⟩
    have hlen := ha.tv.len
    rcases hl with hl | hl
    · refine .inl ⟨_, rfl, l, rfl, ⟨_, hl⟩, for_it (walk_list (K := K) (xs := xs)) (fun i σ H' => ∃ x1, σ = [some (.ref l), x1] ∧ Ext H H' ∧ ∀ (j : Nat) d, j < i → ds[j]? = some d → nameOf d ≠ none) ⟨_, rfl, Ext.rfl', fun j d h => absurd h (by omega)⟩ (fun i σ H' _ ⟨_, _, e, _⟩ => hl.ext e) ?_ ?_⟩
      · rintro i x σ _ H1 hi ⟨x1, rfl, e1, ih⟩ ⟨rfl, hx⟩
        obtain ⟨d, hd, hv, sm⟩ := (ha.ext e1).at_ hx
        refine ⟨_, rfl, x, d, rfl, hv, sm, fun H2 e2 => ⟨_, rfl, ?_⟩⟩
        cases hn : nameOf d with
        | none =>
          refine iteT ?_
          refine ⟨_, rfl, rfl, (by show 1 ≤ 1000; decide), fun dd nd => ?_⟩
          exact (k1 d (bad_at ih hd hn) x H2 (e1.trans e2) (hv.ext e2)).at Ext.rfl' nd
        | some n =>
          refine iteF ?_
          refine ⟨_, rfl, e1.trans e2, fun j d' hj hd' => ?_⟩
          by_cases h : j < i
          · exact ih j d' h hd'
          · have : j = i := by omega
            subst this
            rw [hd] at hd'
            cases hd'
            rw [hn]
            simp
      · rintro σ H1 ⟨x1, rfl, e1, ih⟩
        exact k2 (bad_all fun j d hd => ih j d (by have := (List.getElem?_eq_some_iff.mp hd).1; omega) hd) _ e1
    · refine .inr ⟨_, rfl, l, rfl, ⟨_, hl⟩, for_it (walk_tup (K := K) (xs := xs)) (fun i σ H' => ∃ x1, σ = [some (.ref l), x1] ∧ Ext H H' ∧ ∀ (j : Nat) d, j < i → ds[j]? = some d → nameOf d ≠ none) ⟨_, rfl, Ext.rfl', fun j d h => absurd h (by omega)⟩ (fun i σ H' _ ⟨_, _, e, _⟩ => hl.ext e) ?_ ?_⟩
      · rintro i x σ _ H1 hi ⟨x1, rfl, e1, ih⟩ ⟨rfl, hx⟩
        obtain ⟨d, hd, hv, sm⟩ := (ha.ext e1).at_ hx
        refine ⟨_, rfl, x, d, rfl, hv, sm, fun H2 e2 => ⟨_, rfl, ?_⟩⟩
        cases hn : nameOf d with
        | none =>
          refine iteT ?_
          refine ⟨_, rfl, rfl, (by show 1 ≤ 1000; decide), fun dd nd => ?_⟩
          exact (k1 d (bad_at ih hd hn) x H2 (e1.trans e2) (hv.ext e2)).at Ext.rfl' nd
        | some n =>
          refine iteF ?_
          refine ⟨_, rfl, e1.trans e2, fun j d' hj hd' => ?_⟩
          by_cases h : j < i
          · exact ih j d' h hd'
          · have : j = i := by omega
            subst this
            rw [hd] at hd'
            cases hd'
            rw [hn]
            simp
      · rintro σ H1 ⟨x1, rfl, e1, ih⟩
        exact k2 (bad_all fun j d hd => ih j d (by have := (List.getElem?_eq_some_iff.mp hd).1; omega) hd) _ e1
end
end K19
end
section
set_option Elab.async false
set_option autoImplicit false
set_option linter.all false
set_option maxRecDepth 100000
set_option maxHeartbeats 4000000
set_option pp.maxSteps 1500
namespace K19
open PySem PySem.Spec PyProof.Rows L2 Ls
open C8 (pss_cut tCut)
open TL
section
variable {X : Cx}
theorem sl_seqA : SlR X (fun x lo hi H Q => rSlL X.K x lo hi H Q ∨ rSlA X.K x lo hi H Q) := SlR.or sl_list sl_tupA
theorem pi_enumS {e : PySem.Expr} {ta : TA} {p pos tpos : Pos} {elts : List PySem.Expr} {kk : Nat} (hg : Gl X "enumerate") (hm : X.mg "enumerate" = none) (ha : PA X [e] ta) (hs : starEach [e] X.env = [(false, eval e X.env)] := by rfl) :
    PI X (.Tuple elts kk tpos) (.Call (.Name "enumerate" p) [e] [] pos) (fun σ H R => iEnum X.K ta σ H R ∨ iEnumT X.K ta σ H R) := PI.or (pi_enum hg hm ha hs) (pi_enumT hg hm ha hs)
end
section
variable {P : Program} {w : World} {K : PySem.W.Frag} {mg : Str → Option Value} {base : Heap} {CE CN CB CW CS : Addr} {tL tN : Tok}
/-! ### need_unlike -/
def spUn (K : PySem.W.Frag) (CW : Addr) : Sp := fun vs H Q E => ∃ (l : Addr) (zs : List Str), vs = [.ref l] ∧ (SqL K H l (zs.map V.str) ∨ SqT K H l (zs.map V.str)) ∧ zs.length ≤ 100 ∧ (∀ z, twi [] zs = some z → Errs CW "name" (.str z) H E) ∧ (twi [] zs = none → ∀ H', Ext H H' → Q .non H')
abbrev s_need_unlike : Stmt := top 15
abbrev N_need_unlike : List Str := ["names", "at", "name"]
theorem sc_need_unlike : FnScope N_need_unlike ["names"] (defScope s_need_unlike) := ⟨rfl, rfl, rfl, by decide +kernel, rfl, by decide +kernel, by decide +kernel⟩
theorem ok_un {f : Addr} {fd : FuncData} (F : Fun K "need_unlike" "need_unlike" s_need_unlike f fd) (T : Tx K mg CE CN CB CW CS tL tN) (x_Twice : Xer P w K mg base CW "Twice" ["name"]) :
    FnOk P w K mg base (L2.CX P w) 3 f fd ["names"] (spUn K CW) := by
  refine F.okX sc_need_unlike (fun vs H Q E h => ?_) (fun cdv A outer s H vs Q E hr h => ?_)
  · obtain ⟨l, zs, rfl, _⟩ := h
    rfl
  · obtain ⟨l, zs, rfl, hl, hz, k1, k2⟩ := h
    refine ⟨_, (pss_one (ps_for (passes_of rfl) rfl (pi_enumS (by rfl) (T.bn _ (by decide +kernel)) (pa_cons (pv 0) pa_nil)) (pg_tup rfl (pgs_cons (pg_name (i := 1) sc_need_unlike.nd rfl (by first | exact Or.inl rfl | exact Or.inr rfl)) (pgs_cons (pg_name (i := 2) sc_need_unlike.nd rfl (by first | exact Or.inl rfl | exact Or.inr rfl)) pgs_nil)))
      (pss_one (ps_if (pt_cmpR op_in_seq (pv 2) (pe_slice sl_seqA (pv 0) po_none (po_some (pv 1))) rfl) (pss_one (ps_raise rfl tkC (pmk_err x_Twice (hr.mono (by decide)) (by rfl) (pa_cons (pv 2) pa_nil)))) pss_nil)))), ?_⟩
    have lz : (zs.map V.str).length = zs.length := List.length_map _
    have out : ∀ (i : Nat) (z : Str) (M3 : Hp), zs[i]? = some z → twi [] zs = twi (zs.take i) (zs.drop i) →
        (z ∈ zs.take i → twi [] zs = some z) ∧ (z ∉ zs.take i → twi [] zs = twi (zs.take (i + 1)) (zs.drop (i + 1))) := fun i z M3 hz' it => by
      have hdr : zs.drop i = z :: zs.drop (i + 1) := by
        obtain ⟨h1, h2⟩ := List.getElem?_eq_some_iff.mp hz'
        rw [List.drop_eq_getElem_cons h1, h2]
      have htk : zs.take (i + 1) = zs.take i ++ [z] := by rw [List.take_add_one, hz']; rfl
      have hst : twi (zs.take i) (zs.drop i) = if z ∈ zs.take i then some z else twi (zs.take i ++ [z]) (zs.drop (i + 1)) := by rw [hdr]; rfl
      refine ⟨fun h => by rw [it, hst, if_pos h], fun h => by rw [it, hst, if_neg h, htk]⟩
    rcases hl with hl | hl
    · refine .inl ⟨_, rfl, l, _, rfl, hl, ?_⟩
      refine for_it (walk_enum (K := K) (xs := zs.map V.str)) (fun i σ H' => ∃ x1 x2, σ = [some (.ref l), x1, x2] ∧ Ext H H' ∧ twi [] zs = twi (zs.take i) (zs.drop i)) ⟨_, _, rfl, Ext.rfl', by simp⟩ (fun i σ H' _ ⟨_, _, _, e, _⟩ => hl.ext e) ?_ ?_
      · rintro i x σ H1 H2 hi ⟨x1, x2, rfl, e1, it⟩ ⟨U, y1, y2, rfl, nU, rfl, ey1, ey2⟩
        cases ey1
        have ey2 : (zs.map V.str)[i]? = some y2 := ey2
        rw [List.getElem?_map] at ey2
        obtain ⟨z, hz', rfl⟩ := Option.map_eq_some_iff.mp ey2
        obtain ⟨o1, o2⟩ := out i z H hz' it
        have eU := Ext.upd (o := .tup [.int (i : Nat), .str z]) nU
        have e2 := e1.trans eU
        refine ⟨U, _, rfl, SqT.of upd_same, rfl, _, _, rfl, _, _, rfl, rfl, ?_⟩
        refine ⟨_, rfl, _, rfl, _, rfl, _, rfl, .inl ⟨l, _, rfl, hl.ext e2, fun p np => ?_⟩⟩
        rw [cutM_to _ (by omega), show ((i : Nat) : Int).toNat = i from rfl]
        have e3 := e2.trans (Ext.upd (o := HO.lst ((zs.take i).map V.str)) np)
        refine ⟨p, _, rfl, .inl (SqL.of upd_same), rfl, flat_strs _, ?_⟩
        rw [inV_strs]
        by_cases hm : z ∈ zs.take i
        · refine ⟨_, rfl, iteYes (decide_eq_true hm) ?_⟩
          exact ⟨_, rfl, rfl, (by show 1 ≤ 1000; decide), fun dd nd => (k1 z (o1 hm)).at e3 nd⟩
        · refine ⟨_, rfl, iteNo (decide_eq_false hm) ?_⟩
          exact ⟨_, _, rfl, e3, o2 hm⟩
      · rintro σ H1 ⟨x1, x2, rfl, e1, it⟩
        rw [lz, List.take_length, List.drop_length] at it
        exact k2 it _ e1
    · refine .inr ⟨_, rfl, l, _, rfl, hl, ?_⟩
      refine for_it (walk_enumT (K := K) (xs := zs.map V.str)) (fun i σ H' => ∃ x1 x2, σ = [some (.ref l), x1, x2] ∧ Ext H H' ∧ twi [] zs = twi (zs.take i) (zs.drop i)) ⟨_, _, rfl, Ext.rfl', by simp⟩ (fun i σ H' _ ⟨_, _, _, e, _⟩ => hl.ext e) ?_ ?_
      · rintro i x σ H1 H2 hi ⟨x1, x2, rfl, e1, it⟩ ⟨U, y1, y2, rfl, nU, rfl, ey1, ey2⟩
        cases ey1
        have ey2 : (zs.map V.str)[i]? = some y2 := ey2
        rw [List.getElem?_map] at ey2
        obtain ⟨z, hz', rfl⟩ := Option.map_eq_some_iff.mp ey2
        obtain ⟨o1, o2⟩ := out i z H hz' it
        have il : i < (zs.map V.str).length := hi
        have eU := Ext.upd (o := .tup [.int (i : Nat), .str z]) nU
        have e2 := e1.trans eU
        refine ⟨U, _, rfl, SqT.of upd_same, rfl, _, _, rfl, _, _, rfl, rfl, ?_⟩
        refine ⟨_, rfl, _, rfl, _, rfl, _, rfl, .inr ⟨l, _, rfl, hl.ext e2, fun w => absurd w.2 (by rw [sIx_pos (by omega)]; omega), fun _ p np => ?_⟩⟩
        rw [cutM_to _ (by omega), show ((i : Nat) : Int).toNat = i from rfl]
        have e3 := e2.trans (Ext.upd (o := HO.tup ((zs.take i).map V.str)) np)
        refine ⟨p, _, rfl, .inr (SqT.of upd_same), rfl, flat_strs _, ?_⟩
        rw [inV_strs]
        by_cases hm : z ∈ zs.take i
        · refine ⟨_, rfl, iteYes (decide_eq_true hm) ?_⟩
          exact ⟨_, rfl, rfl, (by show 1 ≤ 1000; decide), fun dd nd => (k1 z (o1 hm)).at e3 nd⟩
        · refine ⟨_, rfl, iteNo (decide_eq_false hm) ?_⟩
          exact ⟨_, _, rfl, e3, o2 hm⟩
      · rintro σ H1 ⟨x1, x2, rfl, e1, it⟩
        rw [lz, List.take_length, List.drop_length] at it
        exact k2 it _ e1
end
end K19
end
section
set_option Elab.async false
set_option autoImplicit false
set_option linter.all false
set_option maxRecDepth 100000
set_option maxHeartbeats 4000000
set_option pp.maxSteps 1500
namespace K19
open PySem PySem.Spec PyProof.Rows L2 Ls
open C8 (pss_cut tCut)
open TL
/-! ### standings, in plain Lean -/
def OkL (l : List Str) : Prop := Asc l l ∧ (∀ z ∈ l, isName z = true) ∧ l.length ≤ 60
def wl (l : List Str) : List Str := if l = [] then [("-" : Str)] else l
def partT (l : List Str) : Str := Txt.join " " (wl l)
def textOf (h k : List Str) : Str := partT h ++ " / " ++ partT k
theorem wl_nil : wl [] = [("-" : Str)] := if_pos rfl
theorem wl_cons {l : List Str} (h : l ≠ []) : wl l = l := if_neg h
theorem wl_ne (l : List Str) : wl l ≠ [] := by
  by_cases h : l = []
  · rw [h, wl_nil]; simp
  · rw [wl_cons h]; exact h
theorem wl_mem {l : List Str} {p : Str} (h : p ∈ wl l) : p = "-" ∨ p ∈ l := by
  by_cases e : l = []
  · rw [e, wl_nil] at h
    exact .inl (List.mem_singleton.mp h)
  · rw [wl_cons e] at h
    exact .inr h
theorem dash_tl : tl ("-" : Str) = [45] := by decide +kernel
theorem slash_tl : tl ("/" : Str) = [47] := by decide +kernel
theorem mid_tl : tl (" / " : Str) = [32, 47, 32] := by decide +kernel
theorem mid_kd : (" / " : Str).cps.all (· < 256) = true := by decide +kernel
theorem dash_no : isName "-" = false := by decide +kernel
theorem slash_no : isName "/" = false := by decide +kernel
theorem lt_no32 : (32 : Nat) ∉ tl lettersS := by decide +kernel
theorem lt_no47 : (47 : Nat) ∉ tl lettersS := by decide +kernel
theorem lt_no45 : (45 : Nat) ∉ tl lettersS := by decide +kernel
theorem lt_256 : ∀ c ∈ tl lettersS, c < 256 := by decide +kernel
def Nm (l : List Str) : Prop := ∀ z ∈ l, isName z = true
theorem wl_no {l : List Str} (h : Nm l) {c : Nat} (hc : c ∉ tl lettersS) (h45 : c ≠ 45) : ∀ p ∈ wl l, c ∉ tl p := fun p hp => by
  rcases wl_mem hp with rfl | hp
  · rw [dash_tl]
    simpa using h45
  · exact name_no (h p hp) hc
theorem wl_len {l : List Str} (h : Nm l) : ∀ p ∈ wl l, p.length ≤ 6 := fun p hp => by
  rcases wl_mem hp with rfl | hp
  · decide +kernel
  · exact (name_len (h p hp)).2
theorem joinL_app (S : List Nat) : ∀ (a : List (List Nat)) (b : List (List Nat)), a ≠ [] → b ≠ [] → joinL S (a ++ b) = joinL S a ++ (S ++ joinL S b)
  | [x], b, _, hb => joinL_cons S x hb
  | x :: y :: r, b, _, hb => by
    rw [List.cons_append, joinL_cons S x (by simp), joinL_app S (y :: r) b (by simp) hb, joinL_cons S x (by simp : y :: r ≠ [])]
    simp only [List.append_assoc]
theorem tl_partT (l : List Str) : tl (partT l) = joinL [32] ((wl l).map tl) := by
  unfold partT
  rw [join_eq, tl_join, sp_tl]
theorem joinL_mem {S : List Nat} {c : Nat} : ∀ {l : List (List Nat)}, c ∈ joinL S l → c ∈ S ∨ ∃ p ∈ l, c ∈ p
  | [], h => absurd h (by simp [joinL])
  | [a], h => .inr ⟨a, by simp, by simpa [joinL] using h⟩
  | a :: b :: r, h => by
    rw [joinL_cons _ _ (by simp)] at h
    rcases List.mem_append.mp h with h | h
    · exact .inr ⟨a, by simp, h⟩
    rcases List.mem_append.mp h with h | h
    · exact .inl h
    · rcases joinL_mem h with h | ⟨p, hp, hc⟩
      · exact .inl h
      · exact .inr ⟨p, List.mem_cons_of_mem _ hp, hc⟩
theorem partT_no {l : List Str} (h : Nm l) : (47 : Nat) ∉ tl (partT l) := fun hc => by
  rw [tl_partT] at hc
  rcases joinL_mem hc with hc | ⟨p, hp, hc⟩
  · revert hc
    decide
  · obtain ⟨z, hz, rfl⟩ := List.mem_map.mp hp
    exact wl_no h lt_no47 (by decide) z hz hc
theorem textOf_join (h k : List Str) : textOf h k = Txt.join " " (wl h ++ ("/" : Str) :: wl k) := by
  refine ext_tl ?_
  rw [join_eq, tl_join, sp_tl, List.map_append, List.map_cons, joinL_app _ _ _ (by simp [wl_ne]) (by simp), joinL_cons _ _ (by simp [wl_ne])]
  unfold textOf
  rw [tl_append, tl_append, tl_partT, tl_partT, mid_tl, slash_tl]
  simp
theorem partT_back {l : List Str} (h : Nm l) : Txt.split (partT l) " " = wl l := split_join sp_tl sp_kd (wl_ne l) (wl_no h lt_no32 (by decide))
theorem textOf_words {h k : List Str} (hh : Nm h) (hk : Nm k) : Txt.split (textOf h k) " " = wl h ++ ("/" : Str) :: wl k := by
  rw [textOf_join]
  refine split_join sp_tl sp_kd (by simp) fun p hp => ?_
  rcases List.mem_append.mp hp with hp | hp
  · exact wl_no hh lt_no32 (by decide) p hp
  rcases List.mem_cons.mp hp with rfl | hp
  · rw [slash_tl]; decide
  · exact wl_no hk lt_no32 (by decide) p hp
theorem cut_at (q p : List Nat) (h : (47 : Nat) ∉ p) : ∀ i, i < p.length → pre [32, 47, 32] ((p ++ ([32, 47, 32] ++ q)).drop i) = false := fun i hi => by
  refine Bool.eq_false_iff.mpr fun hp => ?_
  have hp : ((p ++ ([32, 47, 32] ++ q)).drop i).take 3 = [32, 47, 32] := beq_iff_eq.mp hp
  have h1 : ((p ++ ([32, 47, 32] ++ q)).drop i)[1]? = some 47 := by
    have := congrArg (fun l : List Nat => l[1]?) hp
    rw [List.getElem?_take_of_lt (by decide)] at this
    exact this
  rw [List.getElem?_drop] at h1
  by_cases h2 : i + 1 < p.length
  · rw [List.getElem?_append_left h2] at h1
    exact h (List.mem_of_getElem? h1)
  · have : i + 1 = p.length := by omega
    rw [this, List.getElem?_append_right (Nat.le_refl _), Nat.sub_self] at h1
    cases h1
theorem cut_last (p : List Nat) (h : (47 : Nat) ∉ p) : ∀ i, i < p.length → pre [32, 47, 32] (p.drop i) = false := fun i hi => by
  refine Bool.eq_false_iff.mpr fun hp => ?_
  have hp : (p.drop i).take 3 = [32, 47, 32] := beq_iff_eq.mp hp
  have : 47 ∈ (p.drop i).take 3 := by rw [hp]; decide
  exact h (List.mem_of_mem_drop (List.mem_of_mem_take this))
theorem textOf_parts {h k : List Str} (hh : Nm h) (hk : Nm k) : Txt.split (textOf h k) " / " = [partT h, partT k] := by
  refine map_tl_inj ?_
  rw [split_spl _ _ (by rw [mid_tl]; simp) (kind_ok mid_kd), mid_tl]
  unfold textOf
  rw [tl_append, tl_append, mid_tl, List.append_assoc, spl_part (by simp) (cut_at _ _ (partT_no hh)), spl_last (cut_last _ (partT_no hk))]
  rfl
theorem wl_inj {l m : List Str} (hl : Nm l) (hm : Nm m) (e : wl l = wl m) : l = m := by
  by_cases h : l = [] <;> by_cases h' : m = []
  · rw [h, h']
  · rw [h, wl_nil, wl_cons h'] at e
    have := hm "-" (by rw [← e]; simp)
    rw [dash_no] at this
    cases this
  · rw [h', wl_nil, wl_cons h] at e
    have := hl "-" (by rw [e]; simp)
    rw [dash_no] at this
    cases this
  · rw [wl_cons h, wl_cons h'] at e
    exact e
theorem textOf_inj {h k h' k' : List Str} (hh : Nm h) (hk : Nm k) (hh' : Nm h') (hk' : Nm k') (e : textOf h k = textOf h' k') : h = h' ∧ k = k' := by
  have e1 := congrArg (fun z => Txt.split z " / ") e
  simp only [textOf_parts hh hk, textOf_parts hh' hk'] at e1
  have e2 := (List.cons.inj e1).1
  have e3 := (List.cons.inj (List.cons.inj e1).2).1
  refine ⟨wl_inj hh hh' ?_, wl_inj hk hk' ?_⟩
  · rw [← partT_back hh, e2, partT_back hh']
  · rw [← partT_back hk, e3, partT_back hk']
theorem partT_nil : partT [] = "-" := by
  refine ext_tl ?_
  rw [tl_partT, wl_nil]
  rfl
theorem partT_ne {l : List Str} (h : Nm l) (ne : l ≠ []) : partT l ≠ "-" := fun e => by
  have h1 : wl l = wl [] := by rw [← partT_back h, ← partT_back (l := []) (fun z hz => absurd hz (by simp)), e, partT_nil]
  exact ne (wl_inj h (fun z hz => absurd hz (by simp)) h1)
theorem partT_cons {l : List Str} (ne : l ≠ []) : partT l = Txt.join " " l := by
  unfold partT
  rw [wl_cons ne]
/-- what part_names makes of a part -/
def unT (p : Str) : List Str := if p = "-" then [] else Txt.split p " "
theorem unT_partT {l : List Str} (h : Nm l) : unT (partT l) = l := by
  unfold unT
  by_cases e : l = []
  · rw [e, partT_nil, if_pos rfl]
  · rw [if_neg (partT_ne h e), partT_back h, wl_cons e]
theorem Asc.self {zs ys : List Str} (h : Asc zs ys) : Asc ys ys := ⟨h.1, h.2.1, fun _ => Iff.rfl⟩
theorem Asc.names {zs ys : List Str} (h : Asc zs ys) (n : Nm zs) : Nm ys := fun z hz => n z ((h.2.2 z).mp hz)
theorem Asc.len {zs ys : List Str} (h : Asc zs ys) : ys.length ≤ zs.length := h.1.length_le_of_subset fun y hy => (h.2.2 y).mp hy
theorem Asc.okL {zs ys : List Str} (h : Asc zs ys) (n : Nm zs) (l : zs.length ≤ 60) : OkL ys := ⟨h.self, h.names n, Nat.le_trans h.len l⟩
theorem OkL.nm {l : List Str} (h : OkL l) : Nm l := h.2.1
theorem Asc.fix {l ys : List Str} (h : Asc l l) (h' : Asc l ys) : ys = l := h'.uniq h fun _ => Iff.rfl
theorem okl_twi {l : List Str} (h : OkL l) : twi [] l = none := by
  have go : ∀ (r s : List Str), (s ++ r).Nodup → twi s r = none := fun r => by
    induction r with
    | nil => intro s _; rfl
    | cons z r ih =>
      intro s nd
      show (if z ∈ s then some z else _) = _
      have nz : z ∉ s := fun hz => by
        rw [List.nodup_append] at nd
        exact nd.2.2 z hz z (by simp) rfl
      rw [if_neg nz]
      exact ih _ (by simpa using nd)
  exact go l [] h.1.1
end K19
end
section
set_option Elab.async false
set_option autoImplicit false
set_option linter.all false
set_option maxRecDepth 100000
set_option maxHeartbeats 4000000
set_option pp.maxSteps 1500
namespace K19
open PySem PySem.Spec PyProof.Rows L2 Ls
open C8 (pss_cut tCut)
open TL
/-! ### a standing's text -/
theorem sum_le6 {n : Nat} : ∀ {zs : List Str}, (∀ z ∈ zs, z.length ≤ n) → (zs.map (·.length)).sum ≤ zs.length * n
  | [], _ => Nat.zero_le _
  | z :: r, h => by
    have ih := sum_le6 (zs := r) fun y hy => h y (List.mem_cons_of_mem _ hy)
    have := h z (List.mem_cons_self ..)
    simp only [List.map_cons, List.sum_cons, List.length_cons, Nat.add_mul]
    omega
theorem join_fit {l : List Str} (h : Nm l) (hl : l.length ≤ 60) : (l.map (·.length)).sum + l.length * (" " : Str).length ≤ 16777216 := by
  have h1 := sum_le6 (n := 6) fun z hz => (name_len (h z hz)).2
  have h2 : (" " : Str).length = 1 := by decide +kernel
  rw [h2]
  omega
/-- a standing at a -/
def flds (t1 t2 : Addr) : List (Str × V) := putF "kept" (.ref t2) (putF "held" (.ref t1) [])
structure StAt (CS : Addr) (H : Hp) (a : Addr) (h k : List Str) : Prop where
  ex : ∃ dx t1 t2, H a = some (.ins CS dx (flds t1 t2)) ∧ H t1 = some (.tup (h.map V.str)) ∧ H t2 = some (.tup (k.map V.str))
  oh : OkL h
  ok : OkL k
theorem StAt.ext {CS : Addr} {H H' : Hp} {a : Addr} {h k : List Str} (s : StAt CS H a h k) (e : Ext H H') : StAt CS H' a h k :=
  let ⟨dx, t1, t2, h1, h2, h3⟩ := s.ex
  ⟨⟨dx, t1, t2, e _ _ h1, e _ _ h2, e _ _ h3⟩, s.oh, s.ok⟩
theorem nhk : ¬ (("held" : Str) = "kept") := by decide +kernel
theorem flds_held (t1 t2 : Addr) : (flds t1 t2).lookup ("held" : Str) = some (.ref t1) := by
  unfold flds
  rw [lookup_putF, if_neg nhk, lookup_putF, if_pos rfl]
theorem flds_kept (t1 t2 : Addr) : (flds t1 t2).lookup ("kept" : Str) = some (.ref t2) := by
  unfold flds
  rw [lookup_putF, if_pos rfl]
/-- what the top says of the class -/
structure ClS (K : PySem.W.Frag) (CS fE : Addr) : Prop where
  cl : Cls K CS
  nH : NoAttr K CS "held"
  nK : NoAttr K CS "kept"
  ha : PySem.W.findIn K (.ref CS) "__class__" = some (some (.builtin "object.__class__"))
  hn : PySem.W.specialIn K (.builtin "object.__class__") "__get__" = some (some (.builtin "getset_descriptor.__get__"))
  htk : PySem.W.takesIn K (.builtin "object.__class__") = some true
  hm : PySem.W.mroIn K CS (.type "object") = some true
  kS : PySem.W.kitOne K (.ref CS) (.ref CS) = some true
  kT : PySem.W.kitOne K (.type "str") (.ref CS) = some false
  kP : PySem.W.kitOne K (.type "tuple") (.ref CS) = some false
  eq : PySem.W.findIn K (.ref CS) "__eq__" = some (some (.ref fE))
  ne : PySem.W.findIn K (.ref CS) "__ne__" = some (some (.builtin "object.__ne__"))
  nfS : PySem.W.notFirst K CS (.ref CS) = true
  nfT : PySem.W.notFirst K CS (.type "str") = true
  nfP : PySem.W.notFirst K CS (.type "tuple") = true
  fn : PySem.W.isFn K (.ref fE) = true
theorem StAt.tyX {K : PySem.W.Frag} {CS fE : Addr} (C : ClS K CS fE) {H : Hp} {a : Addr} {h k : List Str} (s : StAt CS H a h k) : TyX K H (.ref a) (.ref CS) := by
  obtain ⟨dx, t1, t2, h1, h2, h3⟩ := s.ex
  exact .base (.ins h1 C.cl C.ha C.hn C.htk C.hm)
section
variable {P : Program} {w : World} {K : PySem.W.Frag} {mg : Str → Option Value} {base : Heap} {CE CN CB CW CS : Addr} {tL tN : Tok}
def spPT (K : PySem.W.Frag) : Sp := fun vs H Q _ => ∃ (t : Addr) (l : List Str), vs = [.ref t] ∧ SqT K H t (l.map V.str) ∧ Nm l ∧ l.length ≤ 60 ∧ Q (.str (partT l)) H
abbrev s_part_text : Stmt := top 11
abbrev N_part_text : List Str := ["names"]
theorem sc_part_text : FnScope N_part_text ["names"] (defScope s_part_text) := ⟨rfl, rfl, rfl, by decide +kernel, rfl, by decide +kernel, by decide +kernel⟩
theorem ok_pt {f : Addr} {fd : FuncData} (F : Fun K "part_text" "part_text" s_part_text f fd) (T : Tx K mg CE CN CB CW CS tL tN) : FnOk P w K mg base CX0 1 f fd ["names"] (spPT K) := by
  refine F.ok sc_part_text (fun vs H Q E h => ?_) (fun cdv A outer s H vs Q E hr h => ?_)
  · obtain ⟨t, l, rfl, _⟩ := h
    rfl
  · obtain ⟨t, l, rfl, ht, hn, hl, k⟩ := h
    refine ⟨_, (pss_one (ps_ret (pe_ifExp (pt_cmpR op_gt (pe_callB call_len_seq (by rfl) (T.bn _ (by decide +kernel)) (by decide +kernel) (pa_cons (pv 0) pa_nil)) pe_int (nomark _)) (pe_join pe_str (pv 0)) pe_str))), ?_⟩
    refine ⟨_, rfl, t, _, rfl, .inr ht, _, _, rfl, rfl, _, rfl, ?_⟩
    rw [List.length_map]
    by_cases h : l = []
    · subst h
      rw [partT_nil] at k
      exact iteNo rfl k
    · have : 0 < l.length := List.length_pos_iff.mpr h
      rw [partT_cons h] at k
      refine iteYes (decide_eq_true (by omega)) ?_
      exact ⟨⟨_, rfl⟩, _, rfl, _, t, l, rfl, rfl, .inr ht, join_fit hn hl, k⟩
def spTx (K : PySem.W.Frag) : Sp := fun vs H Q _ => ∃ (t u : Addr) (l m : List Str), vs = [.ref t, .ref u] ∧ SqT K H t (l.map V.str) ∧ SqT K H u (m.map V.str) ∧ Nm l ∧ Nm m ∧ l.length ≤ 60 ∧ m.length ≤ 60 ∧ Q (.str (textOf l m)) H
abbrev s_text_of : Stmt := top 12
abbrev N_text_of : List Str := ["slots", "stored"]
theorem sc_text_of : FnScope N_text_of ["slots", "stored"] (defScope s_text_of) := ⟨rfl, rfl, rfl, by decide +kernel, rfl, by decide +kernel, by decide +kernel⟩
theorem partT_len {l : List Str} (h : Nm l) (hl : l.length ≤ 60) : (partT l).length ≤ 1000 := by
  rw [len_tl, tl_partT]
  have go : ∀ r : List (List Nat), (∀ p ∈ r, p.length ≤ 6) → (joinL [32] r).length ≤ r.length * 7 := fun r => by
    induction r with
    | nil => intro _; exact Nat.zero_le _
    | cons a r ih =>
      intro h
      have h1 := h a (by simp)
      have h2 := ih fun p hp => h p (List.mem_cons_of_mem _ hp)
      by_cases e : r = []
      · subst e
        show a.length ≤ _
        simp only [List.length_cons, List.length_nil]
        omega
      · rw [joinL_cons _ _ e, List.length_append, List.length_append, List.length_cons]
        simp only [List.length_cons, List.length_nil]
        omega
  have h1 : (wl l).length ≤ 61 := by
    by_cases e : l = []
    · rw [e, wl_nil]; decide
    · rw [wl_cons e]; omega
  have := go ((wl l).map tl) fun p hp => by
    obtain ⟨z, hz, rfl⟩ := List.mem_map.mp hp
    rw [← len_tl]
    exact wl_len h z hz
  rw [List.length_map] at this
  omega
theorem ok_tx {f : Addr} {fd : FuncData} (F : Fun K "text_of" "text_of" s_text_of f fd) (T : Tx K mg CE CN CB CW CS tL tN) (c_part_text : Cal P w K mg base CX0 1 "part_text" (spPT K)) : FnOk P w K mg base CX0 2 f fd ["slots", "stored"] (spTx K) := by
  refine F.ok sc_text_of (fun vs H Q E h => ?_) (fun cdv A outer s H vs Q E hr h => ?_)
  · obtain ⟨t, u, l, m, rfl, _⟩ := h
    rfl
  · obtain ⟨t, u, l, m, rfl, ht, hu, hl, hm, l1, l2, k⟩ := h
    have b1 := partT_len hl l1
    have b2 := partT_len hm l2
    have b3 : (" / " : Str).length = 3 := by decide +kernel
    have h4 : sizeLine = 16777216 := sizeLine_eq
    refine ⟨_, (pss_one (ps_ret (pe_op op_add_str (pe_op op_add_str (pe_cal c_part_text (hr.mono (by decide)) (by rfl) pass0 (pa_cons (pv 0) pa_nil)) pe_str) (pe_cal c_part_text (hr.mono (by decide)) (by rfl) pass0 (pa_cons (pv 1) pa_nil))))), ?_⟩
    refine ⟨_, rfl, t, l, rfl, ht, hl, l1, ?_⟩
    refine ⟨_, _, rfl, rfl, by omega, _, rfl, u, m, rfl, hu, hm, l2, _, _, rfl, rfl, ?_, k⟩
    rw [Str.length_append]
    omega
def spPN : Sp := fun vs H Q _ => ∃ (z : Str), vs = [.str z] ∧ z.length ≤ 10000 ∧ ∀ p H', Ext H H' → nw H H' p = some (.lst ((unT z).map V.str)) → Q (.ref p) H'
abbrev s_part_names : Stmt := top 13
abbrev N_part_names : List Str := ["text"]
theorem sc_part_names : FnScope N_part_names ["text"] (defScope s_part_names) := ⟨rfl, rfl, rfl, by decide +kernel, rfl, by decide +kernel, by decide +kernel⟩
theorem ok_pn {f : Addr} {fd : FuncData} (F : Fun K "part_names" "part_names" s_part_names f fd) (T : Tx K mg CE CN CB CW CS tL tN) : FnOk P w K mg base CX0 1 f fd ["text"] spPN := by
  refine F.ok sc_part_names (fun vs H Q E h => ?_) (fun cdv A outer s H vs Q E hr h => ?_)
  · obtain ⟨z, rfl, _⟩ := h
    rfl
  · obtain ⟨z, rfl, hz, k⟩ := h
    have h4 : sizeLine = 16777216 := sizeLine_eq
    refine ⟨_, (pss_one (ps_ret (pe_ifExp (pt_cmpR op_eq (pv 0) pe_str (nomark _)) (pe_lst pa_nil) (pe_split (pv 0) pe_str)))), ?_⟩
    refine ⟨_, rfl, rfl, _, rfl, ?_⟩
    by_cases e : z = "-"
    · have e1 : unT z = [] := if_pos e
      rw [e1] at k
      subst e
      refine iteYes (decide_eq_true rfl) ?_
      refine ⟨(by show 0 ≤ sizeLine; decide), fun p np => k p _ (Ext.upd np) (by rw [nw_at np]; exact upd_same)⟩
    · have e1 : unT z = Txt.split z " " := if_neg e
      rw [e1] at k
      refine iteNo (strNo e) ?_
      exact ⟨_, rfl, ⟨_, rfl⟩, _, _, rfl, rfl, by decide +kernel, by omega, fun p np => k p _ (Ext.upd np) (by rw [nw_at np]; exact upd_same)⟩
end
end K19
end
section
set_option Elab.async false
set_option autoImplicit false
set_option linter.all false
set_option maxRecDepth 100000
set_option maxHeartbeats 4000000
set_option pp.maxSteps 1500
namespace K19
open PySem PySem.Spec PyProof.Rows L2 Ls
open C8 (pss_cut tCut)
open TL
/-! ### Standing(..) -/
/-- what is due of two parts -/
def twO (l m : List Str) : Option Str := match twi [] l with
  | some z => some z
  | none => twi [] m
def Sq (K : PySem.W.Frag) (H : Hp) (a : Addr) (xs : List V) : Prop := SqL K H a xs ∨ SqT K H a xs
theorem Sq.ext {K : PySem.W.Frag} {H H' : Hp} {a : Addr} {xs : List V} (h : Sq K H a xs) (e : Ext H H') : Sq K H' a xs := h.elim (fun h => .inl (h.ext e)) fun h => .inr (h.ext e)
theorem Sq.upd {K : PySem.W.Frag} {H : Hp} {a x C dx : Addr} {fs : List (Str × V)} {o : HO} {xs : List V} (h : Sq K H a xs) (hx : H x = some (.ins C dx fs)) : Sq K (upd H x o) a xs := by
  have one : ∀ {u : HO}, (∀ C dx fs, u ≠ .ins C dx fs) → Rd H a u → Rd (L2.upd H x o) a u := fun {u} hu r => by
    rcases r with r | ⟨o', r⟩
    · exact .inl (by rw [upd_ne (fun z => by rw [z, hx] at r; exact hu _ _ _ (Option.some.inj r).symm)]; exact r)
    · exact .inr ⟨o', by rw [upd_ne (fun z => by rw [z, hx] at r; cases r)]; exact r⟩
  exact h.elim (fun h => .inl (h.elim (fun r => .inl (one (fun _ _ _ z => nomatch z) r)) .inr)) fun h => .inr (h.elim (fun r => .inl (one (fun _ _ _ z => nomatch z) r)) .inr)
theorem bad_app : ∀ {ds es : List PyData}, badOf ds = none → badOf (ds ++ es) = badOf es
  | [], _, _ => rfl
  | d :: r, es, h => by
    have h : (if nameOf d = none then some d else badOf r) = none := h
    show (if nameOf d = none then some d else badOf (r ++ es)) = _
    by_cases q : nameOf d = none
    · rw [if_pos q] at h
      cases h
    · rw [if_neg q] at h ⊢
      exact bad_app h
theorem bad_app1 : ∀ {ds es : List PyData} {d : PyData}, badOf ds = some d → badOf (ds ++ es) = some d
  | x :: r, es, d, h => by
    have h : (if nameOf x = none then some x else badOf r) = some d := h
    show (if nameOf x = none then some x else badOf (r ++ es)) = _
    by_cases q : nameOf x = none
    · rw [if_pos q] at h ⊢
      exact h
    · rw [if_neg q] at h ⊢
      exact bad_app1 h
section
variable {P : Program} {w : World} {K : PySem.W.Frag} {mg : Str → Option Value} {base : Heap} {CE CN CB CW CS : Addr} {tL tN : Tok}
def spSt (K : PySem.W.Frag) (CN CW CS : Addr) : Sp := fun vs H Q E => ∃ (x dx l m : Addr) (xs ys : List V) (ds es : List PyData), vs = [.ref x, .ref l, .ref m] ∧ H x = some (.ins CS dx []) ∧ Sq K H l xs ∧ Sq K H m ys ∧ ArgsAt H xs ds ∧ ArgsAt H ys es ∧ xs.length ≤ 60 ∧ ys.length ≤ 60 ∧
  (∀ d, badOf (ds ++ es) = some d → ∀ v H1, Ext H H1 → TV H1 v d → Errs CN "value" v H1 E) ∧
  (badOf (ds ++ es) = none → ∀ z, twO (namesOf ds) (namesOf es) = some z → Errs CW "name" (.str z) H E) ∧
  (badOf (ds ++ es) = none → twO (namesOf ds) (namesOf es) = none → ∀ h k H', Asc (namesOf ds) h → Asc (namesOf es) k → StAt CS H' x h k → (∀ b o, H b = some o → b ≠ x → H' b = some o) → Q .non H')
abbrev s_Standing_init : Stmt := inClass (top 16) 0
abbrev N_Standing_init : List Str := ["self", "slots", "stored"]
theorem sc_Standing_init : FnScope N_Standing_init ["self", "slots", "stored"] (defScope s_Standing_init) := ⟨rfl, rfl, rfl, by decide +kernel, rfl, by decide +kernel, by decide +kernel⟩
theorem ok_init {f fE : Addr} {fd : FuncData} {dvs : List V} (F : FunD K "__init__" "Standing.__init__" (defArgs s_Standing_init) (defBody s_Standing_init) (defScope s_Standing_init) dvs [] f fd) (T : Tx K mg CE CN CB CW CS tL tN) (C : ClS K CS fE) (c_need_all_names : Cal P w K mg base (L2.CX P w) 3 "need_all_names" (spNA K CN)) (c_need_unlike : Cal P w K mg base (L2.CX P w) 3 "need_unlike" (spUn K CW)) (c_ascending : Cal P w K mg base CX0 1 "ascending" (spAsc K)) :
    FnOk P w K mg base (L2.CX P w) 4 f fd ["self", "slots", "stored"] (spSt K CN CW CS) := by
  refine F.ok (CX := L2.CX P w) sc_Standing_init (fun vs H Q E h => ?_) (fun cdv A outer s H vs Q E hr h => ?_)
  · obtain ⟨x, dx, l, m, xs, ys, ds, es, rfl, _⟩ := h
    rfl
  · obtain ⟨x, dx, l, m, xs, ys, ds, es, rfl, hx, hl, hm, al, am, l1, l2, kb, kt, k⟩ := h
    refine ⟨_, (pss_cons (ps_expr (pe_cal c_need_all_names (hr.mono (by decide)) (by rfl) passC (pa_cons (pv 1) pa_nil)))
      (pss_cons (ps_expr (pe_cal c_need_all_names (hr.mono (by decide)) (by rfl) passC (pa_cons (pv 2) pa_nil)))
      (pss_cons (ps_expr (pe_cal c_need_unlike (hr.mono (by decide)) (by rfl) passC (pa_cons (pv 1) pa_nil)))
      (pss_cons (ps_expr (pe_cal c_need_unlike (hr.mono (by decide)) (by rfl) passC (pa_cons (pv 2) pa_nil)))
      (pss_cons (ps_fld (pv 0) (pe_cal c_ascending (hr.mono (by decide)) (by rfl) pass0 (pa_cons (pv 1) pa_nil)) rfl)
      (pss_one (ps_fld (pv 0) (pe_cal c_ascending (hr.mono (by decide)) (by rfl) pass0 (pa_cons (pv 2) pa_nil)) rfl))))))), ?_⟩
    refine ⟨_, rfl, l, xs, ds, rfl, hl, al, fun d hd v H1 e1 hv => ?_, fun nb H1 e1 => ?_⟩
    · exact kb d (bad_app1 hd) v H1 e1 hv
    refine ⟨_, rfl, m, ys, es, rfl, hm.ext e1, am.ext e1, fun d hd v H2 e2 hv => ?_, fun nb2 H2 e2 => ?_⟩
    · exact kb d (by rw [bad_app nb]; exact hd) v H2 (e1.trans e2) hv
    have nb3 : badOf (ds ++ es) = none := by rw [bad_app nb]; exact nb2
    have e02 := e1.trans e2
    have exs := al.names nb
    have eys := am.names nb2
    subst exs eys
    rw [List.length_map] at l1 l2
    refine ⟨_, rfl, l, namesOf ds, rfl, hl.ext e02, by omega, fun z hz => ?_, fun nt H3 e3 => ?_⟩
    · exact (kt nb3 z (by unfold twO; rw [hz])).ext e02
    have e03 := e02.trans e3
    refine ⟨_, rfl, m, namesOf es, rfl, hm.ext e03, by omega, fun z hz => ?_, fun nt2 H4 e4 => ?_⟩
    · exact (kt nb3 z (by unfold twO; rw [nt]; exact hz)).ext e03
    have e04 := e03.trans e4
    have k := k nb3 (by unfold twO; rw [nt]; exact nt2)
    refine ⟨_, rfl, l, namesOf ds, rfl, hl.ext e04, l1, fun t1 h H5 ah e5 ht1 => ?_⟩
    have e05 := e04.trans e5
    have hx5 := e05 _ _ hx
    have f1 := nw_ext _ _ ht1
    refine ⟨_, rfl, x, CS, dx, _, rfl, hx5, C.cl, C.nH, (by show 0 < 1000; decide), ?_⟩
    have x6 : (upd H5 x (.ins CS dx (putF "held" (.ref t1) []))) x = some (.ins CS dx (putF "held" (.ref t1) [])) := upd_same
    have t6 : (upd H5 x (.ins CS dx (putF "held" (.ref t1) []))) t1 = some (.tup (h.map V.str)) := by rw [upd_ne (fun z => by rw [z, hx5] at f1; cases f1)]; exact f1
    have m6 := (Sq.ext hm e05).upd (o := .ins CS dx (putF "held" (.ref t1) [])) hx5
    have k6 : ∀ b o, H b = some o → b ≠ x → (upd H5 x (.ins CS dx (putF "held" (.ref t1) []))) b = some o := fun b o q nb => by rw [upd_ne nb]; exact e05 _ _ q
    generalize (upd H5 x (.ins CS dx (putF "held" (.ref t1) []))) = H6 at x6 t6 m6 k6
    refine ⟨_, rfl, m, namesOf es, rfl, m6, l2, fun t2 kk H7 ak e7 ht2 => ?_⟩
    have f2 := nw_ext _ _ ht2
    have x7 := e7 _ _ x6
    have t7 := e7 _ _ t6
    refine ⟨_, rfl, x, CS, dx, _, rfl, x7, C.cl, C.nK, (by show 1 < 1000; decide), ?_⟩
    refine k h kk _ ah ak ⟨⟨dx, t1, t2, upd_same, ?_, ?_⟩, ah.okL (bad_none nb).2 l1, ak.okL (bad_none nb2).2 l2⟩ fun b o q nb => ?_
    · rw [upd_ne (fun z => by rw [z, x7] at t7; cases t7)]
      exact t7
    · rw [upd_ne (fun z => by rw [z, x7] at f2; cases f2)]
      exact f2
    · rw [upd_ne nb]
      exact e7 _ _ (k6 b o q nb)
theorem keep_new {H H' : Hp} {x dx : Addr} {o1 o2 : HO} (nx : H x = none) (nd : H dx = none) (hk : ∀ b o, (upd (upd H dx o1) x o2) b = some o → b ≠ x → H' b = some o) (ne : dx ≠ x) : Ext H H' := fun b o q => by
  have h1 := ne_of_none q nx
  have h2 := ne_of_none q nd
  exact hk b o (by rw [upd_ne h1, upd_ne h2]; exact q) h1
/-- a standing made of any values -/
theorem mk_any {H : Hp} {l m : Addr} {xs ys : List V} {ds es : List PyData} {Qf : Addr → VK} {E : XK} (hl : Sq K H l xs) (hm : Sq K H m ys) (al : ArgsAt H xs ds) (am : ArgsAt H ys es) (l1 : xs.length ≤ 60) (l2 : ys.length ≤ 60)
    (kb : ∀ d, badOf (ds ++ es) = some d → ∀ v H1, Ext H H1 → TV H1 v d → Errs CN "value" v H1 E) (kt : badOf (ds ++ es) = none → ∀ z, twO (namesOf ds) (namesOf es) = some z → Errs CW "name" (.str z) H E)
    (k : badOf (ds ++ es) = none → twO (namesOf ds) (namesOf es) = none → ∀ h k x H', Asc (namesOf ds) h → Asc (namesOf es) k → Ext H H' → StAt CS H' x h k → Qf x .non H') :
    ∀ x dx, H x = none → H dx = none → dx ≠ x → spSt K CN CW CS [.ref x, .ref l, .ref m] (upd (upd H dx (.own x)) x (.ins CS dx [])) (Qf x) E := fun x dx nx nd ne => by
  have e : Ext H (upd (upd H dx (.own x)) x (.ins CS dx [])) := (Ext.upd nd).trans (Ext.upd (by rw [upd_ne ne.symm]; exact nx))
  refine ⟨x, dx, l, m, xs, ys, ds, es, rfl, upd_same, hl.ext e, hm.ext e, al.ext e, am.ext e, l1, l2, fun d hd v H1 e1 hv => kb d hd v H1 (e.trans e1) hv, fun nb z hz => (kt nb z hz).ext e, fun nb nt h kk H' ah ak st hk => ?_⟩
  exact k nb nt h kk x H' ah ak (keep_new nx nd hk ne) st
theorem strs_tvs {H : Hp} : ∀ l : List Str, TVs H (l.map V.str) (l.map .str)
  | [] => .nil
  | _ :: l => .cons (.str _) (strs_tvs l)
theorem args_names {H : Hp} {l : List Str} (h : Nm l) (hl : l.length ≤ 100) : ArgsAt H (l.map V.str) (l.map .str) := ⟨strs_tvs l, fun d hd z e => by
  obtain ⟨y, hy, e2⟩ := List.mem_map.mp hd
  have e3 : y = z := PyData.str.inj (e2.trans e)
  rw [← e3]
  exact Nat.le_trans (name_len (h y hy)).2 (by decide), by rw [List.length_map]; exact hl⟩
theorem bad_names {l : List Str} (h : Nm l) : badOf (l.map .str) = none := by
  refine bad_all fun j d hd => ?_
  rw [List.getElem?_map] at hd
  obtain ⟨z, hz, rfl⟩ := Option.map_eq_some_iff.mp hd
  rw [nameOf_str (h z (List.mem_of_getElem? hz))]
  simp
theorem nodup_twi {l : List Str} (h : l.Nodup) : twi [] l = none := by
  have go : ∀ (r s : List Str), (s ++ r).Nodup → twi s r = none := fun r => by
    induction r with
    | nil => intro s _; rfl
    | cons z r ih =>
      intro s nd
      show (if z ∈ s then some z else _) = _
      have nz : z ∉ s := fun hz => by
        rw [List.nodup_append] at nd
        exact nd.2.2 z hz z (by simp) rfl
      rw [if_neg nz]
      exact ih _ (by simpa using nd)
  exact go l [] h
/-- a standing made of names, none twice -/
theorem mk_st {H : Hp} {l m : Addr} {us vs : List Str} {Qf : Addr → VK} {E : XK} (hl : Sq K H l (us.map V.str)) (hm : Sq K H m (vs.map V.str)) (n1 : Nm us) (n2 : Nm vs) (d1 : us.Nodup) (d2 : vs.Nodup) (l1 : us.length ≤ 60) (l2 : vs.length ≤ 60)
    (k : ∀ h k x H', Asc us h → Asc vs k → Ext H H' → StAt CS H' x h k → Qf x .non H') :
    ∀ x dx, H x = none → H dx = none → dx ≠ x → spSt K CN CW CS [.ref x, .ref l, .ref m] (upd (upd H dx (.own x)) x (.ins CS dx [])) (Qf x) E := by
  have nb : badOf (us.map .str ++ vs.map .str) = none := by rw [bad_app (bad_names n1), bad_names n2]
  have nt : twO us vs = none := by unfold twO; rw [nodup_twi d1]; exact nodup_twi d2
  refine mk_any hl hm (args_names n1 (by omega)) (args_names n2 (by omega)) (by rw [List.length_map]; exact l1) (by rw [List.length_map]; exact l2) (fun d hd => by rw [nb] at hd; cases hd) (fun _ z hz => by rw [names_str _ n1, names_str _ n2, nt] at hz; cases hz) fun _ _ h kk x H' ah ak e st => ?_
  rw [names_str _ n1] at ah
  rw [names_str _ n2] at ak
  exact k h kk x H' ah ak e st
end
end K19
end
section
set_option Elab.async false
set_option autoImplicit false
set_option linter.all false
set_option maxRecDepth 100000
set_option maxHeartbeats 4000000
set_option pp.maxSteps 1500
namespace K19
open PySem PySem.Spec PyProof.Rows L2 Ls
open C8 (pss_cut tCut)
open TL
section
variable {P : Program} {w : World} {K : PySem.W.Frag} {mg : Str → Option Value} {base : Heap} {CE CN CB CW CS : Addr} {tL tN : Tok}
/-! ### slots, stored, names -/
def spHeld (CS : Addr) : Sp := fun vs H Q _ => ∃ (a : Addr) (h k : List Str), vs = [.ref a] ∧ StAt CS H a h k ∧ ∀ t, H t = some (.tup (h.map V.str)) → Q (.ref t) H
abbrev s_Standing_slots : Stmt := inClass (top 16) 2
abbrev N_Standing_slots : List Str := ["self"]
theorem sc_Standing_slots : FnScope N_Standing_slots ["self"] (defScope s_Standing_slots) := ⟨rfl, rfl, rfl, by decide +kernel, rfl, by decide +kernel, by decide +kernel⟩
theorem ok_slots {f fE : Addr} {fd : FuncData} (F : Fun K "slots" "Standing.slots" s_Standing_slots f fd) (T : Tx K mg CE CN CB CW CS tL tN) (C : ClS K CS fE) : FnOk P w K mg base CX0 1 f fd ["self"] (spHeld CS) := by
  refine F.ok sc_Standing_slots (fun vs H Q E h => ?_) (fun cdv A outer s H vs Q E hr h => ?_)
  · obtain ⟨a, h, k, rfl, _⟩ := h
    rfl
  · obtain ⟨a, h, k, rfl, st, q⟩ := h
    obtain ⟨dx, t1, t2, h1, h2, h3⟩ := st.ex
    refine ⟨_, (pss_one (ps_ret (pe_fld (pv 0) rfl))), ?_⟩
    exact ⟨_, rfl, a, CS, dx, _, _, rfl, h1, C.cl, C.nH, rfl, q t1 h2⟩
def spKept (CS : Addr) : Sp := fun vs H Q _ => ∃ (a : Addr) (h k : List Str), vs = [.ref a] ∧ StAt CS H a h k ∧ ∀ t, H t = some (.tup (k.map V.str)) → Q (.ref t) H
abbrev s_Standing_stored : Stmt := inClass (top 16) 3
abbrev N_Standing_stored : List Str := ["self"]
theorem sc_Standing_stored : FnScope N_Standing_stored ["self"] (defScope s_Standing_stored) := ⟨rfl, rfl, rfl, by decide +kernel, rfl, by decide +kernel, by decide +kernel⟩
theorem ok_stored {f fE : Addr} {fd : FuncData} (F : Fun K "stored" "Standing.stored" s_Standing_stored f fd) (T : Tx K mg CE CN CB CW CS tL tN) (C : ClS K CS fE) : FnOk P w K mg base CX0 1 f fd ["self"] (spKept CS) := by
  refine F.ok sc_Standing_stored (fun vs H Q E h => ?_) (fun cdv A outer s H vs Q E hr h => ?_)
  · obtain ⟨a, h, k, rfl, _⟩ := h
    rfl
  · obtain ⟨a, h, k, rfl, st, q⟩ := h
    obtain ⟨dx, t1, t2, h1, h2, h3⟩ := st.ex
    refine ⟨_, (pss_one (ps_ret (pe_fld (pv 0) rfl))), ?_⟩
    exact ⟨_, rfl, a, CS, dx, _, _, rfl, h1, C.cl, C.nK, rfl, q t2 h3⟩
def spNames (CS : Addr) : Sp := fun vs H Q _ => ∃ (a : Addr) (h k : List Str), vs = [.ref a] ∧ StAt CS H a h k ∧ h.length + k.length ≤ 60 ∧ ∀ t ns H', Ext H H' → Asc (h ++ k) ns → nw H H' t = some (.tup (ns.map V.str)) → Q (.ref t) H'
abbrev s_Standing_names : Stmt := inClass (top 16) 4
abbrev N_Standing_names : List Str := ["self"]
theorem sc_Standing_names : FnScope N_Standing_names ["self"] (defScope s_Standing_names) := ⟨rfl, rfl, rfl, by decide +kernel, rfl, by decide +kernel, by decide +kernel⟩
theorem ok_names {f fE : Addr} {fd : FuncData} (F : Fun K "names" "Standing.names" s_Standing_names f fd) (T : Tx K mg CE CN CB CW CS tL tN) (C : ClS K CS fE) (c_ascending : Cal P w K mg base CX0 1 "ascending" (spAsc K)) : FnOk P w K mg base CX0 2 f fd ["self"] (spNames CS) := by
  refine F.ok sc_Standing_names (fun vs H Q E h => ?_) (fun cdv A outer s H vs Q E hr h => ?_)
  · obtain ⟨a, h, k, rfl, _⟩ := h
    rfl
  · obtain ⟨a, h, k, rfl, st, hl, q⟩ := h
    obtain ⟨dx, t1, t2, h1, h2, h3⟩ := st.ex
    refine ⟨_, (pss_one (ps_ret (pe_cal c_ascending (hr.mono (by decide)) (by rfl) pass0 (pa_cons (pe_lst (StX.pa_star (pe_fld (pv 0) rfl) (StX.pa_star (pe_fld (pv 0) rfl) pa_nil))) pa_nil)))), ?_⟩
    refine ⟨_, rfl, a, CS, dx, _, _, rfl, h1, C.cl, C.nH, rfl, t1, _, rfl, .inl (SqT.of h2), _, rfl, a, CS, dx, _, _, rfl, h1, C.cl, C.nK, rfl, t2, _, rfl, .inl (SqT.of h3), ?_⟩
    have h4 : sizeLine = 16777216 := sizeLine_eq
    refine ⟨by simp only [List.length_append, List.length_map, List.length_nil]; omega, fun p np => ?_⟩
    have e1 := Ext.upd (o := HO.lst (h.map V.str ++ (k.map V.str ++ []))) np
    refine ⟨p, h ++ k, rfl, .inl (SqL.of ?_), by rw [List.length_append]; omega, fun q' ys H' ha e hq => ?_⟩
    · rw [upd_same, List.append_nil, List.map_append]
    · exact q q' ys H' (e1.trans e) ha (nw_back e1 _ _ hq)
/-! ### is_within, <=, >= -/
def spWithin (CS : Addr) : Sp := fun vs H Q _ => ∃ (a b : Addr) (h k h' k' : List Str), vs = [.ref a, .ref b] ∧ StAt CS H a h k ∧ StAt CS H b h' k' ∧ ∀ H', Ext H H' → Q (.bl (decide ((∀ z ∈ h, z ∈ h') ∧ ∀ z ∈ k, z ∈ k'))) H'
abbrev s_Standing_is_within : Stmt := inClass (top 16) 6
abbrev N_Standing_is_within : List Str := ["self", "other", "has_slots", "name"]
theorem sc_Standing_is_within : FnScope N_Standing_is_within ["self", "other"] (defScope s_Standing_is_within) := ⟨rfl, rfl, rfl, by decide +kernel, rfl, by decide +kernel, by decide +kernel⟩
theorem ok_within {f fE : Addr} {fd : FuncData} (F : Fun K "is_within" "Standing.is_within" s_Standing_is_within f fd) (T : Tx K mg CE CN CB CW CS tL tN) (C : ClS K CS fE) : FnOk P w K mg base CX0 1 f fd ["self", "other"] (spWithin CS) := by
  refine F.ok sc_Standing_is_within (fun vs H Q E h => ?_) (fun cdv A outer s H vs Q E hr h => ?_)
  · obtain ⟨a, b, h, k, h', k', rfl, _⟩ := h
    rfl
  · obtain ⟨a, b, h, k, h', k', rfl, st, st', q⟩ := h
    obtain ⟨dx, t1, t2, h1, h2, h3⟩ := st.ex
    obtain ⟨dy, u1, u2, g1, g2, g3⟩ := st'.ex
    refine ⟨_, (pss_cons (ps_set (i := 2) sc_Standing_is_within.nd rfl (by first | exact Or.inl rfl | exact Or.inr rfl) (pe_callB (cr_all rfl) (by rfl) (T.bn _ (by decide +kernel)) (by decide +kernel) (pa_cons (pe_lc (own := [("name", 3)]) rfl sc_Standing_is_within.nd (pi_tupK (K := K) rfl (pe_fld (pv 0) rfl)) (blkOk_by (own := [("name", 3)]) (N := N_Standing_is_within) (sc := defScope s_Standing_is_within) (by decide +kernel)) (fun _ _ _ _ _ => (pg_name (i := 3) sc_Standing_is_within.nd rfl (by first | exact Or.inl rfl | exact Or.inr rfl))) (fun _ _ _ _ _ => pts_nil) (fun _ _ _ _ _ => (pe_cmpR (op_in_seqK (K := K) rfl) (pv 3) (pe_fldK (K := K) rfl (pv 1)) rfl))) pa_nil)))
      (pss_one (ps_ret (pe_and (pv 2) (pe_one (pe_callB (cr_all rfl) (by rfl) (T.bn _ (by decide +kernel)) (by decide +kernel) (pa_cons (pe_lc (own := [("name", 3)]) rfl sc_Standing_is_within.nd (pi_tupK (K := K) rfl (pe_fld (pv 0) rfl)) (blkOk_by (own := [("name", 3)]) (N := N_Standing_is_within) (sc := defScope s_Standing_is_within) (by decide +kernel)) (fun _ _ _ _ _ => (pg_name (i := 3) sc_Standing_is_within.nd rfl (by first | exact Or.inl rfl | exact Or.inr rfl))) (fun _ _ _ _ _ => pts_nil) (fun _ _ _ _ _ => (pe_cmpR (op_in_seqK (K := K) rfl) (pv 3) (pe_fldK (K := K) rfl (pv 1)) rfl))) pa_nil))))))), ?_⟩
    refine ⟨_, rfl, a, CS, dx, _, _, rfl, h1, C.cl, C.nH, rfl, t1, rfl, ⟨_, SqT.of h2⟩, fun D hD => ?_⟩
    refine lc_strs walk_tup (fun z => some (.bl (decide (z ∈ h')))) (Nat.le_trans st.oh.2.2 (by decide)) (fun l => SqT.of (at_new hD h2)) (fun i z l C' N hz hC hN => ?_) ?_
    · refine ⟨rfl, _, rfl, _, rfl, b, CS, dy, _, _, rfl, at_new hD g1, C.cl, C.nH, rfl, u1, _, rfl, .inr (SqT.of (at_new hD g2)), rfl, flat_strs _, ?_⟩
      rw [inV_strs]
      exact hC _ rfl
    have e1 := Ext.upd (o := HO.lst (h.filterMap fun z => some (.bl (decide (z ∈ h'))))) hD
    refine ⟨D, h.map fun z => decide (z ∈ h'), rfl, SqL.of ?_, ?_⟩
    · rw [upd_same, List.map_map]
      simp [List.filterMap_eq_map']
    rw [List.all_map]
    generalize (upd H D (.lst (h.filterMap fun z => some (.bl (decide (z ∈ h')))))) = H1 at e1
    have ex : ∀ l m : List Str, (l.all (id ∘ fun z => decide (z ∈ m))) = decide (∀ z ∈ l, z ∈ m) := fun l m => by
      rw [Bool.eq_iff_iff]
      simp
    rw [ex]
    refine ⟨_, rfl, ?_⟩
    by_cases c1 : ∀ z ∈ h, z ∈ h'
    case neg =>
      have q := q H1 e1
      rw [decide_eq_false fun z => c1 z.1] at q
      rw [decide_eq_false c1]
      exact ⟨_, rfl, iteF q⟩
    rw [decide_eq_true c1]
    refine ⟨_, rfl, iteT ?_⟩
    refine ⟨_, rfl, a, CS, dx, _, _, rfl, e1 _ _ h1, C.cl, C.nK, rfl, t2, rfl, ⟨_, SqT.of (e1 _ _ h3)⟩, fun D2 hD2 => ?_⟩
    refine lc_strs walk_tup (fun z => some (.bl (decide (z ∈ k')))) (Nat.le_trans st.ok.2.2 (by decide)) (fun l => SqT.of (at_new hD2 (e1 _ _ h3))) (fun i z l C' N hz hC hN => ?_) ?_
    · refine ⟨rfl, _, rfl, _, rfl, b, CS, dy, _, _, rfl, at_new hD2 (e1 _ _ g1), C.cl, C.nK, rfl, u2, _, rfl, .inr (SqT.of (at_new hD2 (e1 _ _ g3))), rfl, flat_strs _, ?_⟩
      rw [inV_strs]
      exact hC _ rfl
    have e2 := Ext.upd (o := HO.lst (k.filterMap fun z => some (.bl (decide (z ∈ k'))))) hD2
    refine ⟨D2, k.map fun z => decide (z ∈ k'), rfl, SqL.of ?_, ?_⟩
    · rw [upd_same, List.map_map]
      simp [List.filterMap_eq_map']
    rw [List.all_map, ex]
    have q := q _ (e1.trans e2)
    rw [decide_eq_decide.mpr (show ((∀ z ∈ h, z ∈ h') ∧ ∀ z ∈ k, z ∈ k') ↔ ∀ z ∈ k, z ∈ k' from ⟨fun z => z.2, fun z => ⟨c1, z⟩⟩)] at q
    exact q
/-- le, ge -/
def spGe (CS : Addr) : Sp := fun vs H Q _ => ∃ (a b : Addr) (h k h' k' : List Str), vs = [.ref b, .ref a] ∧ StAt CS H a h k ∧ StAt CS H b h' k' ∧ ∀ H', Ext H H' → Q (.bl (decide ((∀ z ∈ h, z ∈ h') ∧ ∀ z ∈ k, z ∈ k'))) H'
abbrev s_Standing_le : Stmt := inClass (top 16) 7
abbrev N_Standing_le : List Str := ["self", "other"]
theorem sc_Standing_le : FnScope N_Standing_le ["self", "other"] (defScope s_Standing_le) := ⟨rfl, rfl, rfl, by decide +kernel, rfl, by decide +kernel, by decide +kernel⟩
theorem ok_le {f fE : Addr} {fd : FuncData} (F : Fun K "__le__" "Standing.__le__" s_Standing_le f fd) (T : Tx K mg CE CN CB CW CS tL tN) (C : ClS K CS fE) (o_is_within : OwnM P w K mg base CX0 1 CS "is_within" (spWithin CS)) : FnOk P w K mg base CX0 2 f fd ["self", "other"] (spWithin CS) := by
  refine F.ok sc_Standing_le (fun vs H Q E h => ?_) (fun cdv A outer s H vs Q E hr h => ?_)
  · obtain ⟨a, b, h, k, h', k', rfl, _⟩ := h
    rfl
  · obtain ⟨a, b, h, k, h', k', rfl, st, st', q⟩ := h
    obtain ⟨dx, t1, t2, h1, h2, h3⟩ := st.ex
    refine ⟨_, (pss_one (ps_ret (pe_om o_is_within (hr.mono (by decide)) (pv 0) pass0 (pa_cons (pv 1) pa_nil)))), ?_⟩
    exact ⟨_, rfl, a, dx, _, rfl, h1, rfl, _, rfl, a, b, h, k, h', k', rfl, st, st', q⟩
abbrev s_Standing_ge : Stmt := inClass (top 16) 8
abbrev N_Standing_ge : List Str := ["self", "other"]
theorem sc_Standing_ge : FnScope N_Standing_ge ["self", "other"] (defScope s_Standing_ge) := ⟨rfl, rfl, rfl, by decide +kernel, rfl, by decide +kernel, by decide +kernel⟩
theorem ok_ge {f fE : Addr} {fd : FuncData} (F : Fun K "__ge__" "Standing.__ge__" s_Standing_ge f fd) (T : Tx K mg CE CN CB CW CS tL tN) (C : ClS K CS fE) (o_is_within : OwnM P w K mg base CX0 1 CS "is_within" (spWithin CS)) : FnOk P w K mg base CX0 2 f fd ["self", "other"] (spGe CS) := by
  refine F.ok sc_Standing_ge (fun vs H Q E h => ?_) (fun cdv A outer s H vs Q E hr h => ?_)
  · obtain ⟨a, b, h, k, h', k', rfl, _⟩ := h
    rfl
  · obtain ⟨a, b, h, k, h', k', rfl, st, st', q⟩ := h
    obtain ⟨dx, t1, t2, h1, h2, h3⟩ := st.ex
    refine ⟨_, (pss_one (ps_ret (pe_om o_is_within (hr.mono (by decide)) (pv 1) pass0 (pa_cons (pv 0) pa_nil)))), ?_⟩
    exact ⟨_, rfl, a, dx, _, rfl, h1, rfl, _, rfl, a, b, h, k, h', k', rfl, st, st', q⟩
def spOr (K : PySem.W.Frag) (CS : Addr) : Sp := fun vs H Q _ => ∃ (a b : Addr) (h k h' k' : List Str), vs = [.ref a, .ref b] ∧ StAt CS H a h k ∧ StAt CS H b h' k' ∧ h.length + h'.length ≤ 60 ∧ k.length + k'.length ≤ 60 ∧
  ∀ c u v H', Asc (h ++ h') u → Asc (k ++ k') v → Ext H H' → StAt CS H' c u v → Q (.ref c) H'
abbrev s_Standing_or : Stmt := inClass (top 16) 9
abbrev N_Standing_or : List Str := ["self", "other"]
theorem sc_Standing_or : FnScope N_Standing_or ["self", "other"] (defScope s_Standing_or) := ⟨rfl, rfl, rfl, by decide +kernel, rfl, by decide +kernel, by decide +kernel⟩
theorem ok_or {f fE : Addr} {fd : FuncData} (F : Fun K "__or__" "Standing.__or__" s_Standing_or f fd) (T : Tx K mg CE CN CB CW CS tL tN) (C : ClS K CS fE) (c_ascending : Cal P w K mg base CX0 1 "ascending" (spAsc K)) (c_Standing : Mkc P w K mg base (L2.CX P w) 4 CS "Standing" (spSt K CN CW CS)) : FnOk P w K mg base (L2.CX P w) 6 f fd ["self", "other"] (spOr K CS) := by
  refine F.okX sc_Standing_or (fun vs H Q E h => ?_) (fun cdv A outer s H vs Q E hr h => ?_)
  · obtain ⟨a, b, h, k, h', k', rfl, _⟩ := h
    rfl
  · obtain ⟨a, b, h, k, h', k', rfl, st, st', l1, l2, q⟩ := h
    obtain ⟨dx, t1, t2, h1, h2, h3⟩ := st.ex
    obtain ⟨dy, u1, u2, g1, g2, g3⟩ := st'.ex
    refine ⟨_, (pss_one (ps_ret (pe_mkc c_Standing (hr.mono (by decide)) (by rfl) passC (pa_cons (pe_cal c_ascending (hr.mono (by decide)) (by rfl) pass0 (pa_cons (pe_lst (StX.pa_star (pe_fld (pv 0) rfl) (StX.pa_star (pe_fld (pv 1) rfl) pa_nil))) pa_nil)) (pa_cons (pe_cal c_ascending (hr.mono (by decide)) (by rfl) pass0 (pa_cons (pe_lst (StX.pa_star (pe_fld (pv 0) rfl) (StX.pa_star (pe_fld (pv 1) rfl) pa_nil))) pa_nil)) pa_nil))))), ?_⟩
    have h4 : sizeLine = 16777216 := sizeLine_eq
    refine ⟨_, rfl, a, CS, dx, _, _, rfl, h1, C.cl, C.nH, rfl, t1, _, rfl, .inl (SqT.of h2), _, rfl, b, CS, dy, _, _, rfl, g1, C.cl, C.nH, rfl, u1, _, rfl, .inl (SqT.of g2), ?_⟩
    refine ⟨by simp only [List.length_append, List.length_map, List.length_nil]; omega, fun p np => ?_⟩
    have e1 := Ext.upd (o := HO.lst (h.map V.str ++ (h'.map V.str ++ []))) np
    refine ⟨p, h ++ h', rfl, .inl (SqL.of ?_), by rw [List.length_append]; omega, fun q1 u H2 au e2 hq1 => ?_⟩
    · rw [upd_same, List.append_nil, List.map_append]
    have e02 := e1.trans e2
    refine ⟨_, rfl, a, CS, dx, _, _, rfl, e02 _ _ h1, C.cl, C.nK, rfl, t2, _, rfl, .inl (SqT.of (e02 _ _ h3)), _, rfl, b, CS, dy, _, _, rfl, e02 _ _ g1, C.cl, C.nK, rfl, u2, _, rfl, .inl (SqT.of (e02 _ _ g3)), ?_⟩
    refine ⟨by simp only [List.length_append, List.length_map, List.length_nil]; omega, fun p2 np2 => ?_⟩
    have e3 := Ext.upd (o := HO.lst (k.map V.str ++ (k'.map V.str ++ []))) np2
    refine ⟨p2, k ++ k', rfl, .inl (SqL.of ?_), by rw [List.length_append]; omega, fun q2 v H3 av e4 hq2 => ?_⟩
    · rw [upd_same, List.append_nil, List.map_append]
    have e24 := e3.trans e4
    have n1 : Nm (h ++ h') := fun z hz => (List.mem_append.mp hz).elim (st.oh.nm z) (st'.oh.nm z)
    have n2 : Nm (k ++ k') := fun z hz => (List.mem_append.mp hz).elim (st.ok.nm z) (st'.ok.nm z)
    have lu := au.len
    have lv := av.len
    rw [List.length_append] at lu lv
    refine mk_st (.inr (SqT.of (e24 _ _ (nw_ext _ _ hq1)))) (.inr (SqT.of (nw_ext _ _ hq2))) (au.names n1) (av.names n2) au.1 av.1 (by omega) (by omega) fun u' v' c H4 au' av' e5 st5 => ⟨rfl, ?_⟩
    have eu : u' = u := au.self.fix au'
    have ev : v' = v := av.self.fix av'
    subst eu ev
    exact q c _ _ H4 au av ((e02.trans e24).trans e5) st5
def hasD (h k : List Str) : PyData → Bool
  | .str z => decide (z ∈ h ∨ z ∈ k)
  | _ => false
def spHas (CS : Addr) : Sp := fun vs H Q _ => ∃ (a : Addr) (h k : List Str) (v : V) (d : PyData), vs = [.ref a, v] ∧ StAt CS H a h k ∧ h.length + k.length ≤ 60 ∧ TV H v d ∧ SmD d ∧ ∀ H', Ext H H' → Q (.bl (hasD h k d)) H'
abbrev s_Standing_contains : Stmt := inClass (top 16) 10
abbrev N_Standing_contains : List Str := ["self", "value"]
theorem sc_Standing_contains : FnScope N_Standing_contains ["self", "value"] (defScope s_Standing_contains) := ⟨rfl, rfl, rfl, by decide +kernel, rfl, by decide +kernel, by decide +kernel⟩
theorem ok_has {f fE : Addr} {fd : FuncData} (F : Fun K "__contains__" "Standing.__contains__" s_Standing_contains f fd) (T : Tx K mg CE CN CB CW CS tL tN) (C : ClS K CS fE) (c_is_name : Cal P w K mg base CX0 1 "is_name" spName) (c_names : Prp P w K mg base CX0 2 (· = CS) "names" (spNames CS)) : FnOk P w K mg base CX0 4 f fd ["self", "value"] (spHas CS) := by
  refine F.ok sc_Standing_contains (fun vs H Q E h => ?_) (fun cdv A outer s H vs Q E hr h => ?_)
  · obtain ⟨a, h, k, v, d, rfl, _⟩ := h
    rfl
  · obtain ⟨a, h, k, v, d, rfl, st, hl, hv, sm, q⟩ := h
    refine ⟨_, (pss_one (ps_ret (pe_and (pe_cal c_is_name (hr.mono (by decide)) (by rfl) pass0 (pa_cons (pv 1) pa_nil)) (pe_one (pe_cmpR op_in_seq (pv 1) ((pe_prp c_names (hr.mono (by decide)) pass0) (pv 0)) rfl))))), ?_⟩
    refine ⟨_, rfl, v, d, rfl, hv, sm, fun H1 e1 => ?_⟩
    cases hn : nameOf d with
    | none =>
      have : hasD h k d = false := by
        cases d with
        | str z =>
          refine decide_eq_false fun hz => ?_
          have h1 : isName z = true := hz.elim (st.oh.nm z) (st.ok.nm z)
          rw [nameOf_str h1] at hn
          cases hn
        | _ => rfl
      have q := q H1 e1
      rw [this] at q
      exact ⟨_, rfl, iteF q⟩
    | some z =>
      obtain ⟨rfl, hz⟩ := nameOf_some hn
      cases tv_str hv
      refine ⟨_, rfl, iteT ?_⟩
      obtain ⟨dx, t1, t2, h1, h2, h3⟩ := st.ex
      refine ⟨_, rfl, _, rfl, a, CS, dx, _, rfl, e1 _ _ h1, rfl, a, h, k, rfl, st.ext e1, hl, fun t ns H2 e2 ans ht => ?_⟩
      refine ⟨t, _, rfl, .inr (SqT.of (nw_ext _ _ ht)), rfl, flat_strs _, ?_⟩
      rw [inV_strs]
      have e3 : decide (z ∈ ns) = hasD h k (.str z) := by
        show _ = decide _
        rw [decide_eq_decide, ans.2.2, List.mem_append]
      have := q H2 (e1.trans e2)
      rw [← e3] at this
      exact this
/-! ### str, == -/
def spStr (CS : Addr) : Sp := fun vs H Q _ => ∃ (a : Addr) (h k : List Str), vs = [.ref a] ∧ StAt CS H a h k ∧ Q (.str (textOf h k)) H
abbrev s_Standing_str : Stmt := inClass (top 16) 12
abbrev N_Standing_str : List Str := ["self"]
theorem sc_Standing_str : FnScope N_Standing_str ["self"] (defScope s_Standing_str) := ⟨rfl, rfl, rfl, by decide +kernel, rfl, by decide +kernel, by decide +kernel⟩
theorem ok_str {f fE : Addr} {fd : FuncData} (F : Fun K "__str__" "Standing.__str__" s_Standing_str f fd) (T : Tx K mg CE CN CB CW CS tL tN) (C : ClS K CS fE) (c_text_of : Cal P w K mg base CX0 2 "text_of" (spTx K)) : FnOk P w K mg base CX0 3 f fd ["self"] (spStr CS) := by
  refine F.ok sc_Standing_str (fun vs H Q E h => ?_) (fun cdv A outer s H vs Q E hr h => ?_)
  · obtain ⟨a, h, k, rfl, _⟩ := h
    rfl
  · obtain ⟨a, h, k, rfl, st, q⟩ := h
    obtain ⟨dx, t1, t2, h1, h2, h3⟩ := st.ex
    refine ⟨_, (pss_one (ps_ret (pe_callTy SkE.call_str_str (by rfl) (T.bn _ (by decide +kernel)) (by decide +kernel) (pa_cons (pe_cal c_text_of (hr.mono (by decide)) (by rfl) pass0 (pa_cons (pe_fld (pv 0) rfl) (pa_cons (pe_fld (pv 0) rfl) pa_nil))) pa_nil)))), ?_⟩
    refine ⟨_, rfl, a, CS, dx, _, _, rfl, h1, C.cl, C.nH, rfl, _, rfl, a, CS, dx, _, _, rfl, h1, C.cl, C.nK, rfl, t1, t2, h, k, rfl, SqT.of h2, SqT.of h3, st.oh.nm, st.ok.nm, st.oh.2.2, st.ok.2.2, ?_⟩
    exact ⟨_, rfl, q⟩
theorem dp_strs {K : PySem.W.Frag} {H : Hp} : ∀ l : List Str, DpAll K H (l.map V.str) (l.map .str)
  | [] => .nil
  | _ :: l => .cons (.str _) (dp_strs l)
theorem name_sok {z : Str} (h : isName z = true) : PyData.strOk z = true := by
  show (z.cps.all fun c => decide (c < 0x110000)) = true
  rw [← Array.all_toList, List.all_eq_true]
  exact fun c hc => decide_eq_true (Nat.lt_trans (lt_256 c (name_sub h c hc)) (by decide))
theorem sh_names {l : List Str} (h : Nm l) : SeqAt.shaped (.tuple (l.map .str)) = true := shaped_strs _ fun z hz => name_sok (h z hz)
theorem eqv_tups (us vs : List Str) : PyData.eqv (.tuple (us.map .str)) (.tuple (vs.map .str)) = decide (us = vs) := eqvAll_strs us vs
/-- the other one: a standing, or a value of another kind -/
def spEq (K : PySem.W.Frag) (CS : Addr) : Sp := fun vs H Q _ => ∃ (a : Addr) (h k : List Str) (y : V), vs = [.ref a, y] ∧ StAt CS H a h k ∧
  ((∃ b h' k', y = .ref b ∧ StAt CS H b h' k' ∧ Q (.bl (decide (h = h' ∧ k = k'))) H) ∨ ∃ ty, TyX K H y ty ∧ PySem.W.kitOne K ty (.ref CS) = some false ∧ Q (.bl false) H)
abbrev s_Standing_eq : Stmt := inClass (top 16) 11
abbrev N_Standing_eq : List Str := ["self", "other"]
theorem sc_Standing_eq : FnScope N_Standing_eq ["self", "other"] (defScope s_Standing_eq) := ⟨rfl, rfl, rfl, by decide +kernel, rfl, by decide +kernel, by decide +kernel⟩
theorem ok_eq {f fE : Addr} {fd : FuncData} (F : Fun K "__eq__" "Standing.__eq__" s_Standing_eq f fd) (T : Tx K mg CE CN CB CW CS tL tN) (C : ClS K CS fE) : FnOk P w K mg base CX0 2 f fd ["self", "other"] (spEq K CS) := by
  refine F.ok sc_Standing_eq (fun vs H Q E h => ?_) (fun cdv A outer s H vs Q E hr h => ?_)
  · obtain ⟨a, h, k, y, rfl, _⟩ := h
    rfl
  · obtain ⟨a, h, k, y, rfl, st, hy⟩ := h
    obtain ⟨dx, t1, t2, h1, h2, h3⟩ := st.ex
    refine ⟨_, (pss_one (ps_ret (pe_and (pe_callB call_isi (by rfl) (T.bn _ (by decide +kernel)) (by decide +kernel) (pa_cons (pv 1) (pa_cons (pe_gref (by rfl) T.m_Standing) pa_nil))) (pe_and (pe_cmpR (op_eqD hr.units) (pe_fld (pv 0) rfl) (pe_fld (pv 1) rfl) (nomark _)) (pe_one (pe_cmpR (op_eqD hr.units) (pe_fld (pv 0) rfl) (pe_fld (pv 1) rfl) (nomark _))))))), ?_⟩
    rcases hy with ⟨b, h', k', rfl, st', q⟩ | ⟨ty, hty, hk, q⟩
    case inr => exact ⟨_, rfl, _, _, _, _, false, rfl, .own CS, hty, hk, _, rfl, iteF q⟩
    obtain ⟨dy, u1, u2, g1, g2, g3⟩ := st'.ex
    refine ⟨_, rfl, _, _, _, _, true, rfl, .own CS, st'.tyX C, C.kS, _, rfl, iteT ?_⟩
    refine ⟨_, rfl, a, CS, dx, _, _, rfl, h1, C.cl, C.nH, rfl, _, rfl, b, CS, dy, _, _, rfl, g1, C.cl, C.nH, rfl, ?_⟩
    refine ⟨_, _, .tup (SqT.of h2) (dp_strs _), .tup (SqT.of g2) (dp_strs _), sh_names st.oh.nm, sh_names st'.oh.nm, ?_⟩
    rw [eqv_tups]
    by_cases c1 : h = h'
    case neg =>
      rw [decide_eq_false fun z => c1 z.1] at q
      exact ⟨_, rfl, iteNo (decide_eq_false c1) q⟩
    refine ⟨_, rfl, iteYes (decide_eq_true c1) ?_⟩
    refine ⟨_, rfl, a, CS, dx, _, _, rfl, h1, C.cl, C.nK, rfl, _, rfl, b, CS, dy, _, _, rfl, g1, C.cl, C.nK, rfl, ?_⟩
    refine ⟨_, _, .tup (SqT.of h3) (dp_strs _), .tup (SqT.of g3) (dp_strs _), sh_names st.ok.nm, sh_names st'.ok.nm, ?_⟩
    rw [eqv_tups]
    rw [decide_eq_decide.mpr (show (h = h' ∧ k = k') ↔ k = k' from ⟨fun z => z.2, fun z => ⟨c1, z⟩⟩)] at q
    exact q
/-! ### only -/
def onlyL (ns l : List Str) : List Str := l.filter fun z => decide (z ∈ ns)
def spOnly (K : PySem.W.Frag) (CS : Addr) : Sp := fun vs H Q _ => ∃ (a n : Addr) (h k ns : List Str), vs = [.ref a, .ref n] ∧ StAt CS H a h k ∧ Sq K H n (ns.map V.str) ∧ ∀ b H', Ext H H' → StAt CS H' b (onlyL ns h) (onlyL ns k) → Q (.ref b) H'
theorem sorted_sub {l m : List Str} (h : l.Pairwise fun a b => tl a ≤ tl b) (s : m.Sublist l) : m.Pairwise fun a b => tl a ≤ tl b := h.sublist s
theorem pw_sorted : ∀ {l : List Str}, (l.Pairwise fun a b => tl a ≤ tl b) → sortedS l = true
  | [], _ => rfl
  | x :: r, h => by
    have go : ∀ (l : List Str) (p : Str), ((p :: l).Pairwise fun a b => tl a ≤ tl b) → risingS p l = true := fun l => by
      induction l with
      | nil => intro p _; rfl
      | cons y l ih =>
        intro p h
        have h1 : tl p ≤ tl y := (List.pairwise_cons.mp h).1 y (by simp)
        show (!ltCps y.cps.toList p.cps.toList && risingS y l) = true
        rw [ih y (List.pairwise_cons.mp h).2, ltCps_eq, Bool.and_true, decide_eq_false (show ¬ y.cps.toList < p.cps.toList from h1)]
        rfl
    exact go r x h
theorem OkL.sub {l m : List Str} (h : OkL l) (s : m.Sublist l) : OkL m := ⟨⟨h.1.1.sublist s, pw_sorted ((sorted_pw h.1.2.1).sublist s), fun _ => Iff.rfl⟩, fun z hz => h.2.1 z (s.mem hz), Nat.le_trans s.length_le h.2.2⟩
abbrev s_Standing_only : Stmt := inClass (top 16) 5
abbrev N_Standing_only : List Str := ["self", "names", "slots", "name"]
theorem sc_Standing_only : FnScope N_Standing_only ["self", "names"] (defScope s_Standing_only) := ⟨rfl, rfl, rfl, by decide +kernel, rfl, by decide +kernel, by decide +kernel⟩
theorem ok_only {f fE : Addr} {fd : FuncData} (F : Fun K "only" "Standing.only" s_Standing_only f fd) (T : Tx K mg CE CN CB CW CS tL tN) (C : ClS K CS fE) (c_Standing : Mkc P w K mg base (L2.CX P w) 4 CS "Standing" (spSt K CN CW CS)) : FnOk P w K mg base (L2.CX P w) 6 f fd ["self", "names"] (spOnly K CS) := by
  refine F.okX sc_Standing_only (fun vs H Q E h => ?_) (fun cdv A outer s H vs Q E hr h => ?_)
  · obtain ⟨a, n, h, k, ns, rfl, _⟩ := h
    rfl
  · obtain ⟨a, n, h, k, ns, rfl, st, hn, q⟩ := h
    obtain ⟨dx, t1, t2, h1, h2, h3⟩ := st.ex
    refine ⟨_, (pss_cons (ps_setLc (i := 2) (own := [("name", 3)]) rfl sc_Standing_only.nd rfl rfl (sw_true rfl rfl rfl (by decide +kernel)) (pi_tupK (K := K) rfl (pe_fld (pv 0) rfl)) (blkOk_by (own := [("name", 3)]) (N := N_Standing_only) (sc := defScope s_Standing_only) (by decide +kernel)) (fun _ _ _ _ _ => (pg_name (i := 3) sc_Standing_only.nd rfl (by first | exact Or.inl rfl | exact Or.inr rfl))) (fun _ _ _ _ _ => pts_one (pt_cmpR (op_in_seqK (K := K) rfl) (pv 3) (pv 1) rfl)) (fun _ _ _ _ _ => (pv 3)))
      (pss_one (ps_ret (pe_mkc c_Standing (hr.mono (by decide)) (by rfl) passC (pa_cons (pv 2) (pa_cons (pe_lc (own := [("name", 3)]) rfl sc_Standing_only.nd (pi_tupK (K := K) rfl (pe_fld (pv 0) rfl)) (blkOk_by (own := [("name", 3)]) (N := N_Standing_only) (sc := defScope s_Standing_only) (by decide +kernel)) (fun _ _ _ _ _ => (pg_name (i := 3) sc_Standing_only.nd rfl (by first | exact Or.inl rfl | exact Or.inr rfl))) (fun _ _ _ _ _ => pts_one (pt_cmpR (op_in_seqK (K := K) rfl) (pv 3) (pv 1) rfl)) (fun _ _ _ _ _ => (pv 3))) pa_nil)))))), ?_⟩
    have fm : ∀ l : List Str, (l.filterMap fun z => if z ∈ ns then some (V.str z) else none) = (onlyL ns l).map V.str := fun l => by
      unfold onlyL
      induction l with
      | nil => rfl
      | cons z r ih => by_cases hz : z ∈ ns <;> simp [List.filterMap_cons, List.filter_cons, hz, ih]
    refine ⟨_, rfl, a, CS, dx, _, _, rfl, h1, C.cl, C.nH, rfl, t1, rfl, ⟨_, SqT.of h2⟩, fun D hD => ?_⟩
    refine lc_strs walk_tup (fun z => if z ∈ ns then some (.str z) else none) (Nat.le_trans st.oh.2.2 (by decide)) (fun l => SqT.of (at_new hD h2)) (fun i z l C' N hz hC hN => ?_) ?_
    · refine ⟨rfl, _, rfl, _, rfl, n, _, rfl, hn.ext (Ext.upd hD), rfl, flat_strs _, ?_⟩
      rw [inV_strs]
      by_cases hz' : z ∈ ns
      · exact ⟨_, rfl, iteYes (decide_eq_true hz') ⟨_, rfl, hC _ (if_pos hz')⟩⟩
      · exact ⟨_, rfl, iteNo (decide_eq_false hz') (hN (if_neg hz'))⟩
    rw [fm]
    have e1 := Ext.upd (o := HO.lst ((onlyL ns h).map V.str)) hD
    have f1 : (upd H D (.lst ((onlyL ns h).map V.str))) D = some (.lst ((onlyL ns h).map V.str)) := upd_same
    generalize (upd H D (.lst ((onlyL ns h).map V.str))) = H1 at e1 f1
    refine ⟨_, rfl, _, rfl, a, CS, dx, _, _, rfl, e1 _ _ h1, C.cl, C.nK, rfl, t2, rfl, ⟨_, SqT.of (e1 _ _ h3)⟩, fun D2 hD2 => ?_⟩
    refine lc_strs walk_tup (fun z => if z ∈ ns then some (.str z) else none) (Nat.le_trans st.ok.2.2 (by decide)) (fun l => SqT.of (at_new hD2 (e1 _ _ h3))) (fun i z l C' N hz hC hN => ?_) ?_
    · refine ⟨rfl, _, rfl, _, rfl, n, _, rfl, hn.ext (e1.trans (Ext.upd hD2)), rfl, flat_strs _, ?_⟩
      rw [inV_strs]
      by_cases hz' : z ∈ ns
      · exact ⟨_, rfl, iteYes (decide_eq_true hz') ⟨_, rfl, hC _ (if_pos hz')⟩⟩
      · exact ⟨_, rfl, iteNo (decide_eq_false hz') (hN (if_neg hz'))⟩
    rw [fm]
    have e2 := Ext.upd (o := HO.lst ((onlyL ns k).map V.str)) hD2
    have f2 : (upd H1 D2 (.lst ((onlyL ns k).map V.str))) D2 = some (.lst ((onlyL ns k).map V.str)) := upd_same
    generalize (upd H1 D2 (.lst ((onlyL ns k).map V.str))) = H2 at e2 f2
    have oh := st.oh.sub (m := onlyL ns h) List.filter_sublist
    have ok := st.ok.sub (m := onlyL ns k) List.filter_sublist
    refine mk_st (.inl (SqL.of (e2 _ _ f1))) (.inl (SqL.of f2)) oh.nm ok.nm oh.1.1 ok.1.1 oh.2.2 ok.2.2 fun u v c H3 au av e3 s3 => ⟨rfl, ?_⟩
    have eu := oh.1.fix au
    have ev := ok.1.fix av
    subst eu ev
    exact q c H3 ((e1.trans e2).trans e3) s3
end
end K19
end
section
set_option Elab.async false
set_option autoImplicit false
set_option linter.all false
set_option maxRecDepth 100000
set_option maxHeartbeats 4000000
set_option pp.maxSteps 1500
namespace K19
open PySem PySem.Spec PyProof.Rows L2 Ls
open C8 (pss_cut tCut)
open TL
/-! ### Standing.read -/
/-- the text of a standing -/
def IsT (d : PyData) (h k : List Str) : Prop := OkL h ∧ OkL k ∧ d = .str (textOf h k)
theorem IsT.uniq {d : PyData} {h k h' k' : List Str} (a : IsT d h k) (b : IsT d h' k') : h = h' ∧ k = k' :=
  textOf_inj a.1.nm a.2.1.nm b.1.nm b.2.1.nm (PyData.str.inj (a.2.2.symm.trans b.2.2))
theorem spl_ne (S : List Nat) : ∀ (k : Nat) (acc l : List Nat), spl S k acc l ≠ []
  | k, acc, [] => by rw [spl_nil]; simp
  | 0, acc, c :: r => by
    by_cases h : pre S (c :: r) = true
    · rw [spl_hit h]; simp
    · rw [spl_miss (Bool.eq_false_iff.mpr h)]
      exact spl_ne S 0 _ r
  | k + 1, acc, _ :: r => spl_ne S k acc r
theorem spl_back (S : List Nat) (hS : S ≠ []) : ∀ (n : Nat) (l acc : List Nat), l.length ≤ n → joinL S (spl S 0 acc l) = acc ++ l
  | n, [], acc, _ => by
    rw [spl_nil, List.append_nil]
    rfl
  | n + 1, c :: r, acc, hl => by
    by_cases h : pre S (c :: r) = true
    · have h1 : (c :: r).take S.length = S := beq_iff_eq.mp h
      have l1 : 1 ≤ S.length := List.length_pos_iff.mpr hS
      rw [spl_hit h, spl_pass, joinL_cons _ _ (spl_ne S _ _ _), spl_back S hS n (r.drop (S.length - 1)) [] (by rw [List.length_drop]; rw [List.length_cons] at hl; omega), List.nil_append]
      have h2 := List.take_append_drop S.length (c :: r)
      rw [h1] at h2
      obtain ⟨m, hm⟩ : ∃ m, S.length = m + 1 := ⟨S.length - 1, by omega⟩
      rw [hm, List.drop_succ_cons] at h2
      rw [hm, Nat.add_sub_cancel, h2]
    · rw [spl_miss (Bool.eq_false_iff.mpr h), spl_back S hS n r _ (by rw [List.length_cons] at hl; omega)]
      simp
theorem split_mid {z a b : Str} (h : Txt.split z " / " = [a, b]) : z = a ++ " / " ++ b := by
  refine ext_tl ?_
  have e := split_spl z " / " (by rw [mid_tl]; simp) (kind_ok mid_kd)
  rw [h] at e
  have e2 := spl_back (tl (" / " : Str)) (by rw [mid_tl]; simp) _ (tl z) [] (Nat.le_refl _)
  rw [← e, List.nil_append] at e2
  rw [← e2, tl_append, tl_append]
  simp [joinL]
theorem spl1_count (s : Nat) : ∀ (l acc : List Nat), (spl [s] 0 acc l).length = l.count s + 1
  | [], acc => by rw [spl_nil]; rfl
  | c :: r, acc => by
    by_cases h : c = s
    · subst h
      rw [spl_hit (by rw [pre1, decide_eq_true rfl])]
      show (spl [c] 0 [] r).length + 1 = _
      rw [spl1_count c r [], List.count_cons_self]
    · rw [spl_miss (by rw [pre1, decide_eq_false h]), spl1_count s r, List.count_cons_of_ne h]
theorem split_count (z : Str) : (Txt.split z " ").length = (tl z).count 32 + 1 := by
  have e := congrArg List.length (split_tl (x := z) sp_tl sp_kd)
  rw [List.length_map, spl1_count] at e
  exact e
theorem unT_len (z : Str) : (unT z).length ≤ (tl z).count 32 + 1 := by
  unfold unT
  by_cases h : z = "-"
  · rw [if_pos h]; exact Nat.zero_le _
  · rw [if_neg h, split_count]
    exact Nat.le_refl _
theorem unT_sub {z y : Str} (h : y ∈ unT z) : y.length ≤ z.length := by
  unfold unT at h
  by_cases e : z = "-"
  · rw [if_pos e] at h; cases h
  · rw [if_neg e] at h
    exact (split_sub sp_tl sp_kd h).1
section
variable {P : Program} {w : World} {K : PySem.W.Frag} {mg : Str → Option Value} {base : Heap} {CE CN CB CW CS : Addr} {tL tN : Tok}
def spRead (CB CS : Addr) : Sp := fun vs H Q E => ∃ (c v : V) (d : PyData), vs = [c, v] ∧ TV H v d ∧ (∀ z, d = .str z → z.length ≤ 1000 ∧ (tl z).count 32 ≤ 50) ∧
  (∀ h k, IsT d h k → ∀ a H', Ext H H' → StAt CS H' a h k → Q (.ref a) H') ∧ ((∀ h k, ¬ IsT d h k) → Errs CB "value" v H E)
abbrev s_Standing_read : Stmt := inClass (top 16) 1
abbrev N_Standing_read : List Str := ["cls", "text", "parts", "slots", "stored", "is_fine", "name"]
theorem sc_Standing_read : FnScope N_Standing_read ["cls", "text"] (defScope s_Standing_read) := ⟨rfl, rfl, rfl, by decide +kernel, rfl, by decide +kernel, by decide +kernel⟩
theorem ok_read {f fE : Addr} {fd : FuncData} (F : Fun K "read" "Standing.read" s_Standing_read f fd) (T : Tx K mg CE CN CB CW CS tL tN) (C : ClS K CS fE) (c_part_names : Cal P w K mg base CX0 1 "part_names" spPN) (c_is_name : Cal P w K mg base CX0 1 "is_name" spName) (c_text_of : Cal P w K mg base CX0 2 "text_of" (spTx K))
    (c_ascending : Cal P w K mg base CX0 1 "ascending" (spAsc K)) (c_Standing : Mkc P w K mg base (L2.CX P w) 4 CS "Standing" (spSt K CN CW CS)) (x_BadStanding : Xer P w K mg base CB "BadStanding" ["value"]) : FnOk P w K mg base (L2.CX P w) 6 f fd ["cls", "text"] (spRead CB CS) := by
  refine F.okX sc_Standing_read (fun vs H Q E h => ?_) (fun cdv A outer s H vs Q E hr h => ?_)
  · obtain ⟨c, v, d, rfl, _⟩ := h
    rfl
  · obtain ⟨c, v, d, rfl, hv, hz, k, ke⟩ := h
    have h4 : sizeLine = 16777216 := sizeLine_eq
    refine ⟨_, (pss_cons (ps_set (i := 2) sc_Standing_read.nd rfl (by first | exact Or.inl rfl | exact Or.inr rfl) (pe_ifExp (pt_val (pe_callB call_isi (by rfl) (T.bn _ (by decide +kernel)) (by decide +kernel) (pa_cons (pv 1) (pa_cons (pe_gty (T := "str") (by rfl) (T.bn _ (by decide +kernel)) (by decide +kernel)) pa_nil)))) (pe_split (pv 1) pe_str) (pe_lst pa_nil)))
      (pss_cons (ps_if (pt_cmpR op_eq (pe_callB call_len_seq (by rfl) (T.bn _ (by decide +kernel)) (by decide +kernel) (pa_cons (pv 2) pa_nil)) pe_int (nomark _)) (pss_cons (ps_par (i := 3) (j := 4) rfl sc_Standing_read.nd rfl rfl (by decide) rfl rfl (pa_cons (pe_cal c_part_names (hr.mono (by decide)) (by rfl) pass0 (pa_cons (pe_ix ix_list (pv 2) pe_int (fun _ _ => rfl)) pa_nil)) (pa_cons (pe_cal c_part_names (hr.mono (by decide)) (by rfl) pass0 (pa_cons (pe_ix ix_list (pv 2) pe_int (fun _ _ => rfl)) pa_nil)) pa_nil)) (by rfl))
      (pss_cons (ps_set (i := 5) sc_Standing_read.nd rfl (by first | exact Or.inl rfl | exact Or.inr rfl) (pe_callB (cr_all rfl) (by rfl) (T.bn _ (by decide +kernel)) (by decide +kernel) (pa_cons (pe_lc (own := [("name", 6)]) rfl sc_Standing_read.nd (pi_list (pe_lst (StX.pa_star (pv 3) (StX.pa_star (pv 4) pa_nil)))) (blkOk_by (own := [("name", 6)]) (N := N_Standing_read) (sc := defScope s_Standing_read) (by decide +kernel)) (fun _ _ _ _ _ => (pg_name (i := 6) sc_Standing_read.nd rfl (by first | exact Or.inl rfl | exact Or.inr rfl))) (fun _ _ _ _ _ => pts_nil) (fun _ _ _ _ _ => (pe_cal c_is_name (hr.mono (by decide)) (by rfl) pass0 (pa_cons (pv 6) pa_nil)))) pa_nil)))
      (pss_one (ps_if ((pw_and (pt_val (pv 5)) (pw_and1 (pt_cmpR op_eq (pv 1) (pe_cal c_text_of (hr.mono (by decide)) (by rfl) pass0 (pa_cons (pe_cal c_ascending (hr.mono (by decide)) (by rfl) pass0 (pa_cons (pv 3) pa_nil)) (pa_cons (pe_cal c_ascending (hr.mono (by decide)) (by rfl) pass0 (pa_cons (pv 4) pa_nil)) pa_nil))) (nomark _))))).pt (pss_one (ps_ret (pe_mkc c_Standing (hr.mono (by decide)) (by rfl) passC (pa_cons (pv 3) (pa_cons (pv 4) pa_nil))))) pss_nil)))) pss_nil)
      (pss_one (ps_raise rfl tkC (pmk_err x_BadStanding (hr.mono (by decide)) (by rfl) (pa_cons (pv 1) pa_nil)))))), ?_⟩
    have bad : ∀ H1, Ext H H1 → (∀ h k, ¬ IsT d h k) → ∀ dd, H1 dd = none → E (.ref CB) (some dd) (upd H1 dd (.xd [("value", v)])) := fun H1 e1 no dd nd => (ke no).at e1 nd
    refine ⟨_, rfl, _, _, _, _, isStrD d, rfl, .ty "str", tyX_of hv, kit_str d, _, rfl, ?_⟩
    cases hd : isStrD d with
    | false =>
      have no : ∀ h k, ¬ IsT d h k := fun h k it => by rw [it.2.2] at hd; cases hd
      refine iteF ?_
      refine ⟨(by show 0 ≤ sizeLine; decide), fun p np => ?_⟩
      refine ⟨_, rfl, p, _, rfl, .inl (SqL.of upd_same), rfl, _, rfl, iteNo (decide_eq_false fun z => absurd (V.int.inj z) (by decide)) ?_⟩
      exact ⟨_, rfl, rfl, (by show 1 ≤ 1000; decide), fun dd nd => bad _ (Ext.upd np) no dd nd⟩
    | true =>
    obtain ⟨z, rfl⟩ := strD hd
    cases tv_str hv
    obtain ⟨l1, l2⟩ := hz z rfl
    refine iteT ?_
    refine ⟨_, rfl, ⟨_, rfl⟩, _, _, rfl, rfl, by decide +kernel, by omega, fun l nl => ?_⟩
    obtain ⟨ps, eps⟩ : ∃ ps, Txt.split z " / " = ps := ⟨_, rfl⟩
    rw [eps]
    have e1 : Ext H (upd H l (.lst (ps.map V.str))) := Ext.upd nl
    have f1 : (upd H l (.lst (ps.map V.str))) l = some (.lst (ps.map V.str)) := upd_same
    generalize (upd H l (.lst (ps.map V.str))) = H1 at e1 f1
    have its : ∀ h k, IsT (.str z) h k → ps = [partT h, partT k] := fun h k it => by rw [← eps, PyData.str.inj it.2.2, textOf_parts it.1.nm it.2.1.nm]
    by_cases hl : ps.length = 2
    case neg =>
      refine ⟨_, rfl, l, _, rfl, .inl (SqL.of f1), rfl, _, rfl, iteNo (decide_eq_false fun z => hl ?_) ?_⟩
      · have := V.int.inj z
        rw [List.length_map] at this
        omega
      exact ⟨_, rfl, rfl, (by show 1 ≤ 1000; decide), fun dd nd => bad _ e1 (fun h k it => hl (by rw [its h k it]; rfl)) dd nd⟩
    obtain ⟨p0, p1, rfl⟩ : ∃ p0 p1, ps = [p0, p1] := by
      match ps, hl with
      | [a, b], _ => exact ⟨a, b, rfl⟩
    refine ⟨_, rfl, l, _, rfl, .inl (SqL.of f1), rfl, _, rfl, iteYes (decide_eq_true rfl) ?_⟩
    have ez := split_mid eps
    have c0 : (tl p0).count 32 ≤ 50 ∧ (tl p1).count 32 ≤ 50 ∧ p0.length ≤ 1000 ∧ p1.length ≤ 1000 := by
      rw [ez, tl_append, tl_append, List.count_append, List.count_append] at l2
      rw [ez, Str.length_append, Str.length_append] at l1
      omega
    obtain ⟨c0, c1, d0, d1⟩ := c0
    refine ⟨_, rfl, l, _, 0, _, rfl, rfl, SqL.of f1, rfl, p0, rfl, by omega, fun b0 H2 e2 g0 => ?_⟩
    have g0 := nw_ext _ _ g0
    refine ⟨_, rfl, l, _, 1, _, rfl, rfl, SqL.of (e2 _ _ f1), rfl, p1, rfl, by omega, fun b1 H3 e3 g1 => ?_⟩
    have g1 := nw_ext _ _ g1
    have g0 := e3 _ _ g0
    have e03 := e1.trans (e2.trans e3)
    have n0 := unT_len p0
    have n1 := unT_len p1
    have s0 : ∀ y ∈ unT p0, y.length ≤ 1000 := fun y hy => Nat.le_trans (unT_sub hy) d0
    have s1 : ∀ y ∈ unT p1, y.length ≤ 1000 := fun y hy => Nat.le_trans (unT_sub hy) d1
    have itu : ∀ h k, IsT (.str z) h k → unT p0 = h ∧ unT p1 = k := fun h k it => by
      have e := its h k it
      rw [(List.cons.inj e).1, (List.cons.inj (List.cons.inj e).2).1]
      exact ⟨unT_partT it.1.nm, unT_partT it.2.1.nm⟩
    obtain ⟨ss, hss⟩ : ∃ ss, unT p0 = ss := ⟨_, rfl⟩
    obtain ⟨ts, hts⟩ : ∃ ts, unT p1 = ts := ⟨_, rfl⟩
    rw [hss] at g0 n0 s0
    rw [hts] at g1 n1 s1
    simp only [hss, hts] at itu
    refine ⟨_, _, rfl, _, rfl, b0, _, rfl, .inr (SqL.of g0), _, rfl, b1, _, rfl, .inr (SqL.of g1), ?_⟩
    have lw : (ss ++ ts).length ≤ 110 := by rw [List.length_append]; omega
    have eM : ss.map V.str ++ (ts.map V.str ++ []) = (ss ++ ts).map V.str := by rw [List.append_nil, List.map_append]
    have sw : ∀ y ∈ ss ++ ts, y.length ≤ 1000 := fun y hy => (List.mem_append.mp hy).elim (s0 y) (s1 y)
    refine ⟨by show (ss.map V.str ++ (ts.map V.str ++ [])).length ≤ sizeLine; rw [eM, List.length_map]; omega, fun m nm => ?_⟩
    rw [eM]
    have e4 := Ext.upd (o := HO.lst ((ss ++ ts).map V.str)) nm
    have f4 : (upd H3 m (.lst ((ss ++ ts).map V.str))) m = some (.lst ((ss ++ ts).map V.str)) := upd_same
    generalize (upd H3 m (.lst ((ss ++ ts).map V.str))) = H4 at e4 f4
    obtain ⟨ws, hws⟩ : ∃ ws, ss ++ ts = ws := ⟨_, rfl⟩
    rw [hws] at f4 lw sw
    refine ⟨m, rfl, ⟨_, SqL.of f4⟩, fun D hD => ?_⟩
    have ne : m ≠ D := ne_of_none f4 hD
    refine lc_map (walk_list (K := K) (xs := ws.map V.str)) [D] (by simp) (fun H' => H' m = some (.lst (ws.map V.str))) (fun j y _ => ∃ z, ws[j]? = some z ∧ y = .bl (isName z)) (by rw [List.length_map]; omega) (fun _ _ _ _ _ h => h) (fun Hx o hx => by rw [upd_ne ne]; exact hx) (at_new hD f4) (fun Hx _ hx => SqL.of hx) ?_ ?_
    · rintro i x H5 _ acc C' hi e5 hm hD5 ⟨rfl, hx⟩ hC
      rw [List.getElem?_map] at hx
      obtain ⟨y, hy, rfl⟩ := Option.map_eq_some_iff.mp hx
      have hy' := sw y (List.mem_of_getElem? hy)
      refine ⟨rfl, _, rfl, _, .str y, rfl, .str y, fun u e => by cases e; exact hy', fun H6 e6 => ?_⟩
      refine hC _ _ (e6 _ _ hD5) (hid_mono e6) (e6 _ _ hm) ⟨y, hy, ?_⟩
      congr 1
      cases hn : isName y with
      | true => rw [nameOf_str hn]; rfl
      | false => rw [nameOf_no hn]; rfl
    · intro H5 ys e5 hm hD5 hlen hys
      rw [List.length_map] at hlen
      have eys : ys = (ws.map isName).map V.bl := by
        refine List.ext_getElem? fun j => ?_
        cases q : ys[j]? with
        | none =>
          have := List.getElem?_eq_none_iff.mp q
          symm
          rw [List.getElem?_eq_none_iff, List.length_map, List.length_map]
          omega
        | some v =>
          obtain ⟨y, h1, rfl⟩ := hys j v q
          rw [List.getElem?_map, List.getElem?_map, h1]
          rfl
      subst eys
      have e45 : Ext H4 H5 := fun b o q => Ext.at' e5 (by simpa using ne_of_none q hD) q
      have e05 := e03.trans (e4.trans e45)
      refine ⟨D, _, rfl, SqL.of hD5, ?_⟩
      have f3 := e45 _ _ (e4 _ _ g0)
      have f4' := e45 _ _ (e4 _ _ g1)
      cases hall : (ws.map isName).all id with
      | false =>
        refine ⟨_, rfl, _, rfl, iteF (iteF ?_)⟩
        refine ⟨_, rfl, rfl, (by show 1 ≤ 1000; decide), fun dd nd => bad _ e05 (fun h k it => ?_) dd nd⟩
        obtain ⟨rfl, rfl⟩ := itu h k it
        have : (ws.map isName).all id = true := by
          rw [List.all_map, List.all_eq_true]
          intro y hy
          rw [← hws] at hy
          exact (List.mem_append.mp hy).elim (it.1.nm y) (it.2.1.nm y)
        rw [this] at hall
        cases hall
      | true =>
        have nmW : Nm ws := fun y hy => by
          rw [List.all_map, List.all_eq_true] at hall
          exact hall y hy
        have nm0 : Nm ss := fun y hy => nmW y (by rw [← hws]; exact List.mem_append_left _ hy)
        have nm1 : Nm ts := fun y hy => nmW y (by rw [← hws]; exact List.mem_append_right _ hy)
        refine ⟨_, rfl, _, rfl, iteT ?_⟩
        refine ⟨_, rfl, _, rfl, b0, ss, rfl, .inl (SqL.of f3), by omega, fun q1 h H6 ah e6 hq1 => ?_⟩
        have hq1 := nw_ext _ _ hq1
        refine ⟨_, rfl, b1, ts, rfl, .inl (SqL.of (e6 _ _ f4')), by omega, fun q2 kk H7 ak e7 hq2 => ?_⟩
        have hq2 := nw_ext _ _ hq2
        have hq1 := e7 _ _ hq1
        have oh := ah.okL nm0 (by omega)
        have ok := ak.okL nm1 (by omega)
        have e57 := e6.trans e7
        have e07 := e05.trans e57
        refine ⟨q1, q2, h, kk, rfl, SqT.of hq1, SqT.of hq2, oh.nm, ok.nm, oh.2.2, ok.2.2, rfl, ?_⟩
        by_cases hT : z = textOf h kk
        · refine ⟨_, rfl, iteYes (decide_eq_true (congrArg V.str hT)) ?_⟩
          have it : IsT (.str z) h kk := ⟨oh, ok, congrArg PyData.str hT⟩
          obtain ⟨r1, r2⟩ := itu h kk it
          subst r1 r2
          refine ⟨_, rfl, _, rfl, mk_st (.inl (SqL.of (e57 _ _ f3))) (.inl (SqL.of (e57 _ _ f4'))) nm0 nm1 oh.1.1 ok.1.1 (by omega) (by omega) fun u v c H8 au av e8 st => ⟨rfl, ?_⟩⟩
          have eu := oh.1.fix au
          have ev := ok.1.fix av
          subst eu ev
          exact k _ _ it c H8 (e07.trans e8) st
        · refine ⟨_, rfl, iteNo (strNo hT) ?_⟩
          refine ⟨_, rfl, rfl, (by show 1 ≤ 1000; decide), fun dd nd => bad _ e07 (fun h' k' it => ?_) dd nd⟩
          obtain ⟨rfl, rfl⟩ := itu h' k' it
          have eu := it.1.1.fix ah
          have ev := it.2.1.1.fix ak
          subst eu ev
          exact hT (PyData.str.inj it.2.2)
end
end K19
end
section
set_option Elab.async false
set_option autoImplicit false
set_option linter.all false
set_option maxRecDepth 100000
set_option maxHeartbeats 4000000
set_option pp.maxSteps 1500
namespace K19
open PySem PySem.Spec PyProof.Rows L2 Ls
open C8 (pss_cut tCut)
open TL
/-! ### _law_heard -/
/-- what the top says of an error class at C, over StowError's at CE; which of the three it is; the field that it keeps -/
structure ErrT (K : PySem.W.Frag) (CE CN CW CB C : Addr) (f : Str) (bn bw bb : Bool) : Prop where
  exm : PySem.W.exmOne K (.ref C) (.ref CE) = some true
  ec : ExcC K C
  ve : PySem.W.kitOne K (.ref C) (.type "ValueError") = some true
  kn : PySem.W.kitOne K (.ref C) (.ref CN) = some bn
  kw : PySem.W.kitOne K (.ref C) (.ref CW) = some bw
  kb : PySem.W.kitOne K (.ref C) (.ref CB) = some bb
  xf : XfC K C
  no : PySem.W.findIn K (.ref C) f = some none
/-- which class keeps which field, and the law's word for it -/
def Way (CN CW CB C : Addr) (f wd : Str) : Prop := (C = CN ∧ f = "value" ∧ wd = "name") ∨ (C = CW ∧ f = "name" ∧ wd = "twice") ∨ (C = CB ∧ f = "value" ∧ wd = "standing")
def HeardE (CN CW CB : Addr) (Q : VK) : XK := fun cls d H' => ∃ (C dd : Addr) (v : V) (f wd : Str), cls = .ref C ∧ d = some dd ∧ H' dd = some (.xd [(f, v)]) ∧ Way CN CW CB C f wd ∧ ∀ p H2, Ext H' H2 → nw H' H2 p = some (.tup [.str wd, v]) → Q (.ref p) H2
def HeardV (Q : VK) : VK := fun v H1 => ∀ p H2, Ext H1 H2 → nw H1 H2 p = some (.lst [v]) → Q (.ref p) H2
def TTh (CN CW CB : Addr) : (XK → Hp → VK → Prop) → Hp → VK → Prop := fun tl H Q => ∀ (E' : XK) (Q' : VK), (∀ cls d H', HeardE CN CW CB Q cls d H' → E' cls d H') → (∀ v H1, HeardV Q v H1 → Q' v H1) → tl E' H Q'
section
variable {P : Program} {w : World} {K : PySem.W.Frag} {mg : Str → Option Value} {base : Heap} {CE CN CB CW CS : Addr} {tL tN : Tok}
abbrev s__law_heard : Stmt := top 21
abbrev N__law_heard : List Str := ["_law_ask", "_law_caught", "error", "_law_found"]
theorem sc__law_heard : FnScope N__law_heard ["_law_ask"] (defScope s__law_heard) := ⟨rfl, rfl, rfl, by decide +kernel, rfl, by decide +kernel, by decide +kernel⟩
theorem heard_gives {A : Around} {stack : List Env} {g : Addr} {cdv : Value} {q : Str} (T : Tx K mg CE CN CB CW CS tL tN) (eN : ErrT K CE CN CW CB CN "value" true false false) (eW : ErrT K CE CN CW CB CW "name" false true false) (eB : ErrT K CE CN CW CB CB "value" false false true) :
    GivesP P w K mg base A stack N__law_heard "_law_heard" (defScope s__law_heard) g cdv (defBody s__law_heard) "_law_ask" q (TTh CN CW CB) := by
  intro f c' s H Q tl act hc h
  refine ⟨_, (pss_cons (ps_set (i := 1) sc__law_heard.nd rfl (by first | exact Or.inl rfl | exact Or.inr rfl) pe_non)
      (pss_cons (ps_try_ask (i := 2) rfl rfl sc__law_heard.nd rfl rfl ⟨by rfl, by decide, .inl T.m_StowError⟩ LamX.takes0 rfl (fun W pn xe tk _ => (pss_one (ps_ret (pe_lst (pa_cons (act W pn xe _ _ tk) pa_nil)))))
      (fun a pn => (pss_one (ps_set (i := 1) sc__law_heard.nd rfl (by first | exact Or.inl rfl | exact Or.inr rfl) (pv 2)))))
      (pss_cons (ps_set (i := 3) sc__law_heard.nd rfl (by first | exact Or.inl rfl | exact Or.inr rfl) (pe_lst pa_nil))
      (pss_cons (ps_if (pt_val (pe_callB call_isX (by rfl) (T.bn _ (by decide +kernel)) (by decide +kernel) (pa_cons (pv 1) (pa_cons (pe_gref (by rfl) T.m_BadName) pa_nil)))) (pss_one (ps_expr (pe_bm PySem.F.plainAttrs_list PySem.F.slot_list_append PySem.F.type_list_append mt_append (pv 3) (pa_cons (pe_tup (pa_cons pe_str (pa_cons (pe_xk (pv 1)) pa_nil))) pa_nil)))) pss_nil)
      (pss_cons (ps_if (pt_val (pe_callB call_isX (by rfl) (T.bn _ (by decide +kernel)) (by decide +kernel) (pa_cons (pv 1) (pa_cons (pe_gref (by rfl) T.m_Twice) pa_nil)))) (pss_one (ps_expr (pe_bm PySem.F.plainAttrs_list PySem.F.slot_list_append PySem.F.type_list_append mt_append (pv 3) (pa_cons (pe_tup (pa_cons pe_str (pa_cons (pe_xk (pv 1)) pa_nil))) pa_nil)))) pss_nil)
      (pss_cons (ps_if (pt_val (pe_callB call_isX (by rfl) (T.bn _ (by decide +kernel)) (by decide +kernel) (pa_cons (pv 1) (pa_cons (pe_gref (by rfl) T.m_BadStanding) pa_nil)))) (pss_one (ps_expr (pe_bm PySem.F.plainAttrs_list PySem.F.slot_list_append PySem.F.type_list_append mt_append (pv 3) (pa_cons (pe_tup (pa_cons pe_str (pa_cons (pe_xk (pv 1)) pa_nil))) pa_nil)))) pss_nil)
      (pss_one (ps_ret (pe_ifExp ((pw_and (pt_cmpR op_eq (pe_callB call_len_seq (by rfl) (T.bn _ (by decide +kernel)) (by decide +kernel) (pa_cons (pv 3) pa_nil)) pe_int (nomark _)) (pw_and1 (pt_val (pe_callB call_isX (by rfl) (T.bn _ (by decide +kernel)) (by decide +kernel) (pa_cons (pv 1) (pa_cons (pe_gty (T := "ValueError") (by rfl) (T.bn _ (by decide +kernel)) (by decide +kernel)) pa_nil))))))).pt (pe_ix ix_list (pv 3) pe_int (fun _ _ => rfl)) (pe_tup (pa_cons pe_str (pa_cons pe_non pa_nil)))))))))))), ?_⟩
  refine ⟨rfl, hc, h _ _ (fun cls d H' he => ?_) (fun v H1 hv => ⟨(by show 1 ≤ sizeLine; decide), fun p hp => hv p _ (Ext.upd hp) (by rw [nw_at hp]; exact upd_same)⟩)⟩
  obtain ⟨C, dd, v, fl, wd, rfl, rfl, hdd, hC, k⟩ := he
  have eC : PySem.W.exmOne K (.ref C) (.ref CE) = some true := by
    rcases hC with ⟨rfl, _⟩ | ⟨rfl, _⟩ | ⟨rfl, _⟩
    · exact eN.exm
    · exact eW.exm
    · exact eB.exm
  refine ⟨true, eC, fun _ a ha => ?_, fun z => nomatch z⟩
  have hd1 : (upd H' a (exk a (.ref C) (some dd))) dd = some (.xd [(fl, v)]) := by rw [upd_ne (ne_of_none hdd ha)]; exact hdd
  have ha1 : (upd H' a (exk a (.ref C) (some dd))) a = some (exk a (.ref C) (some dd)) := upd_same
  have e1 : Ext H' (upd H' a (exk a (.ref C) (some dd))) := Ext.upd ha
  generalize (upd H' a (exk a (.ref C) (some dd))) = H1 at hd1 ha1 e1
  refine ⟨_, rfl, ?_⟩
  refine ⟨(by show 0 ≤ sizeLine; decide), fun fl' nfl => ?_⟩
  have a2 : (upd H1 fl' (.lst [])) a = some (exk a (.ref C) (some dd)) := at_new nfl ha1
  have d2 : (upd H1 fl' (.lst [])) dd = some (.xd [(fl, v)]) := at_new nfl hd1
  have l2 : (upd H1 fl' (.lst [])) fl' = some (.lst []) := upd_same
  have e2 := e1.trans (Ext.upd (o := HO.lst []) nfl)
  have nfl0 := ext_free e1 nfl
  generalize (upd H1 fl' (.lst [])) = H2 at a2 d2 l2 e2
  have xd : ∀ {Hx : Hp}, Hx dd = some (.xd [(fl, v)]) → ∀ d', some dd = some d' → ∃ fs, Hx d' = some (.xd fs) := fun {Hx} h d' z => by
    cases z
    exact ⟨_, h⟩
  rcases hC with ⟨rfl, rfl, rfl⟩ | ⟨rfl, rfl, rfl⟩ | ⟨rfl, rfl, rfl⟩
  · refine ⟨_, rfl, a, _, _, _, _, true, rfl, a2, eN.ec, xd d2, fun u r => r, eN.kn, _, rfl, ?_⟩
    refine iteT ?_
    refine ⟨_, rfl, .inl ⟨rfl, _, SqL.of l2⟩, _, rfl, a, _, dd, _, v, rfl, a2, eN.xf, eN.no, d2, rfl, (by show 2 ≤ sizeLine; decide), fun tp nt => ?_⟩
    refine ⟨fl', [], .ref tp, rfl, rfl, at_new nt l2, (by show 0 < sizeLine; decide), ?_⟩
    have a3 : (upd (upd H2 tp (.tup [.str "name", v])) fl' (.lst ([] ++ [.ref tp]))) a = some (exk a (.ref C) (some dd)) := by rw [upd_ne (fun z => by rw [z, l2] at a2; cases a2)]; exact at_new nt a2
    have d3 : (upd (upd H2 tp (.tup [.str "name", v])) fl' (.lst ([] ++ [.ref tp]))) dd = some (.xd [("value", v)]) := by rw [upd_ne (fun z => by rw [z, l2] at d2; cases d2)]; exact at_new nt d2
    have l3 : (upd (upd H2 tp (.tup [.str "name", v])) fl' (.lst ([] ++ [.ref tp]))) fl' = some (.lst [.ref tp]) := upd_same
    have t3 : (upd (upd H2 tp (.tup [.str "name", v])) fl' (.lst ([] ++ [.ref tp]))) tp = some (.tup [.str "name", v]) := by rw [upd_ne (ne_of_none l2 nt).symm]; exact upd_same
    have e3 : Ext H' (upd (upd H2 tp (.tup [.str "name", v])) fl' (.lst ([] ++ [.ref tp]))) := fun b o q => by rw [upd_ne (ne_of_none q nfl0)]; exact at_new nt (e2 _ _ q)
    have n3 : H' tp = none := ext_free e2 nt
    generalize (upd (upd H2 tp (.tup [.str "name", v])) fl' (.lst ([] ++ [.ref tp]))) = H3 at a3 d3 l3 t3 e3
    refine ⟨_, rfl, a, _, _, _, _, false, rfl, a3, eN.ec, xd d3, fun u r => r, eN.kw, _, rfl, ?_⟩
    refine iteF ?_
    refine ⟨_, rfl, a, _, _, _, _, false, rfl, a3, eN.ec, xd d3, fun u r => r, eN.kb, _, rfl, ?_⟩
    refine iteF ?_
    refine ⟨_, rfl, fl', _, rfl, .inl (SqL.of l3), rfl, _, rfl, iteYes (decide_eq_true rfl) ?_⟩
    refine ⟨_, rfl, a, _, _, _, _, true, rfl, a3, eN.ec, xd d3, fun u r => r, eN.ve, _, rfl, ?_⟩
    refine iteT ?_
    exact ⟨_, rfl, fl', _, 0, _, rfl, rfl, SqL.of l3, rfl, k tp H3 e3 (by rw [nw_at n3]; exact t3)⟩
  · refine ⟨_, rfl, a, _, _, _, _, false, rfl, a2, eW.ec, xd d2, fun u r => r, eW.kn, _, rfl, ?_⟩
    refine iteF ?_
    refine ⟨_, rfl, a, _, _, _, _, true, rfl, a2, eW.ec, xd d2, fun u r => r, eW.kw, _, rfl, ?_⟩
    refine iteT ?_
    refine ⟨_, rfl, .inl ⟨rfl, _, SqL.of l2⟩, _, rfl, a, _, dd, _, v, rfl, a2, eW.xf, eW.no, d2, rfl, (by show 2 ≤ sizeLine; decide), fun tp nt => ?_⟩
    refine ⟨fl', [], .ref tp, rfl, rfl, at_new nt l2, (by show 0 < sizeLine; decide), ?_⟩
    have a3 : (upd (upd H2 tp (.tup [.str "twice", v])) fl' (.lst ([] ++ [.ref tp]))) a = some (exk a (.ref C) (some dd)) := by rw [upd_ne (fun z => by rw [z, l2] at a2; cases a2)]; exact at_new nt a2
    have d3 : (upd (upd H2 tp (.tup [.str "twice", v])) fl' (.lst ([] ++ [.ref tp]))) dd = some (.xd [("name", v)]) := by rw [upd_ne (fun z => by rw [z, l2] at d2; cases d2)]; exact at_new nt d2
    have l3 : (upd (upd H2 tp (.tup [.str "twice", v])) fl' (.lst ([] ++ [.ref tp]))) fl' = some (.lst [.ref tp]) := upd_same
    have t3 : (upd (upd H2 tp (.tup [.str "twice", v])) fl' (.lst ([] ++ [.ref tp]))) tp = some (.tup [.str "twice", v]) := by rw [upd_ne (ne_of_none l2 nt).symm]; exact upd_same
    have e3 : Ext H' (upd (upd H2 tp (.tup [.str "twice", v])) fl' (.lst ([] ++ [.ref tp]))) := fun b o q => by rw [upd_ne (ne_of_none q nfl0)]; exact at_new nt (e2 _ _ q)
    have n3 : H' tp = none := ext_free e2 nt
    generalize (upd (upd H2 tp (.tup [.str "twice", v])) fl' (.lst ([] ++ [.ref tp]))) = H3 at a3 d3 l3 t3 e3
    refine ⟨_, rfl, a, _, _, _, _, false, rfl, a3, eW.ec, xd d3, fun u r => r, eW.kb, _, rfl, ?_⟩
    refine iteF ?_
    refine ⟨_, rfl, fl', _, rfl, .inl (SqL.of l3), rfl, _, rfl, iteYes (decide_eq_true rfl) ?_⟩
    refine ⟨_, rfl, a, _, _, _, _, true, rfl, a3, eW.ec, xd d3, fun u r => r, eW.ve, _, rfl, ?_⟩
    refine iteT ?_
    exact ⟨_, rfl, fl', _, 0, _, rfl, rfl, SqL.of l3, rfl, k tp H3 e3 (by rw [nw_at n3]; exact t3)⟩
  · refine ⟨_, rfl, a, _, _, _, _, false, rfl, a2, eB.ec, xd d2, fun u r => r, eB.kn, _, rfl, ?_⟩
    refine iteF ?_
    refine ⟨_, rfl, a, _, _, _, _, false, rfl, a2, eB.ec, xd d2, fun u r => r, eB.kw, _, rfl, ?_⟩
    refine iteF ?_
    refine ⟨_, rfl, a, _, _, _, _, true, rfl, a2, eB.ec, xd d2, fun u r => r, eB.kb, _, rfl, ?_⟩
    refine iteT ?_
    refine ⟨_, rfl, .inl ⟨rfl, _, SqL.of l2⟩, _, rfl, a, _, dd, _, v, rfl, a2, eB.xf, eB.no, d2, rfl, (by show 2 ≤ sizeLine; decide), fun tp nt => ?_⟩
    refine ⟨fl', [], .ref tp, rfl, rfl, at_new nt l2, (by show 0 < sizeLine; decide), ?_⟩
    have a3 : (upd (upd H2 tp (.tup [.str "standing", v])) fl' (.lst ([] ++ [.ref tp]))) a = some (exk a (.ref C) (some dd)) := by rw [upd_ne (fun z => by rw [z, l2] at a2; cases a2)]; exact at_new nt a2
    have d3 : (upd (upd H2 tp (.tup [.str "standing", v])) fl' (.lst ([] ++ [.ref tp]))) dd = some (.xd [("value", v)]) := by rw [upd_ne (fun z => by rw [z, l2] at d2; cases d2)]; exact at_new nt d2
    have l3 : (upd (upd H2 tp (.tup [.str "standing", v])) fl' (.lst ([] ++ [.ref tp]))) fl' = some (.lst [.ref tp]) := upd_same
    have t3 : (upd (upd H2 tp (.tup [.str "standing", v])) fl' (.lst ([] ++ [.ref tp]))) tp = some (.tup [.str "standing", v]) := by rw [upd_ne (ne_of_none l2 nt).symm]; exact upd_same
    have e3 : Ext H' (upd (upd H2 tp (.tup [.str "standing", v])) fl' (.lst ([] ++ [.ref tp]))) := fun b o q => by rw [upd_ne (ne_of_none q nfl0)]; exact at_new nt (e2 _ _ q)
    have n3 : H' tp = none := ext_free e2 nt
    generalize (upd (upd H2 tp (.tup [.str "standing", v])) fl' (.lst ([] ++ [.ref tp]))) = H3 at a3 d3 l3 t3 e3
    refine ⟨_, rfl, fl', _, rfl, .inl (SqL.of l3), rfl, _, rfl, iteYes (decide_eq_true rfl) ?_⟩
    refine ⟨_, rfl, a, _, _, _, _, true, rfl, a3, eB.ec, xd d3, fun u r => r, eB.ve, _, rfl, ?_⟩
    refine iteT ?_
    exact ⟨_, rfl, fl', _, 0, _, rfl, rfl, SqL.of l3, rfl, k tp H3 e3 (by rw [nw_at n3]; exact t3)⟩
end
end K19
end
section
set_option Elab.async false
set_option autoImplicit false
set_option linter.all false
set_option maxRecDepth 100000
set_option maxHeartbeats 4000000
set_option pp.maxSteps 1500
namespace K19
open PySem PySem.Spec PyProof.Rows L2 Ls
open C8 (pss_cut tCut)
open TL
theorem seqIx {j : Int} {n : Nat} (h0 : 0 ≤ j) (h1 : j < n) : seqIndex? j n = some j.toNat := by
  have h2 : ¬ j < 0 := by omega
  simp [seqIndex?, h2, h0, h1]
theorem erase_map : ∀ (l : List Str) (k : Nat), (l.map V.str).eraseIdx k = (l.eraseIdx k).map V.str
  | [], _ => rfl
  | _ :: _, 0 => rfl
  | a :: l, k + 1 => congrArg (V.str a :: ·) (erase_map l k)
theorem erase_perm : ∀ {l : List Str} {k : Nat} {z : Str}, l[k]? = some z → (z :: l.eraseIdx k).Perm l
  | [], _, _, h => by simp at h
  | a :: l, 0, z, h => by
    have : a = z := by simpa using h
    subst this
    exact List.Perm.refl _
  | a :: l, k + 1, z, h => (List.Perm.swap a z _).trans (List.Perm.cons a (erase_perm (l := l) (k := k) (by simpa using h)))
/-! ### _law_mixed -/
section
variable {P : Program} {w : World} {K : PySem.W.Frag} {mg : Str → Option Value} {base : Heap} {CE CN CB CW CS : Addr} {tL tN : Tok}
def spMixed : Sp := fun vs H Q _ => ∃ (p c q : Addr) (n : Nat) (ps : List Str), vs = [.ref p, .ref q] ∧ PenAt H p c n ∧ n < 900000 ∧ H q = some (.lst (ps.map V.str)) ∧ q ≠ p ∧ q ≠ c ∧ ps.length ≤ 20 ∧
  ∀ (l : Addr) (us : List Str) (H' : Hp), H l = none → H' l = some (.lst (us.map V.str)) → us.Perm ps → PenAt H' p c (n + 20) → Keep p c H H' → Q (.ref l) H'
abbrev s__law_mixed : Stmt := top 22
abbrev N__law_mixed : List Str := ["_law_pen_here", "_law_some", "_law_left", "_law_go"]
theorem sc__law_mixed : FnScope N__law_mixed ["_law_pen_here", "_law_some"] (defScope s__law_mixed) := ⟨rfl, rfl, rfl, by decide +kernel, rfl, by decide +kernel, by decide +kernel⟩
theorem ok_mixed {f : Addr} {fd : FuncData} (F : Fun K "_law_mixed" "_law_mixed" s__law_mixed f fd) (T : Tx K mg CE CN CB CW CS tL tN) (c__law_draw : Cal P w K mg base CX0 1 "_law_draw" spDraw) : FnOk P w K mg base CX0 2 f fd ["_law_pen_here", "_law_some"] spMixed := by
  refine F.ok sc__law_mixed (fun vs H Q E h => ?_) (fun cdv A outer s H vs Q E hr h => ?_)
  · obtain ⟨p, c, q, n, ps, rfl, _⟩ := h
    rfl
  · obtain ⟨p, c, q, n, ps, rfl, hp, hn, hq, nqp, nqc, hle, k⟩ := h
    have h4 : sizeLine = 16777216 := sizeLine_eq
    have lp : (ps.map V.str).length = ps.length := List.length_map _
    refine ⟨_, (pss_cons (ps_set (i := 2) sc__law_mixed.nd rfl (by first | exact Or.inl rfl | exact Or.inr rfl) (pe_callTy call_list_of (by rfl) (T.bn _ (by decide +kernel)) (by decide +kernel) (pa_cons (pv 1) pa_nil)))
      (pss_one (ps_ret (pe_lc (own := [("_law_go", 3)]) rfl sc__law_mixed.nd (pi_range1 rfl (T.bn _ (by decide +kernel)) (pa_cons (pe_callB call_len_seq (by rfl) (T.bn _ (by decide +kernel)) (by decide +kernel) (pa_cons (pv 2) pa_nil)) pa_nil)) (blkOk_by (own := [("_law_go", 3)]) (N := N__law_mixed) (sc := defScope s__law_mixed) (by decide +kernel)) (fun _ _ _ _ _ => (pg_name (i := 3) sc__law_mixed.nd rfl (by first | exact Or.inl rfl | exact Or.inr rfl))) (fun _ _ _ _ _ => pts_nil) (fun _ _ _ _ _ => (pe_popK (K := K) rfl (pv 2) (pa_cons (pe_cal c__law_draw (hr.mono (by decide)) (by rfl) pass0 (pa_cons (pv 0) (pa_cons (pe_callB (call_lenK (K := K) rfl) (by rfl) (T.bn _ (by decide +kernel)) (by decide +kernel) (pa_cons (pv 2) pa_nil)) pa_nil))) pa_nil))))))), ?_⟩
    refine ⟨_, rfl, q, _, rfl, .inl (SqL.of hq), fun L nL => ?_⟩
    obtain ⟨npL, ncL⟩ := hp.ne nL
    have e1 : Ext H (upd H L (.lst (ps.map V.str))) := Ext.upd nL
    have f1 : (upd H L (.lst (ps.map V.str))) L = some (.lst (ps.map V.str)) := upd_same
    generalize (upd H L (.lst (ps.map V.str))) = H1 at e1 f1
    refine ⟨_, rfl, L, _, rfl, .inl (SqL.of f1), ps.length, by rw [lp], by omega, by omega, fun D hD => ?_⟩
    have hp1 := hp.ext e1
    obtain ⟨npD, ncD⟩ := hp1.ne hD
    have nLD : L ≠ D := ne_of_none f1 hD
    have hDH : H D = none := ext_free e1 hD
    refine lc_it walk_range (fun i H' => ∃ left acc : List Str, H' L = some (.lst (left.map V.str)) ∧ H' D = some (.lst (acc.map V.str)) ∧ (acc ++ left).Perm ps ∧ acc.length = i ∧ PenAt H' p c (n + i) ∧ Keep p c H H') ?_ (fun _ _ _ _ => trivial) ?_ ?_
    · refine ⟨ps, [], by rw [upd_ne nLD]; exact f1, upd_same, by simp, rfl, hp1.upd npD ncD, fun b o q h1 h2 => ?_⟩
      rw [upd_ne (ne_of_none (e1 b o q) hD)]
      exact e1 b o q
    · rintro i x H3 _ hi ⟨left, acc, g1, g2, pm, hl, hp3, k03⟩ ⟨rfl, rfl⟩
      have ll : (left.map V.str).length = left.length := List.length_map _
      have hpl := pm.length_eq
      rw [List.length_append] at hpl
      have hi' : i < ps.length := hi
      refine ⟨rfl, _, rfl, .inl ⟨rfl, _, SqL.of g1⟩, _, rfl, _, rfl, L, _, rfl, .inl (SqL.of g1), p, c, n + i, left.length, by rw [ll], hp3, by omega, by omega, by omega, fun u H4 u0 u1 hp4 kp4 => ?_⟩
      have g14 := kp4 L _ g1 npL.symm ncL.symm
      have g24 := kp4 D _ g2 npD.symm ncD.symm
      have hk : u.toNat < left.length := by omega
      refine ⟨L, _, u, u.toNat, .str left[u.toNat], rfl, rfl, g14, by omega, by omega, seqIx u0 (by rw [ll]; exact u1), by rw [List.getElem?_map, List.getElem?_eq_getElem hk]; rfl, ?_⟩
      refine ⟨acc.map V.str, by rw [upd_ne nLD.symm]; exact g24, by rw [List.length_map]; omega, left.eraseIdx u.toNat, acc ++ [left[u.toNat]], ?_, ?_, ?_, by simp [hl], ?_, ?_⟩
      · rw [upd_ne nLD, upd_same, erase_map]
      · rw [upd_same, List.map_append]
        rfl
      · rw [List.append_assoc]
        exact ((erase_perm (List.getElem?_eq_getElem hk)).append_left acc).trans pm
      · exact ((hp4.upd npL ncL).upd npD ncD)
      · intro b o q h1 h2
        have q3 := k03 b o q h1 h2
        rw [upd_ne (ne_of_none q hDH), upd_ne (ne_of_none q nL)]
        exact kp4 b o q3 h1 h2
    · rintro H3 ⟨left, acc, g1, g2, pm, hl, hp3, k03⟩
      have hpl := pm.length_eq
      rw [List.length_append] at hpl
      have : left = [] := List.eq_nil_of_length_eq_zero (by omega)
      subst this
      rw [List.append_nil] at pm
      exact k D acc H3 hDH g2 pm (hp3.mono (by omega)) k03
end
/-! ### _law_names -/
/-- six names, none twice -/
structure Six (ns : List Str) : Prop where
  nm : Nm ns
  nd : ns.Nodup
  ln : ns.length = 6
def gl {α : Type} (g : Nat → α) (n : Nat) : List α := (List.range n).map g
theorem gl_snoc {α : Type} (g : Nat → α) (n : Nat) : gl g n ++ [g n] = gl g (n + 1) := by
  unfold gl
  rw [List.range_succ, List.map_append]
  rfl
def abc (i : Nat) : Nat := (tl lettersS).getD (i % 26) 0
theorem abc_mem (i : Nat) : abc i ∈ tl lettersS := by
  have h : ∀ j, j < 26 → (tl lettersS).getD j 0 ∈ tl lettersS := by decide +kernel
  exact h _ (Nat.mod_lt _ (by decide))
theorem abc_nd {f : Nat} (h : f < 26) : (gl (fun k => abc (f + 5 * k)) 4).Nodup := by
  have h2 : ∀ f, f < 26 → (gl (fun k => abc (f + 5 * k)) 4).Nodup := by decide +kernel
  exact h2 f h
def sg (c : Nat) : Str := ⟨#[c]⟩
theorem sg_tl (c : Nat) : tl (sg c) = [c] := rfl
def stemOf (cs : List Nat) : Str := Txt.join "" (cs.map sg)
theorem stem_tl (cs : List Nat) : tl (stemOf cs) = cs := join_signs
def nmF (cs : List Nat) (f k : Nat) : Str := stemOf cs ++ sg (abc (f + 5 * k))
theorem nmF_tl (cs : List Nat) (f k : Nat) : tl (nmF cs f k) = cs ++ [abc (f + 5 * k)] := by
  unfold nmF
  rw [tl_append, stem_tl, sg_tl]
def nsOf (cs : List Nat) (f : Nat) : List Str := gl (nmF cs f) 4 ++ [nmF cs f 0 ++ "a", nmF cs f 1 ++ "z"]
theorem a_tl : tl ("a" : Str) = [97] := by decide +kernel
theorem z_tl : tl ("z" : Str) = [122] := by decide +kernel
theorem isName_of {z : Str} (h1 : 1 ≤ (tl z).length) (h2 : (tl z).length ≤ 6) (h3 : ∀ c ∈ tl z, c ∈ tl lettersS) : isName z = true := by
  unfold isName
  rw [len_tl, decide_eq_true h1, decide_eq_true h2, Bool.true_and, Bool.true_and, List.all_eq_true]
  exact fun c hc => decide_eq_true (h3 c hc)
theorem six_of {cs : List Nat} {f : Nat} (h4 : cs.length ≤ 4) (hc : ∀ c ∈ cs, c ∈ tl lettersS) (hf : f < 26) : Six (nsOf cs f) := by
  have ha : (97 : Nat) ∈ tl lettersS := by decide +kernel
  have hz : (122 : Nat) ∈ tl lettersS := by decide +kernel
  have i0 : ∀ k, isName (nmF cs f k) = true := fun k => by
    refine isName_of ?_ ?_ ?_ <;> rw [nmF_tl]
    · simp
    · simp; omega
    · intro c hm
      rcases List.mem_append.mp hm with hm | hm
      · exact hc c hm
      · rw [List.mem_singleton.mp hm]; exact abc_mem _
  have i1 : ∀ k (y : Str) (b : Nat), tl y = [b] → b ∈ tl lettersS → isName (nmF cs f k ++ y) = true := fun k y b hy hb => by
    refine isName_of ?_ ?_ ?_ <;> rw [tl_append, nmF_tl, hy]
    · simp
    · simp; omega
    · intro c hm
      rcases List.mem_append.mp hm with hm | hm
      · rcases List.mem_append.mp hm with hm | hm
        · exact hc c hm
        · rw [List.mem_singleton.mp hm]; exact abc_mem _
      · rw [List.mem_singleton.mp hm]; exact hb
  refine ⟨fun z hz' => ?_, ?_, rfl⟩
  · unfold nsOf at hz'
    rcases List.mem_append.mp hz' with hm | hm
    · obtain ⟨k, _, rfl⟩ := List.mem_map.mp hm
      exact i0 k
    · rcases List.mem_cons.mp hm with rfl | hm
      · exact i1 0 _ _ a_tl ha
      · rw [List.mem_singleton.mp hm]
        exact i1 1 _ _ z_tl hz
  · have nd := abc_nd hf
    have e : (nsOf cs f).map tl = (gl (fun k => abc (f + 5 * k)) 4).map (fun b => cs ++ [b]) ++ [(cs ++ [abc (f + 5 * 0)]) ++ [97], (cs ++ [abc (f + 5 * 1)]) ++ [122]] := by
      unfold nsOf gl
      rw [List.map_append, List.map_map, List.map_map]
      congr 1
      · exact List.map_congr_left fun k _ => nmF_tl cs f k
      · rw [List.map_cons, List.map_cons, tl_append, tl_append, nmF_tl, nmF_tl, a_tl, z_tl]
        rfl
    refine List.Pairwise.of_map tl (fun a b h e => h (congrArg tl e)) (S := (· ≠ ·)) ?_
    show List.Nodup _
    rw [e, List.nodup_append]
    refine ⟨?_, ?_, ?_⟩
    · unfold List.Nodup at nd ⊢
      rw [List.pairwise_map]
      exact nd.imp fun h e2 => h (by simpa using e2)
    · simp only [List.nodup_cons, List.mem_singleton, List.not_mem_nil, not_false_eq_true, List.nodup_nil, and_true]
      intro e2
      have := congrArg List.getLast? e2
      simp at this
    · intro a ha2 b hb2 e2
      subst e2
      obtain ⟨x, _, rfl⟩ := List.mem_map.mp ha2
      have l1 := congrArg List.length (show (cs ++ [x]) = (cs ++ [x]) from rfl)
      simp only [List.mem_cons, List.not_mem_nil, or_false] at hb2
      rcases hb2 with hb2 | hb2 <;> · have := congrArg List.length hb2; simp at this
end K19
end
section
set_option Elab.async false
set_option autoImplicit false
set_option linter.all false
set_option maxRecDepth 100000
set_option maxHeartbeats 4000000
set_option pp.maxSteps 1500
namespace K19
open PySem PySem.Spec PyProof.Rows L2 Ls
open C8 (pss_cut tCut)
open TL
section
variable {P : Program} {w : World} {K : PySem.W.Frag} {mg : Str → Option Value} {base : Heap} {CE CN CB CW CS : Addr} {tL tN : Tok}
/-! ### _law_names -/
def spLN : Sp := fun vs H Q _ => ∃ (p c : Addr) (n : Nat), vs = [.ref p] ∧ PenAt H p c n ∧ n < 900000 ∧
  ∀ (l : Addr) (ns : List Str) (H' : Hp), H l = none → H' l = some (.lst (ns.map V.str)) → Six ns → PenAt H' p c (n + 10) → Keep p c H H' → Q (.ref l) H'
abbrev s__law_names : Stmt := top 23
abbrev N__law_names : List Str := ["_law_pen_here", "_law_letters", "_law_stem", "_law_go", "_law_first", "_law_found", "_law_k"]
theorem sc__law_names : FnScope N__law_names ["_law_pen_here"] (defScope s__law_names) := ⟨rfl, rfl, rfl, by decide +kernel, rfl, by decide +kernel, by decide +kernel⟩
theorem ok_lnames {f : Addr} {fd : FuncData} (F : Fun K "_law_names" "_law_names" s__law_names f fd) (T : Tx K mg CE CN CB CW CS tL tN) (c__law_draw : Cal P w K mg base CX0 1 "_law_draw" spDraw) (c__law_pick : Cal P w K mg base CX0 2 "_law_pick" (spPick K)) : FnOk P w K mg base CX0 3 f fd ["_law_pen_here"] spLN := by
  refine F.ok sc__law_names (fun vs H Q E h => ?_) (fun cdv A outer s H vs Q E hr h => ?_)
  · obtain ⟨p, c, n, rfl, _⟩ := h
    rfl
  · obtain ⟨p, c, n, rfl, hp, hn, k⟩ := h
    have h4 : sizeLine = 16777216 := sizeLine_eq
    have ll : lettersS.length = 26 := by decide +kernel
    refine ⟨_, (pss_cons (ps_set (i := 1) sc__law_names.nd rfl (by first | exact Or.inl rfl | exact Or.inr rfl) pe_str)
      (pss_cons (ps_set (i := 2) sc__law_names.nd rfl (by first | exact Or.inl rfl | exact Or.inr rfl) (pe_join pe_str (pe_lc (own := [("_law_go", 3)]) rfl sc__law_names.nd (pi_range1 rfl (T.bn _ (by decide +kernel)) (pa_cons (pe_cal c__law_draw (hr.mono (by decide)) (by rfl) pass0 (pa_cons (pv 0) (pa_cons pe_int pa_nil))) pa_nil)) (blkOk_by (own := [("_law_go", 3)]) (N := N__law_names) (sc := defScope s__law_names) (by decide +kernel)) (fun _ _ _ _ _ => (pg_name (i := 3) sc__law_names.nd rfl (by first | exact Or.inl rfl | exact Or.inr rfl))) (fun _ _ _ _ _ => pts_nil) (fun _ _ _ _ _ => (pe_cal c__law_pick (hr.mono (by decide)) (by rfl) pass0 (pa_cons (pv 0) (pa_cons (pv 1) pa_nil)))))))
      (pss_cons (ps_set (i := 4) sc__law_names.nd rfl (by first | exact Or.inl rfl | exact Or.inr rfl) (pe_cal c__law_draw (hr.mono (by decide)) (by rfl) pass0 (pa_cons (pv 0) (pa_cons pe_int pa_nil))))
      (pss_cons (ps_setLc (i := 5) (own := [("_law_k", 6)]) rfl sc__law_names.nd rfl rfl (sw_true rfl rfl rfl (by decide +kernel)) (pi_range1 rfl (T.bn _ (by decide +kernel)) (pa_cons pe_int pa_nil)) (blkOk_by (own := [("_law_k", 6)]) (N := N__law_names) (sc := defScope s__law_names) (by decide +kernel)) (fun _ _ _ _ _ => (pg_name (i := 6) sc__law_names.nd rfl (by first | exact Or.inl rfl | exact Or.inr rfl))) (fun _ _ _ _ _ => pts_nil) (fun _ _ _ _ _ => (pe_op op_add_str (pv 2) (pe_ix ix_str (pv 1) (pe_op op_mod (pe_callTy call_int1 (by rfl) (T.bn _ (by decide +kernel)) (by decide +kernel) (pa_cons (pe_op op_add (pv 4) (pe_op op_mul pe_int (pv 6))) pa_nil)) pe_int) (fun _ _ => rfl)))))
      (pss_one (ps_ret (pe_op op_cat (pv 5) (pe_lst (pa_cons (pe_op op_add_str (pe_ix ix_list (pv 5) pe_int (fun _ _ => rfl)) pe_str) (pa_cons (pe_op op_add_str (pe_ix ix_list (pv 5) pe_int (fun _ _ => rfl)) pe_str) pa_nil)))))))))), ?_⟩
    refine ⟨⟨_, rfl⟩, _, rfl, p, c, n, 5, rfl, hp, by omega, by decide, by decide, fun m H1 m0 m1 hp1 k1 => ?_⟩
    refine ⟨m, rfl, by omega, by omega, fun D hD => ?_⟩
    have hDH : H D = none := by
      cases q : H D with
      | none => rfl
      | some o =>
        by_cases h1 : D = p
        · rw [h1] at hD; exact absurd rfl ((hp1.ne (a := p) hD).1)
        · by_cases h2 : D = c
          · rw [h2] at hD; exact absurd rfl ((hp1.ne (a := c) hD).2)
          · rw [k1 _ _ q h1 h2] at hD; cases hD
    obtain ⟨npD, ncD⟩ := hp.ne hDH
    refine lc_it walk_range (fun i H' => ∃ cs : List Nat, H' D = some (.lst (cs.map fun x => V.str (sg x))) ∧ cs.length = i ∧ (∀ x ∈ cs, x ∈ tl lettersS) ∧ PenAt H' p c (n + 1 + i) ∧ Keep p c H H') ?_ (fun _ _ _ _ => trivial) ?_ ?_
    · refine ⟨[], upd_same, rfl, fun x hx => absurd hx (by simp), hp1.upd npD ncD, fun b o q h1 h2 => ?_⟩
      rw [upd_ne (ne_of_none q hDH)]
      exact k1 b o q h1 h2
    · rintro i x H2 _ hi ⟨cs, g1, hl, hc, hp2, k2⟩ ⟨rfl, rfl⟩
      have hi' : i < 5 := by omega
      refine ⟨rfl, _, rfl, _, rfl, p, c, n + 1 + i, .str lettersS, rfl, hp2, by omega, .inr ⟨lettersS, rfl, by omega, by omega, fun b H3 hb hp3 kp3 => ?_⟩⟩
      refine ⟨cs.map fun x => V.str (sg x), kp3 _ _ g1 npD.symm ncD.symm, by rw [List.length_map]; omega, cs ++ [b], ?_, by simp [hl], ?_, (hp3.mono (by omega)).upd npD ncD, ?_⟩
      · rw [upd_same, List.map_append]
        rfl
      · intro x hx
        rcases List.mem_append.mp hx with hx | hx
        · exact hc x hx
        · rw [List.mem_singleton.mp hx]; exact hb
      · intro b' o q h1 h2
        rw [upd_ne (ne_of_none q hDH)]
        exact kp3 _ _ (k2 _ _ q h1 h2) h1 h2
    · rintro H2 ⟨cs, g1, hl, hc, hp2, k2⟩
      have hl4 : cs.length ≤ 4 := by omega
      have em : (cs.map fun x => V.str (sg x)) = (cs.map sg).map V.str := by rw [List.map_map]; rfl
      rw [em] at g1
      have e0 : ("" : Str).length = 0 := by decide +kernel
      refine ⟨_, D, _, rfl, rfl, .inl (SqL.of g1), ?_, ?_⟩
      · have := sum_le6 (n := 1) (zs := cs.map sg) fun z hz => by
          obtain ⟨b, _, rfl⟩ := List.mem_map.mp hz
          exact Nat.le_refl _
        rw [List.length_map] at this ⊢
        rw [e0]
        omega
      show _
      refine ⟨_, rfl, p, c, n + 1 + m.toNat, 26, rfl, hp2, by omega, by decide, by decide, fun f0 H3 f1 f2 hp3 k3 => ?_⟩
      have k03 : Keep p c H H3 := k2.trans k3
      obtain ⟨fo, rfl⟩ : ∃ fo : Nat, f0 = fo := ⟨f0.toNat, by omega⟩
      refine ⟨4, rfl, by decide, by decide, fun D2 hD2 => ?_⟩
      refine lc_it walk_range (fun i H' => H' = upd H3 D2 (.lst ((gl (nmF cs fo) i).map V.str))) rfl (fun _ _ _ _ => trivial) ?_ ?_
      · rintro i x H4 _ hi rfl ⟨rfl, rfl⟩
        have hi4 : i < 4 := hi
        have hj : ((fo : Int) + 5 * (0 + (i : Nat))) % 26 = ((fo + 5 * i) % 26 : Nat) := by omega
        have hlt : (fo + 5 * i) % 26 < 26 := Nat.mod_lt _ (by decide)
        have tll : (tl lettersS).length = 26 := by rw [← len_tl]; exact ll
        refine ⟨rfl, _, rfl, _, rfl, _, rfl, _, rfl, _, _, rfl, rfl, .inl ⟨by decide, by omega⟩, _, _, rfl, rfl, .inl ⟨_, rfl, _, _, rfl, rfl, (by show (0 : Int) < 26; decide), ?_⟩⟩
        refine ⟨lettersS, ((fo : Int) + 5 * (0 + (i : Nat))) % 26, abc (fo + 5 * i), rfl, rfl, by omega, ?_, ?_⟩
        · rw [hj]
          refine atI_nat ?_
          unfold abc
          rw [List.getD_eq_getElem?_getD]
          show (tl lettersS)[_]? = _
          rw [List.getElem?_eq_getElem (by omega)]
          rfl
        · refine ⟨_, _, rfl, rfl, ?_, (gl (nmF cs fo) i).map V.str, upd_same, ?_, ?_⟩
          · have h1 : (stemOf cs).length ≤ 4 := by rw [len_tl, stem_tl]; exact hl4
            show (stemOf cs).length + 1 ≤ _
            omega
          · rw [List.length_map]; unfold gl; rw [List.length_map, List.length_range]; omega
          · rw [upd_upd, ← gl_snoc, List.map_append]
            rfl
      · rintro H4 rfl
        have e4 := Ext.upd (o := HO.lst ((gl (nmF cs fo) 4).map V.str)) hD2
        have g4 : (upd H3 D2 (HO.lst ((gl (nmF cs fo) 4).map V.str))) D2 = some (HO.lst ((gl (nmF cs fo) 4).map V.str)) := upd_same
        show gName 5 (.ref D2) _ (upd H3 D2 (HO.lst ((gl (nmF cs fo) 4).map V.str))) _
        generalize (upd H3 D2 (HO.lst ((gl (nmF cs fo) 4).map V.str))) = H4 at e4 g4
        have ls : ∀ k, (nmF cs fo k).length ≤ 5 := fun k => by
          rw [len_tl, nmF_tl, List.length_append]
          show cs.length + 1 ≤ 5
          omega
        have l0 := ls 0
        have l1 := ls 1
        have la : ("a" : Str).length = 1 := by decide +kernel
        have lz : ("z" : Str).length = 1 := by decide +kernel
        refine ⟨_, rfl, _, rfl, D2, _, 0, _, rfl, rfl, SqL.of g4, rfl, _, _, rfl, rfl, Nat.le_trans (Nat.add_le_add l0 (Nat.le_of_eq la)) (by decide), _, rfl, D2, _, 1, _, rfl, rfl, SqL.of g4, rfl, _, _, rfl, rfl, Nat.le_trans (Nat.add_le_add l1 (Nat.le_of_eq lz)) (by decide), ?_⟩
        refine ⟨(by show 2 ≤ sizeLine; decide), fun q nq => ?_⟩
        have g5 := at_new (o' := HO.lst [V.str (nmF cs fo 0 ++ "a"), V.str (nmF cs fo 1 ++ "z")]) nq g4
        have e5 := Ext.upd (o := HO.lst [V.str (nmF cs fo 0 ++ "a"), V.str (nmF cs fo 1 ++ "z")]) nq
        refine ⟨D2, q, _, _, rfl, rfl, g5, upd_same, (by show 4 + 2 ≤ sizeLine; decide), fun r nr => ?_⟩
        have e6 := Ext.upd (o := HO.lst ((gl (nmF cs fo) 4).map V.str ++ [V.str (nmF cs fo 0 ++ "a"), V.str (nmF cs fo 1 ++ "z")])) nr
        have e36 := e4.trans (e5.trans e6)
        refine k r (nsOf cs fo) _ ?_ ?_ (six_of hl4 hc (by omega)) ((hp3.mono (by omega)).ext e36) (k03.trans (Keep.ext e36))
        · have h0 : H3 r = none := ext_free (e4.trans e5) nr
          cases q : H r with
          | none => rfl
          | some o =>
            by_cases h1 : r = p
            · rw [h1] at h0; exact absurd rfl ((hp3.ne (a := p) h0).1)
            · by_cases h2 : r = c
              · rw [h2] at h0; exact absurd rfl ((hp3.ne (a := c) h0).2)
              · rw [k03 _ _ q h1 h2] at h0; cases h0
        · rw [upd_same]
          unfold nsOf
          rw [List.map_append]
          rfl
end
end K19
end
section
set_option Elab.async false
set_option autoImplicit false
set_option linter.all false
set_option maxRecDepth 100000
set_option maxHeartbeats 4000000
set_option pp.maxSteps 1500
namespace K19
open PySem PySem.Spec PyProof.Rows L2 Ls
open C8 (pss_cut tCut)
open TL
theorem free_keep {H H1 : Hp} {p c D : Addr} {n : Nat} (hp : PenAt H1 p c n) (k : Keep p c H H1) (hD : H1 D = none) : H D = none := by
  cases q : H D with
  | none => rfl
  | some o =>
    by_cases h1 : D = p
    · rw [h1] at hD; exact absurd rfl ((hp.ne (a := p) hD).1)
    · by_cases h2 : D = c
      · rw [h2] at hD; exact absurd rfl ((hp.ne (a := c) hD).2)
      · rw [k _ _ q h1 h2] at hD; cases hD
/-- two parts of names, new: lists -/
structure PartsAt (H : Hp) (l a b : Addr) (h k : List Str) : Prop where
  l : H l = some (.lst [.ref a, .ref b])
  a : H a = some (.lst (h.map V.str))
  b : H b = some (.lst (k.map V.str))
theorem PartsAt.ext {H H' : Hp} {l a b : Addr} {h k : List Str} (x : PartsAt H l a b h k) (e : Ext H H') : PartsAt H' l a b h k := ⟨e _ _ x.l, e _ _ x.a, e _ _ x.b⟩
structure Off (p c l a b : Addr) : Prop where
  l : l ≠ p ∧ l ≠ c
  a : a ≠ p ∧ a ≠ c
  b : b ≠ p ∧ b ≠ c
theorem PartsAt.keep {H H' : Hp} {p c l a b : Addr} {h k : List Str} (x : PartsAt H l a b h k) (o : Off p c l a b) (e : Keep p c H H') : PartsAt H' l a b h k := ⟨e _ _ x.l o.l.1 o.l.2, e _ _ x.a o.a.1 o.a.2, e _ _ x.b o.b.1 o.b.2⟩
/-- parts of the six names -/
structure Of6 (ns h k : List Str) : Prop where
  hs : ∀ z ∈ h, z ∈ ns
  ks : ∀ z ∈ k, z ∈ ns
  hd : h.Nodup
  kd : k.Nodup
theorem sub_len {ns l : List Str} (s : Six ns) (d : l.Nodup) (h : ∀ z ∈ l, z ∈ ns) : l.length ≤ 6 := by
  have := d.length_le_of_subset h
  have := s.ln
  omega
section
variable {P : Program} {w : World} {K : PySem.W.Frag} {mg : Str → Option Value} {base : Heap} {CE CN CB CW CS : Addr} {tL tN : Tok}
def spDrawn : Sp := fun vs H Q _ => ∃ (p c q : Addr) (n : Nat) (ns : List Str), vs = [.ref p, .ref q] ∧ PenAt H p c n ∧ n < 800000 ∧ H q = some (.lst (ns.map V.str)) ∧ q ≠ p ∧ q ≠ c ∧ Six ns ∧
  ∀ (l a b : Addr) (h k : List Str) (H' : Hp), Off p c l a b → PartsAt H' l a b h k → Of6 ns h k → PenAt H' p c (n + 50) → Keep p c H H' → Q (.ref l) H'
abbrev s__law_drawn : Stmt := top 24
abbrev N__law_drawn : List Str := ["_law_pen_here", "_law_names_here", "_law_held", "_law_kept", "_law_name", "_law_way"]
theorem sc__law_drawn : FnScope N__law_drawn ["_law_pen_here", "_law_names_here"] (defScope s__law_drawn) := ⟨rfl, rfl, rfl, by decide +kernel, rfl, by decide +kernel, by decide +kernel⟩
theorem ok_drawn {f : Addr} {fd : FuncData} (F : Fun K "_law_drawn" "_law_drawn" s__law_drawn f fd) (T : Tx K mg CE CN CB CW CS tL tN) (c__law_draw : Cal P w K mg base CX0 1 "_law_draw" spDraw) (c__law_mixed : Cal P w K mg base CX0 2 "_law_mixed" spMixed) : FnOk P w K mg base CX0 3 f fd ["_law_pen_here", "_law_names_here"] spDrawn := by
  refine F.ok sc__law_drawn (fun vs H Q E h => ?_) (fun cdv A outer s H vs Q E hr h => ?_)
  · obtain ⟨p, c, q, n, ns, rfl, _⟩ := h
    rfl
  · obtain ⟨p, c, q, n, ns, rfl, hp, hn, hq, nqp, nqc, six, k⟩ := h
    have h4 : sizeLine = 16777216 := sizeLine_eq
    have l6 := six.ln
    refine ⟨_, (pss_cons (ps_par (i := 2) (j := 3) rfl sc__law_drawn.nd rfl rfl (by decide) rfl rfl (pa_cons (pe_lst pa_nil) (pa_cons (pe_lst pa_nil) pa_nil)) (by rfl))
      (pss_cons (ps_for PassesOwn.never rfl (pi_list (pv 1)) (pg_name (i := 4) sc__law_drawn.nd rfl (by first | exact Or.inl rfl | exact Or.inr rfl))
      (pss_cons (ps_set (i := 5) sc__law_drawn.nd rfl (by first | exact Or.inl rfl | exact Or.inr rfl) (pe_cal c__law_draw (hr.mono (by decide)) (by rfl) pass0 (pa_cons (pv 0) (pa_cons pe_int pa_nil))))
      (pss_cons (ps_set (i := 2) sc__law_drawn.nd rfl (by first | exact Or.inl rfl | exact Or.inr rfl) (pe_op op_cat (pv 2) (pe_op op_rep (pe_lst (pa_cons (pv 4) pa_nil)) (pe_callTy call_int1 (by rfl) (T.bn _ (by decide +kernel)) (by decide +kernel) (pa_cons (pe_cmpR op_in_seq (pv 5) (pe_tup (pa_cons pe_int (pa_cons pe_int pa_nil))) rfl) pa_nil)))))
      (pss_one (ps_set (i := 3) sc__law_drawn.nd rfl (by first | exact Or.inl rfl | exact Or.inr rfl) (pe_op op_cat (pv 3) (pe_op op_rep (pe_lst (pa_cons (pv 4) pa_nil)) (pe_callTy call_int1 (by rfl) (T.bn _ (by decide +kernel)) (by decide +kernel) (pa_cons (pe_cmpR op_in_seq (pv 5) (pe_tup (pa_cons pe_int (pa_cons pe_int pa_nil))) rfl) pa_nil)))))))))
      (pss_one (ps_ret (pe_lst (pa_cons (pe_cal c__law_mixed (hr.mono (by decide)) (by rfl) pass0 (pa_cons (pv 0) (pa_cons (pv 2) pa_nil))) (pa_cons (pe_cal c__law_mixed (hr.mono (by decide)) (by rfl) pass0 (pa_cons (pv 0) (pa_cons (pv 3) pa_nil))) pa_nil))))))), ?_⟩
    refine ⟨(by show 0 ≤ sizeLine; decide), fun a na => ⟨(by show 0 ≤ sizeLine; decide), fun b nb => ?_⟩⟩
    have e1 := Ext.upd (o := HO.lst []) na
    have fa := at_new (o' := HO.lst []) nb (upd_same (H := H) (a := a) (o := HO.lst []))
    have e2 := e1.trans (Ext.upd (o := HO.lst []) nb)
    have fb : (upd (upd H a (.lst [])) b (.lst [])) b = some (.lst []) := upd_same
    generalize (upd (upd H a (.lst [])) b (.lst [])) = H2 at fa fb e2
    refine ⟨_, _, rfl, ?_⟩
    refine ⟨_, rfl, q, rfl, ⟨_, SqL.of (e2 _ _ hq)⟩, ?_⟩
    refine for_it (walk_list (K := K) (xs := ns.map V.str)) (fun i σ H' => ∃ (a b : Addr) (h k : List Str) (x y : Option V), σ = [some (.ref p), some (.ref q), some (.ref a), some (.ref b), x, y] ∧ H' a = some (.lst (h.map V.str)) ∧ H' b = some (.lst (k.map V.str)) ∧ H a = none ∧ H b = none ∧ h.Sublist (ns.take i) ∧ k.Sublist (ns.take i) ∧ PenAt H' p c (n + i) ∧ Keep p c H H') ?_ (fun i σ H' _ ⟨a, b, h, k, x, y, _, _, _, _, _, _, _, _, kp⟩ => SqL.of (kp _ _ hq nqp nqc)) ?_ ?_
    · exact ⟨a, b, [], [], _, _, rfl, fa, fb, na, ext_free e1 nb, List.nil_sublist _, List.nil_sublist _, hp.ext e2, Keep.ext e2⟩
    · rintro i x σ _ H3 hi ⟨a, b, h, kk, x0, y0, rfl, ga, gb, na, nb, sh, sk, hp3, k3⟩ ⟨rfl, hx⟩
      rw [List.getElem?_map] at hx
      obtain ⟨z, hz, rfl⟩ := Option.map_eq_some_iff.mp hx
      have hi' : i < ns.length := (List.getElem?_eq_some_iff.mp hz).1
      refine ⟨_, rfl, p, c, n + i, 4, rfl, hp3, by omega, by decide, by decide, fun way H4 w0 w1 hp4 k4 => ?_⟩
      obtain ⟨npa, nca⟩ := hp.ne na
      obtain ⟨npb, ncb⟩ := hp.ne nb
      have ga := k4 _ _ ga npa.symm nca.symm
      have gb := k4 _ _ gb npb.symm ncb.symm
      have k04 := k3.trans k4
      have lh := sh.length_le
      have lk := sk.length_le
      have ltk := List.length_take_le i ns
      have tk : ns.take (i + 1) = ns.take i ++ [z] := by rw [List.take_add_one, hz]; rfl
      have rep : ∀ b : Bool, (List.replicate (if b then (1 : Int) else 0).toNat [V.str z]).flatten = (if b then [z] else []).map V.str := fun b => by cases b <;> rfl
      have grow : ∀ (b : Bool) (l : List Str), l.Sublist (ns.take i) → (l ++ (if b then [z] else [])).Sublist (ns.take (i + 1)) := fun b l s => by
        rw [tk]
        cases b
        · simp; exact s.trans (List.sublist_append_left _ _)
        · exact s.append (List.Sublist.refl _)
      refine ⟨_, rfl, _, rfl, (by show 1 ≤ sizeLine; decide), fun t1 nt1 => ⟨_, rfl, (by show 2 ≤ sizeLine; decide), fun t2 nt2 => ?_⟩⟩
      have f4 := ga
      have e5 := Ext.upd (o := HO.lst [V.str z]) nt1
      have e6 := e5.trans (Ext.upd (o := HO.tup [V.int 1, V.int 3]) nt2)
      have g1 : (upd (upd H4 t1 (.lst [.str z])) t2 (.tup [.int 1, .int 3])) t1 = some (.lst [.str z]) := at_new nt2 upd_same
      refine ⟨t2, _, rfl, .inr (SqT.of upd_same), rfl, rfl, .inr ⟨_, rfl, ?_⟩⟩
      generalize (upd (upd H4 t1 (.lst [.str z])) t2 (.tup [.int 1, .int 3])) = H6 at e6 g1
      show rRep (.ref t1) (.int (if (inV (.int way) [.int 1, .int 3]) = true then 1 else 0)) H6 _
      generalize (inV (.int way) [.int 1, .int 3]) = b1
      refine ⟨t1, _, [.str z], rfl, rfl, g1, by cases b1 <;> decide, by cases b1 <;> decide, by cases b1 <;> first | (show 1 * 0 ≤ sizeLine; decide) | (show 1 * 1 ≤ sizeLine; decide), fun r nr => ?_⟩
      rw [rep]
      have lb1 : (h ++ (if b1 then [z] else [])).length ≤ 6 := by have := (grow b1 h sh).length_le; have := List.length_take_le (i + 1) ns; omega
      have e7 := e6.trans (Ext.upd (o := HO.lst ((if b1 then [z] else []).map V.str)) nr)
      have g7 : (upd H6 r (.lst ((if b1 then [z] else []).map V.str))) r = some (.lst ((if b1 then [z] else []).map V.str)) := upd_same
      generalize (upd H6 r (.lst ((if b1 then [z] else []).map V.str))) = H7 at e7 g7
      refine ⟨a, r, _, _, rfl, rfl, e7 _ _ ga, g7, by rw [← List.length_append, ← List.map_append, List.length_map]; omega, fun a' na' => ?_⟩
      rw [← List.map_append]
      have e8 := e7.trans (Ext.upd (o := HO.lst ((h ++ (if b1 then [z] else [])).map V.str)) na')
      have g8 : (upd H7 a' (.lst ((h ++ (if b1 then [z] else [])).map V.str))) a' = some (.lst ((h ++ (if b1 then [z] else [])).map V.str)) := upd_same
      generalize (upd H7 a' (.lst ((h ++ (if b1 then [z] else [])).map V.str))) = H8 at e8 g8
      have na0 := free_keep hp4 k04 (ext_free e7 na')
      -- the other part
      refine ⟨_, rfl, _, rfl, (by show 1 ≤ sizeLine; decide), fun u1 nu1 => ⟨_, rfl, (by show 2 ≤ sizeLine; decide), fun u2 nu2 => ?_⟩⟩
      have i5 := Ext.upd (o := HO.lst [V.str z]) nu1
      have i6 := i5.trans (Ext.upd (o := HO.tup [V.int 2, V.int 3]) nu2)
      have j1 : (upd (upd H8 u1 (.lst [.str z])) u2 (.tup [.int 2, .int 3])) u1 = some (.lst [.str z]) := at_new nu2 upd_same
      refine ⟨u2, _, rfl, .inr (SqT.of upd_same), rfl, rfl, .inr ⟨_, rfl, ?_⟩⟩
      generalize (upd (upd H8 u1 (.lst [.str z])) u2 (.tup [.int 2, .int 3])) = H9 at i6 j1
      show rRep (.ref u1) (.int (if (inV (.int way) [.int 2, .int 3]) = true then 1 else 0)) H9 _
      generalize (inV (.int way) [.int 2, .int 3]) = b2
      refine ⟨u1, _, [.str z], rfl, rfl, j1, by cases b2 <;> decide, by cases b2 <;> decide, by cases b2 <;> first | (show 1 * 0 ≤ sizeLine; decide) | (show 1 * 1 ≤ sizeLine; decide), fun r2 nr2 => ?_⟩
      rw [rep]
      have lb2 : (kk ++ (if b2 then [z] else [])).length ≤ 6 := by have := (grow b2 kk sk).length_le; have := List.length_take_le (i + 1) ns; omega
      have i7 := i6.trans (Ext.upd (o := HO.lst ((if b2 then [z] else []).map V.str)) nr2)
      have j7 : (upd H9 r2 (.lst ((if b2 then [z] else []).map V.str))) r2 = some (.lst ((if b2 then [z] else []).map V.str)) := upd_same
      generalize (upd H9 r2 (.lst ((if b2 then [z] else []).map V.str))) = H10 at i7 j7
      refine ⟨b, r2, _, _, rfl, rfl, i7 _ _ (e8 _ _ gb), j7, by rw [← List.length_append, ← List.map_append, List.length_map]; omega, fun b' nb' => ?_⟩
      rw [← List.map_append]
      have i8 := i7.trans (Ext.upd (o := HO.lst ((kk ++ (if b2 then [z] else [])).map V.str)) nb')
      have j8 : (upd H10 b' (.lst ((kk ++ (if b2 then [z] else [])).map V.str))) b' = some (.lst ((kk ++ (if b2 then [z] else [])).map V.str)) := upd_same
      generalize (upd H10 b' (.lst ((kk ++ (if b2 then [z] else [])).map V.str))) = H11 at i8 j8
      have e411 := e8.trans i8
      exact ⟨a', b', _, _, _, _, rfl, i8 _ _ g8, j8, na0, free_keep hp4 k04 (ext_free e8 (ext_free i7 nb')), grow b1 h sh, grow b2 kk sk, (hp4.mono (by omega)).ext e411, k04.trans (Keep.ext e411)⟩
    · rintro σ H3 ⟨a, b, h, kk, x0, y0, rfl, ga, gb, na, nb, sh, sk, hp3, k3⟩
      have tkn : ns.take (ns.map V.str).length = ns := by rw [List.length_map, List.take_length]
      rw [tkn] at sh sk
      rw [List.length_map] at hp3
      obtain ⟨npa, nca⟩ := hp.ne na
      obtain ⟨npb, ncb⟩ := hp.ne nb
      have lh := sh.length_le
      have lk := sk.length_le
      refine ⟨_, rfl, _, rfl, p, c, a, n + ns.length, h, rfl, hp3, by omega, ga, npa.symm, nca.symm, by omega, fun a' h' H4 na' ga' pm hp4 k4 => ?_⟩
      refine ⟨_, rfl, _, rfl, p, c, b, n + ns.length + 20, kk, rfl, hp4, by omega, k4 _ _ gb npb.symm ncb.symm, npb.symm, ncb.symm, by omega, fun b' k' H5 nb' gb' pm' hp5 k5 => ?_⟩
      have na0 := free_keep hp3 k3 na'
      obtain ⟨npa', nca'⟩ := hp3.ne na'
      obtain ⟨npb', ncb'⟩ := hp4.ne nb'
      refine ⟨(by show 2 ≤ sizeLine; decide), fun l nl => ?_⟩
      obtain ⟨npl, ncl⟩ := hp5.ne nl
      refine k l a' b' h' k' _ ⟨⟨npl.symm, ncl.symm⟩, ⟨npa'.symm, nca'.symm⟩, ⟨npb'.symm, ncb'.symm⟩⟩ ⟨upd_same, at_new nl (k5 _ _ ga' npa'.symm nca'.symm), at_new nl gb'⟩ ⟨fun z hz => sh.mem (pm.mem_iff.mp hz), fun z hz => sk.mem (pm'.mem_iff.mp hz), pm.nodup_iff.mpr (six.nd.sublist sh), pm'.nodup_iff.mpr (six.nd.sublist sk)⟩ ((hp5.mono (by omega)).upd npl ncl) (((k3.trans k4).trans k5).trans (Keep.ext (Ext.upd nl)))
end
end K19
end
section
set_option Elab.async false
set_option autoImplicit false
set_option linter.all false
set_option maxRecDepth 100000
set_option maxHeartbeats 4000000
set_option pp.maxSteps 1500
namespace K19
open PySem PySem.Spec PyProof.Rows L2 Ls
open C8 (pss_cut tCut)
open TL
/-- all but z -/
def wo (z : Str) (l : List Str) : List Str := l.filter fun y => decide (y ≠ z)
theorem fm_wo (z : Str) : ∀ l : List Str, (l.filterMap fun y => if y ≠ z then some (V.str y) else none) = (wo z l).map V.str
  | [] => rfl
  | y :: r => by
    have ih := fm_wo z r
    unfold wo at ih ⊢
    by_cases hz : y = z
    · rw [List.filterMap_cons, List.filter_cons, if_neg (show ¬ y ≠ z from fun w => w hz), if_neg (by simp [hz])]
      exact ih
    · rw [List.filterMap_cons, List.filter_cons, if_pos hz, if_pos (by simp [hz]), List.map_cons, ← ih]
theorem wo_mem {z : Str} {l : List Str} {y : Str} : y ∈ wo z l ↔ y ∈ l ∧ y ≠ z := by
  unfold wo
  simp
theorem wo_nd {z : Str} {l : List Str} (h : l.Nodup) : (wo z l).Nodup := h.sublist List.filter_sublist
theorem wo_snoc {z : Str} {l : List Str} (h : l.Nodup) : (wo z l ++ [z]).Nodup := by
  rw [List.nodup_append]
  refine ⟨wo_nd h, by simp, fun a ha b hb e => ?_⟩
  rw [List.mem_singleton.mp hb] at e
  exact (wo_mem.mp ha).2 e
section
variable {P : Program} {w : World} {K : PySem.W.Frag} {mg : Str → Option Value} {base : Heap} {CE CN CB CW CS : Addr} {tL tN : Tok}
def spNear : Sp := fun vs H Q _ => ∃ (p c l a b q : Addr) (n : Nat) (h k ns : List Str), vs = [.ref p, .ref l, .ref q] ∧ PenAt H p c n ∧ n < 700000 ∧ H q = some (.lst (ns.map V.str)) ∧ q ≠ p ∧ q ≠ c ∧ Six ns ∧ PartsAt H l a b h k ∧ Off p c l a b ∧ Of6 ns h k ∧
  ∀ (l a b : Addr) (h k : List Str) (H' : Hp), Off p c l a b → PartsAt H' l a b h k → Of6 ns h k → PenAt H' p c (n + 60) → Keep p c H H' → Q (.ref l) H'
abbrev s__law_near : Stmt := top 25
abbrev N__law_near : List Str := ["_law_pen_here", "_law_parts", "_law_names_here", "_law_at", "_law_name", "_law_found", "_law_some", "_law_one"]
theorem sc__law_near : FnScope N__law_near ["_law_pen_here", "_law_parts", "_law_names_here"] (defScope s__law_near) := ⟨rfl, rfl, rfl, by decide +kernel, rfl, by decide +kernel, by decide +kernel⟩
theorem ok_near {f : Addr} {fd : FuncData} (F : Fun K "_law_near" "_law_near" s__law_near f fd) (T : Tx K mg CE CN CB CW CS tL tN) (c__law_draw : Cal P w K mg base CX0 1 "_law_draw" spDraw) (c__law_pick : Cal P w K mg base CX0 2 "_law_pick" (spPick K)) (c__law_drawn : Cal P w K mg base CX0 3 "_law_drawn" spDrawn) : FnOk P w K mg base CX0 4 f fd ["_law_pen_here", "_law_parts", "_law_names_here"] spNear := by
  refine F.ok sc__law_near (fun vs H Q E h => ?_) (fun cdv A outer s H vs Q E hr h => ?_)
  · obtain ⟨p, c, l, a, b, q, n, h, k, ns, rfl, _⟩ := h
    rfl
  · obtain ⟨p, c, l, a, b, q, n, h, k, ns, rfl, hp, hn, hq, nqp, nqc, six, pa, off, o6, kk⟩ := h
    have h4 : sizeLine = 16777216 := sizeLine_eq
    have l6 := six.ln
    have lh := sub_len six o6.hd o6.hs
    have lk := sub_len six o6.kd o6.ks
    refine ⟨_, (pss_cons (ps_asg (pe_tup (pa_cons (pe_cal c__law_draw (hr.mono (by decide)) (by rfl) pass0 (pa_cons (pv 0) (pa_cons pe_int pa_nil))) (pa_cons (pe_cal c__law_pick (hr.mono (by decide)) (by rfl) pass0 (pa_cons (pv 0) (pa_cons (pv 2) pa_nil))) pa_nil))) (pg_tup rfl (pgs_cons (pg_name (i := 3) sc__law_near.nd rfl (by first | exact Or.inl rfl | exact Or.inr rfl)) (pgs_cons (pg_name (i := 4) sc__law_near.nd rfl (by first | exact Or.inl rfl | exact Or.inr rfl)) pgs_nil))))
      (pss_cons (ps_if (pt_cmpR op_eq (pe_cal c__law_draw (hr.mono (by decide)) (by rfl) pass0 (pa_cons (pv 0) (pa_cons pe_int pa_nil))) pe_int (nomark _)) (pss_one (ps_ret (pe_cal c__law_drawn (hr.mono (by decide)) (by rfl) pass0 (pa_cons (pv 0) (pa_cons (pv 2) pa_nil))))) pss_nil)
      (pss_cons (ps_set (i := 5) sc__law_near.nd rfl (by first | exact Or.inl rfl | exact Or.inr rfl) (pe_lst (pa_cons (pe_callTy call_list_of (by rfl) (T.bn _ (by decide +kernel)) (by decide +kernel) (pa_cons (pe_ix ix_list (pv 1) pe_int (fun _ _ => rfl)) pa_nil)) (pa_cons (pe_callTy call_list_of (by rfl) (T.bn _ (by decide +kernel)) (by decide +kernel) (pa_cons (pe_ix ix_list (pv 1) pe_int (fun _ _ => rfl)) pa_nil)) pa_nil))))
      (pss_cons (ps_setLc (i := 6) (own := [("_law_one", 7)]) rfl sc__law_near.nd rfl rfl (sw_true rfl rfl rfl (by decide +kernel)) (pi_list (pe_ix ix_list (pv 5) (pv 3) (fun _ _ => rfl))) (blkOk_by (own := [("_law_one", 7)]) (N := N__law_near) (sc := defScope s__law_near) (by decide +kernel)) (fun _ _ _ _ _ => (pg_name (i := 7) sc__law_near.nd rfl (by first | exact Or.inl rfl | exact Or.inr rfl))) (fun _ _ _ _ _ => pts_one (pt_cmpR op_ne (pv 7) (pv 4) (nomark _))) (fun _ _ _ _ _ => (pv 7)))
      (pss_cons (ps_asg (pe_ifExp (pt_cmpR op_lt (pe_callB call_len_seq (by rfl) (T.bn _ (by decide +kernel)) (by decide +kernel) (pa_cons (pv 6) pa_nil)) (pe_callB call_len_seq (by rfl) (T.bn _ (by decide +kernel)) (by decide +kernel) (pa_cons (pe_ix ix_list (pv 5) (pv 3) (fun _ _ => rfl)) pa_nil)) (nomark _)) (pv 6) (pe_op op_cat (pv 6) (pe_lst (pa_cons (pv 4) pa_nil)))) (pg_sub (pv 5) (pv 3) set_list))
      (pss_one (ps_ret (pv 5)))))))), ?_⟩
    refine ⟨_, rfl, p, c, n, 2, rfl, hp, by omega, by decide, by decide, fun wt H1 w0 w1 hp1 k1 => ?_⟩
    refine ⟨_, rfl, _, rfl, p, c, n + 1, .ref q, rfl, hp1, by omega, .inl ⟨q, _, rfl, nqp, nqc, k1 _ _ hq nqp nqc, by rw [List.length_map]; omega, by rw [List.length_map]; omega, fun x H2 hx hp2 k2 => ?_⟩⟩
    obtain ⟨z, hz, rfl⟩ := List.mem_map.mp hx
    have k02' := k1.trans k2
    refine ⟨(by show 2 ≤ sizeLine; decide), fun tp ntp => ?_⟩
    have et := Ext.upd (o := HO.tup [V.int wt, V.str z]) ntp
    refine ⟨tp, _, rfl, SqT.of upd_same, rfl, _, _, rfl, _, _, rfl, rfl, ?_⟩
    have hp2 := hp2.ext et
    have k02 := k02'.trans (Keep.ext et)
    generalize (upd H2 tp (.tup [.int wt, .str z])) = H2' at hp2 k02
    refine ⟨_, rfl, p, c, n + 2, 3, rfl, hp2, by omega, by decide, by decide, fun v H3 v0 v1 hp3 k3 => ?_⟩
    have k03 := k02.trans k3
    refine ⟨rfl, _, rfl, ?_⟩
    by_cases hv : v = 0
    · refine iteYes (decide_eq_true (by rw [hv])) ?_
      exact ⟨_, rfl, _, rfl, p, c, q, n + 3, ns, rfl, hp3, by omega, k03 _ _ hq nqp nqc, nqp, nqc, six, fun l a b h k H4 off pa o6 hp4 k4 => kk l a b h k H4 off pa o6 (hp4.mono (by omega)) (k03.trans k4)⟩
    refine iteNo (decide_eq_false fun z => hv (V.int.inj z)) ?_
    have pa3 := pa.keep off k03
    refine ⟨_, rfl, l, _, 0, _, rfl, rfl, SqL.of pa3.l, rfl, a, _, rfl, .inl (SqL.of pa3.a), fun a2 na2 => ?_⟩
    have fa := upd_same (H := H3) (a := a2) (o := HO.lst (h.map V.str))
    have e4 := Ext.upd (o := HO.lst (h.map V.str)) na2
    generalize (upd H3 a2 (.lst (h.map V.str))) = H4 at fa e4
    have fa0 := fa
    have e4' : Ext H4 H4 := Ext.rfl'
    refine ⟨_, rfl, l, _, 1, _, rfl, rfl, SqL.of (e4 _ _ pa3.l), rfl, b, _, rfl, .inl (SqL.of (e4 _ _ pa3.b)), fun b2 nb2 => ?_⟩
    have fb := upd_same (H := H4) (a := b2) (o := HO.lst (k.map V.str))
    have e5 := Ext.upd (o := HO.lst (k.map V.str)) nb2
    have fa := e5 _ _ fa
    generalize (upd H4 b2 (.lst (k.map V.str))) = H5 at fa fb e5
    have fb0 := fb
    refine ⟨(by show 2 ≤ sizeLine; decide), fun F nF => ?_⟩
    have fF := upd_same (H := H5) (a := F) (o := HO.lst [V.ref a2, V.ref b2])
    have e6 := Ext.upd (o := HO.lst [V.ref a2, V.ref b2]) nF
    have fa := e6 _ _ fa
    have fb := e6 _ _ fb
    have e36 := e4.trans (e5.trans e6)
    have nF3 : H3 F = none := ext_free (e4.trans e5) nF
    have nb3 : H3 b2 = none := ext_free e4 nb2
    generalize (upd H5 F (.lst [.ref a2, .ref b2])) = H6 at fa fb fF e6 e36
    have hF0 := free_keep hp3 k03 nF3
    have away : ∀ {x : Addr}, H3 x = none → x ≠ p ∧ x ≠ c := fun {x} h => ⟨(hp3.ne h).1.symm, (hp3.ne h).2.symm⟩
    have nF2 : a2 ≠ F ∧ b2 ≠ F := ⟨ne_of_none (e5 _ _ (e4' _ _ fa0)) nF, ne_of_none fb0 nF⟩
    have fin : ∀ (Hz : Hp) (x y : Addr) (h' k' : List Str) (xs : List V), Ext H3 Hz → H3 x = none → H3 y = none → x ≠ F → y ≠ F → Hz x = some (.lst (h'.map V.str)) → Hz y = some (.lst (k'.map V.str)) → xs = [.ref x, .ref y] → Of6 ns h' k' → Q (.ref F) (upd Hz F (.lst xs)) := fun Hz x y h' k' xs ez nx ny xF yF fx fy exs o => by
      subst exs
      refine kk F x y h' k' _ ⟨away nF3, away nx, away ny⟩ ⟨upd_same, by rw [upd_ne xF]; exact fx, by rw [upd_ne yF]; exact fy⟩ o (((hp3.mono (by omega)).ext ez).upd (away nF3).1.symm (away nF3).2.symm) fun b' o' q' h1 h2 => ?_
      rw [upd_ne (ne_of_none q' hF0)]
      exact ez _ _ (k03 _ _ q' h1 h2)
    have zo : ∀ l : List Str, (∀ y ∈ l, y ∈ ns) → (∀ y ∈ wo z l, y ∈ ns) ∧ ∀ y ∈ wo z l ++ [z], y ∈ ns := fun l hl => ⟨fun y hy => hl y (wo_mem.mp hy).1, fun y hy => by
      rcases List.mem_append.mp hy with hy | hy
      · exact hl y (wo_mem.mp hy).1
      · rw [List.mem_singleton.mp hy]; exact hz⟩
    obtain rfl | rfl : wt = 0 ∨ wt = 1 := by omega
    · refine ⟨_, rfl, _, rfl, F, _, 0, _, rfl, rfl, SqL.of fF, rfl, a2, rfl, ⟨_, SqL.of fa⟩, fun D hD => ?_⟩
      refine lc_strs walk_list (fun y => if y ≠ z then some (.str y) else none) (by omega) (fun l => SqL.of (at_new hD fa)) (fun i y l C' N hy hC hN => ?_) ?_
      · refine ⟨rfl, _, rfl, _, rfl, rfl, _, rfl, ?_⟩
        by_cases hyz : y = z
        · exact iteNo (by rw [hyz]; simp) (hN (if_neg fun w => w hyz))
        · exact iteYes (by rw [strNo hyz]; rfl) ⟨_, rfl, hC _ (if_pos hyz)⟩
      rw [fm_wo]
      have fF3 := at_new (o' := HO.lst ((wo z h).map V.str)) hD fF
      have fa3 := at_new (o' := HO.lst ((wo z h).map V.str)) hD fa
      have fb3 := at_new (o' := HO.lst ((wo z h).map V.str)) hD fb
      have fD : (upd H6 D (.lst ((wo z h).map V.str))) D = some (.lst ((wo z h).map V.str)) := upd_same
      have e7 := Ext.upd (o := HO.lst ((wo z h).map V.str)) hD
      have hD0 : H6 D = none := hD
      generalize (upd H6 D (.lst ((wo z h).map V.str))) = H7 at fF3 fa3 fb3 fD e7
      have e37 := e36.trans e7
      refine ⟨_, rfl, D, _, rfl, .inl (SqL.of fD), _, rfl, _, rfl, F, _, 0, _, rfl, rfl, SqL.of fF3, rfl, a2, _, rfl, .inl (SqL.of fa3), _, _, rfl, rfl, _, rfl, ?_⟩
      rw [List.length_map, List.length_map]
      by_cases hlt : (wo z h).length < h.length
      · refine iteYes (decide_eq_true (by omega)) ?_
        exact ⟨_, rfl, _, rfl, _, rfl, F, _, _, 0, rfl, rfl, fF3, rfl, _, rfl, fin H7 D b2 (wo z h) k _ e37 (ext_free e36 hD0) nb3 (ne_of_none fF hD0).symm nF2.2 fD fb3 rfl ⟨(zo h o6.hs).1, o6.ks, wo_nd o6.hd, o6.kd⟩⟩
      · refine iteNo (decide_eq_false (by omega)) ?_
        refine ⟨_, rfl, _, rfl, (by show 1 ≤ sizeLine; decide), fun zl nzl => ?_⟩
        have e8 := Ext.upd (o := HO.lst [V.str z]) nzl
        have l8 : (wo z h).length ≤ 6 := Nat.le_trans (List.length_filter_le _ _) (by omega)
        refine ⟨D, zl, _, _, rfl, rfl, at_new nzl fD, upd_same, by show ((wo z h).map V.str).length + 1 ≤ sizeLine; rw [List.length_map]; omega, fun R nR => ?_⟩
        have e89 := e8.trans (Ext.upd (o := HO.lst ((wo z h).map V.str ++ [V.str z])) nR)
        exact ⟨_, rfl, _, rfl, F, _, _, 0, rfl, rfl, e89 _ _ fF3, rfl, _, rfl, fin _ R b2 (wo z h ++ [z]) k _ (e37.trans e89) (ext_free (e37.trans e8) nR) nb3 (ne_of_none (e8 _ _ fF3) nR).symm nF2.2 (by rw [upd_same, List.map_append]; rfl) (e89 _ _ fb3) rfl ⟨(zo h o6.hs).2, o6.ks, wo_snoc o6.hd, o6.kd⟩⟩
    · refine ⟨_, rfl, _, rfl, F, _, 1, _, rfl, rfl, SqL.of fF, rfl, b2, rfl, ⟨_, SqL.of fb⟩, fun D hD => ?_⟩
      refine lc_strs walk_list (fun y => if y ≠ z then some (.str y) else none) (by omega) (fun l => SqL.of (at_new hD fb)) (fun i y l C' N hy hC hN => ?_) ?_
      · refine ⟨rfl, _, rfl, _, rfl, rfl, _, rfl, ?_⟩
        by_cases hyz : y = z
        · exact iteNo (by rw [hyz]; simp) (hN (if_neg fun w => w hyz))
        · exact iteYes (by rw [strNo hyz]; rfl) ⟨_, rfl, hC _ (if_pos hyz)⟩
      rw [fm_wo]
      have fF3 := at_new (o' := HO.lst ((wo z k).map V.str)) hD fF
      have fa3 := at_new (o' := HO.lst ((wo z k).map V.str)) hD fa
      have fb3 := at_new (o' := HO.lst ((wo z k).map V.str)) hD fb
      have fD : (upd H6 D (.lst ((wo z k).map V.str))) D = some (.lst ((wo z k).map V.str)) := upd_same
      have e7 := Ext.upd (o := HO.lst ((wo z k).map V.str)) hD
      have hD0 : H6 D = none := hD
      generalize (upd H6 D (.lst ((wo z k).map V.str))) = H7 at fF3 fa3 fb3 fD e7
      have e37 := e36.trans e7
      refine ⟨_, rfl, D, _, rfl, .inl (SqL.of fD), _, rfl, _, rfl, F, _, 1, _, rfl, rfl, SqL.of fF3, rfl, b2, _, rfl, .inl (SqL.of fb3), _, _, rfl, rfl, _, rfl, ?_⟩
      rw [List.length_map, List.length_map]
      by_cases hlt : (wo z k).length < k.length
      · refine iteYes (decide_eq_true (by omega)) ?_
        exact ⟨_, rfl, _, rfl, _, rfl, F, _, _, 1, rfl, rfl, fF3, rfl, _, rfl, fin H7 a2 D h (wo z k) _ e37 na2 (ext_free e36 hD0) nF2.1 (ne_of_none fF hD0).symm fa3 fD rfl ⟨o6.hs, (zo k o6.ks).1, o6.hd, wo_nd o6.kd⟩⟩
      · refine iteNo (decide_eq_false (by omega)) ?_
        refine ⟨_, rfl, _, rfl, (by show 1 ≤ sizeLine; decide), fun zl nzl => ?_⟩
        have e8 := Ext.upd (o := HO.lst [V.str z]) nzl
        have l8 : (wo z k).length ≤ 6 := Nat.le_trans (List.length_filter_le _ _) (by omega)
        refine ⟨D, zl, _, _, rfl, rfl, at_new nzl fD, upd_same, by show ((wo z k).map V.str).length + 1 ≤ sizeLine; rw [List.length_map]; omega, fun R nR => ?_⟩
        have e89 := e8.trans (Ext.upd (o := HO.lst ((wo z k).map V.str ++ [V.str z])) nR)
        exact ⟨_, rfl, _, rfl, F, _, _, 1, rfl, rfl, e89 _ _ fF3, rfl, _, rfl, fin _ a2 R h (wo z k ++ [z]) _ (e37.trans e89) na2 (ext_free (e37.trans e8) nR) nF2.1 (ne_of_none (e8 _ _ fF3) nR).symm (e89 _ _ fa3) (by rw [upd_same, List.map_append]; rfl) rfl ⟨o6.hs, (zo k o6.ks).2, o6.hd, wo_snoc o6.kd⟩⟩
end
end K19
end
section
set_option Elab.async false
set_option autoImplicit false
set_option linter.all false
set_option maxRecDepth 100000
set_option maxHeartbeats 4000000
set_option pp.maxSteps 1500
namespace K19
open PySem PySem.Spec PyProof.Rows L2 Ls
open C8 (pss_cut tCut)
open TL
theorem StAt.updL {CS : Addr} {H : Hp} {a b : Addr} {h k : List Str} {xs : List V} {o : HO} (s : StAt CS H a h k) (hb : H b = some (.lst xs)) : StAt CS (upd H b o) a h k := by
  obtain ⟨dx, t1, t2, h1, h2, h3⟩ := s.ex
  refine ⟨⟨dx, t1, t2, ?_, ?_, ?_⟩, s.oh, s.ok⟩
  · rw [upd_ne (fun z => by rw [z, hb] at h1; cases h1)]; exact h1
  · rw [upd_ne (fun z => by rw [z, hb] at h2; cases h2)]; exact h2
  · rw [upd_ne (fun z => by rw [z, hb] at h3; cases h3)]; exact h3
theorem StAt.keep {CS : Addr} {H H' : Hp} {p c a : Addr} {h k : List Str} {n : Nat} (s : StAt CS H a h k) (hp : PenAt H p c n) (e : Keep p c H H') : StAt CS H' a h k := by
  obtain ⟨ns, x, r, p1, p2, _⟩ := hp
  obtain ⟨dx, t1, t2, h1, h2, h3⟩ := s.ex
  refine ⟨⟨dx, t1, t2, e _ _ h1 ?_ ?_, e _ _ h2 ?_ ?_, e _ _ h3 ?_ ?_⟩, s.oh, s.ok⟩
  · exact fun z => by rw [z, p1] at h1; cases h1
  · exact fun z => by rw [z, p2] at h1; cases h1
  · exact fun z => by rw [z, p1] at h2; cases h2
  · exact fun z => by rw [z, p2] at h2; cases h2
  · exact fun z => by rw [z, p1] at h3; cases h3
  · exact fun z => by rw [z, p2] at h3; cases h3
section
variable {P : Program} {w : World} {K : PySem.W.Frag} {mg : Str → Option Value} {base : Heap} {CE CN CB CW CS : Addr} {tL tN : Tok}
def spMade (CS : Addr) : Sp := fun vs H Q _ => ∃ (p c l a b : Addr) (n : Nat) (h k : List Str), vs = [.ref p, .ref l] ∧ PenAt H p c n ∧ n < 700000 ∧ PartsAt H l a b h k ∧ Off p c l a b ∧ Nm h ∧ Nm k ∧ h.Nodup ∧ k.Nodup ∧ h.length ≤ 60 ∧ k.length ≤ 60 ∧
  ∀ (x : Addr) (u v : List Str) (H' : Hp), Asc h u → Asc k v → StAt CS H' x u v → PenAt H' p c (n + 1) → Keep p c H H' → Q (.ref x) H'
abbrev s__law_made : Stmt := top 26
abbrev N__law_made : List Str := ["_law_pen_here", "_law_parts", "_law_given", "_law_way", "_law_found"]
theorem sc__law_made : FnScope N__law_made ["_law_pen_here", "_law_parts"] (defScope s__law_made) := ⟨rfl, rfl, rfl, by decide +kernel, rfl, by decide +kernel, by decide +kernel⟩
theorem ok_made {f : Addr} {fd : FuncData} (F : Fun K "_law_made" "_law_made" s__law_made f fd) (T : Tx K mg CE CN CB CW CS tL tN) (c__law_draw : Cal P w K mg base CX0 1 "_law_draw" spDraw) (c_Standing : Mkc P w K mg base (L2.CX P w) 4 CS "Standing" (spSt K CN CW CS))
    (c_Standing_stored : MkcN P w K mg base (L2.CX P w) 4 CS "Standing" 1 ["stored"] (fun vs zs => vs ++ zs) (spSt K CN CW CS)) (c_Standing_stored_slots : MkcN P w K mg base (L2.CX P w) 4 CS "Standing" 0 ["stored", "slots"] (fun vs zs => vs ++ zs.reverse) (spSt K CN CW CS)) :
    FnOk P w K mg base CX0 6 f fd ["_law_pen_here", "_law_parts"] (spMade CS) := by
  refine F.ok sc__law_made (fun vs H Q E h => ?_) (fun cdv A outer s H vs Q E hr h => ?_)
  · obtain ⟨p, c, l, a, b, n, h, k, rfl, _⟩ := h
    rfl
  · obtain ⟨p, c, l, a, b, n, h, k, rfl, hp, hn, pa, off, n1, n2, d1, d2, l1, l2, kk⟩ := h
    have h4 : sizeLine = 16777216 := sizeLine_eq
    refine ⟨_, (pss_cons (ps_set (i := 2) sc__law_made.nd rfl (by first | exact Or.inl rfl | exact Or.inr rfl) (pe_lst (pa_cons (pe_callTy call_list_of (by rfl) (T.bn _ (by decide +kernel)) (by decide +kernel) (pa_cons (pe_ix ix_list (pv 1) pe_int (fun _ _ => rfl)) pa_nil)) (pa_cons (pe_callTy call_list_of (by rfl) (T.bn _ (by decide +kernel)) (by decide +kernel) (pa_cons (pe_ix ix_list (pv 1) pe_int (fun _ _ => rfl)) pa_nil)) pa_nil))))
      (pss_cons (ps_set (i := 3) sc__law_made.nd rfl (by first | exact Or.inl rfl | exact Or.inr rfl) (pe_cal c__law_draw (hr.mono (by decide)) (by rfl) pass0 (pa_cons (pv 0) (pa_cons pe_int pa_nil))))
      (pss_cut (ps_if (pt_cmpR op_eq (pv 3) pe_int (nomark _)) (pss_one (ps_set (i := 4) sc__law_made.nd rfl (by first | exact Or.inl rfl | exact Or.inr rfl) (pe_mkc c_Standing (hr.mono (by decide)) (by rfl) passN (pa_cons (pe_ix ix_list (pv 2) pe_int (fun _ _ => rfl)) (pa_cons (pe_ix ix_list (pv 2) pe_int (fun _ _ => rfl)) pa_nil))))) (pss_one (ps_if (pt_cmpR op_eq (pv 3) pe_int (nomark _)) (pss_one (ps_set (i := 4) sc__law_made.nd rfl (by first | exact Or.inl rfl | exact Or.inr rfl) (pe_mkN c_Standing_stored (hr.mono (by decide)) (by rfl) passN (pa_cons (pe_callTy call_tuple_of (by rfl) (T.bn _ (by decide +kernel)) (by decide +kernel) (pa_cons (pe_ix ix_list (pv 2) pe_int (fun _ _ => rfl)) pa_nil)) pa_nil) (pk_cons (pe_ix ix_list (pv 2) pe_int (fun _ _ => rfl)) pk_nil)))) (pss_one (ps_set (i := 4) sc__law_made.nd rfl (by first | exact Or.inl rfl | exact Or.inr rfl) (pe_mkN0 c_Standing_stored_slots (hr.mono (by decide)) (by rfl) passN (pk_cons (pe_callTy call_tuple_of (by rfl) (T.bn _ (by decide +kernel)) (by decide +kernel) (pa_cons (pe_ix ix_list (pv 2) pe_int (fun _ _ => rfl)) pa_nil)) (pk_cons (pe_ix ix_list (pv 2) pe_int (fun _ _ => rfl)) pk_nil))))))))
      (pss_cons (ps_expr (pe_bm PySem.F.plainAttrs_list PySem.F.slot_list_append PySem.F.type_list_append mt_append (pe_ix ix_list (pv 2) pe_int (fun _ _ => rfl)) (pa_cons pe_str pa_nil)))
      (pss_cons (ps_expr (pe_bm0 PySem.F.plainAttrs_list PySem.F.slot_list_clear PySem.F.type_list_clear mt_clear (pe_ix ix_list (pv 2) pe_int (fun _ _ => rfl))))
      (pss_one (ps_ret (pv 4)))))))), ?_⟩
    refine ⟨_, rfl, l, _, 0, _, rfl, rfl, SqL.of pa.l, rfl, a, _, rfl, .inl (SqL.of pa.a), fun a2 na2 => ?_⟩
    have fa := upd_same (H := H) (a := a2) (o := HO.lst (h.map V.str))
    have e4 := Ext.upd (o := HO.lst (h.map V.str)) na2
    generalize (upd H a2 (.lst (h.map V.str))) = H4 at fa e4
    have fa0 := fa
    refine ⟨_, rfl, l, _, 1, _, rfl, rfl, SqL.of (e4 _ _ pa.l), rfl, b, _, rfl, .inl (SqL.of (e4 _ _ pa.b)), fun b2 nb2 => ?_⟩
    have fb := upd_same (H := H4) (a := b2) (o := HO.lst (k.map V.str))
    have e5 := Ext.upd (o := HO.lst (k.map V.str)) nb2
    have fa := e5 _ _ fa
    have nab : a2 ≠ b2 := ne_of_none fa0 nb2
    generalize (upd H4 b2 (.lst (k.map V.str))) = H5 at fa fb e5
    refine ⟨(by show 2 ≤ sizeLine; decide), fun G nG => ?_⟩
    have fG := upd_same (H := H5) (a := G) (o := HO.lst [V.ref a2, V.ref b2])
    have e6 := Ext.upd (o := HO.lst [V.ref a2, V.ref b2]) nG
    have nG2 : a2 ≠ G ∧ b2 ≠ G := ⟨ne_of_none fa nG, ne_of_none fb nG⟩
    have fa := e6 _ _ fa
    have fb := e6 _ _ fb
    have e36 := e4.trans (e5.trans e6)
    have nG3 : H G = none := ext_free (e4.trans e5) nG
    have nb3 : H b2 = none := ext_free e4 nb2
    generalize (upd H5 G (.lst [.ref a2, .ref b2])) = H6 at fa fb fG e6 e36
    have hp6 := hp.ext e36
    obtain ⟨npG, ncG⟩ := hp.ne nG3
    obtain ⟨npa, nca⟩ := hp.ne na2
    obtain ⟨npb, ncb⟩ := hp.ne nb3
    refine ⟨_, rfl, p, c, n, 3, rfl, hp6, by omega, by decide, by decide, fun way H7 w0 w1 hp7 k7 => ?_⟩
    have fa := k7 _ _ fa npa.symm nca.symm
    have fb := k7 _ _ fb npb.symm ncb.symm
    have fG := k7 _ _ fG npG.symm ncG.symm
    have k07 := (Keep.ext e36).trans k7
    refine ⟨fun σ H' => ∃ (x : Addr) (u v : List Str), σ = [some (.ref p), some (.ref l), some (.ref G), some (.int way), some (.ref x)] ∧ Ext H7 H' ∧ Asc h u ∧ Asc k v ∧ StAt CS H' x u v, ?_, ?_⟩
    · refine ⟨_, rfl, rfl, _, rfl, ?_⟩
      by_cases w2 : way = 0
      · refine iteYes (decide_eq_true (by rw [w2])) ?_
        exact ⟨_, rfl, G, _, 0, _, rfl, rfl, SqL.of fG, rfl, _, rfl, G, _, 1, _, rfl, rfl, SqL.of fG, rfl, mk_st (.inl (SqL.of fa)) (.inl (SqL.of fb)) n1 n2 d1 d2 l1 l2 fun u v x H8 au av e8 st => ⟨rfl, x, u, v, rfl, e8, au, av, st⟩⟩
      · refine iteNo (decide_eq_false fun z => w2 (V.int.inj z)) ?_
        refine ⟨_, rfl, rfl, _, rfl, ?_⟩
        by_cases w3 : way = 1
        · refine iteYes (decide_eq_true (by rw [w3])) ?_
          exact ⟨_, rfl, G, _, 0, _, rfl, rfl, SqL.of fG, rfl, a2, _, rfl, .inl ⟨SqL.of fa, fun q nq => ⟨_, rfl, G, _, 1, _, rfl, rfl, SqL.of (at_new nq fG), rfl, rfl, rfl, mk_st (.inr (SqT.of upd_same)) (.inl (SqL.of (at_new nq fb))) n1 n2 d1 d2 l1 l2 fun u v x H8 au av e8 st => ⟨rfl, x, u, v, rfl, (Ext.upd nq).trans e8, au, av, st⟩⟩⟩⟩
        · refine iteNo (decide_eq_false fun z => w3 (V.int.inj z)) ?_
          exact ⟨_, rfl, G, _, 1, _, rfl, rfl, SqL.of fG, rfl, b2, _, rfl, .inl ⟨SqL.of fb, fun q nq => ⟨_, rfl, G, _, 0, _, rfl, rfl, SqL.of (at_new nq fG), rfl, rfl, rfl, mk_st (.inl (SqL.of (at_new nq fa))) (.inr (SqT.of upd_same)) n1 n2 d1 d2 l1 l2 fun u v x H8 au av e8 st => ⟨rfl, x, u, v, rfl, (Ext.upd nq).trans e8, au, av, st⟩⟩⟩⟩
    · rintro σ H8 ⟨x, u, v, rfl, e8, au, av, st⟩
      have fa8 := e8 _ _ fa
      have fb8 := e8 _ _ fb
      have fG8 := e8 _ _ fG
      refine ⟨_, rfl, G, _, 0, _, rfl, rfl, SqL.of fG8, rfl, .inl ⟨rfl, _, SqL.of fa8⟩, a2, _, .str "zz", rfl, rfl, fa8, by rw [List.length_map]; omega, ?_⟩
      have st9 := st.updL (o := .lst (h.map V.str ++ [.str "zz"])) fa8
      have fb9 : (upd H8 a2 (.lst (h.map V.str ++ [.str "zz"]))) b2 = some (.lst (k.map V.str)) := by rw [upd_ne nab.symm]; exact fb8
      have fG9 : (upd H8 a2 (.lst (h.map V.str ++ [.str "zz"]))) G = some (.lst [.ref a2, .ref b2]) := by rw [upd_ne nG2.1.symm]; exact fG8
      refine ⟨_, rfl, G, _, 1, _, rfl, rfl, SqL.of fG9, rfl, .inl ⟨rfl, _, SqL.of fb9⟩, b2, _, rfl, rfl, fb9, ?_⟩
      refine ⟨_, rfl, kk x u v _ au av (st9.updL fb9) (((hp7.ext e8).upd npa nca).upd npb ncb) fun b' o q h1 h2 => ?_⟩
      rw [upd_ne (ne_of_none q nb3), upd_ne (ne_of_none q na2)]
      exact e8 _ _ (k07 _ _ q h1 h2)
end
end K19
end
section
set_option Elab.async false
set_option autoImplicit false
set_option linter.all false
set_option maxRecDepth 100000
set_option maxHeartbeats 4000000
set_option pp.maxSteps 1500
namespace K19
open PySem PySem.Spec PyProof.Rows L2 Ls
open C8 (pss_cut tCut)
open TL
theorem asc_sorted {us ys : List Str} (nd : us.Nodup) (pm : ys.Perm us) (so : sortedS ys = true) : Asc us ys := ⟨pm.nodup_iff.mpr nd, so, fun _ => pm.mem_iff⟩
theorem fm_id (l : List Str) : (l.filterMap fun z => some (V.str z)) = l.map V.str := by simp [List.filterMap_eq_map']
section
variable {P : Program} {w : World} {K : PySem.W.Frag} {mg : Str → Option Value} {base : Heap} {CE CN CB CW CS : Addr} {tL tN : Tok}
/-! ### _law_word, _law_text -/
def spWord : Sp := fun vs H Q _ => ∃ (t : Addr) (us : List Str), vs = [.ref t] ∧ H t = some (.lst (us.map V.str)) ∧ Nm us ∧ us.Nodup ∧ us.length ≤ 60 ∧ ∀ u H', Asc us u → Ext H H' → Q (.str (partT u)) H'
abbrev s__law_word : Stmt := top 27
abbrev N__law_word : List Str := ["_law_part", "_law_name"]
theorem sc__law_word : FnScope N__law_word ["_law_part"] (defScope s__law_word) := ⟨rfl, rfl, rfl, by decide +kernel, rfl, by decide +kernel, by decide +kernel⟩
theorem ok_word {f : Addr} {fd : FuncData} (F : Fun K "_law_word" "_law_word" s__law_word f fd) (T : Tx K mg CE CN CB CW CS tL tN) : FnOk P w K mg base CX0 1 f fd ["_law_part"] spWord := by
  refine F.ok sc__law_word (fun vs H Q E h => ?_) (fun cdv A outer s H vs Q E hr h => ?_)
  · obtain ⟨t, us, rfl, _⟩ := h
    rfl
  · obtain ⟨t, us, rfl, ht, nm, nd, hl, k⟩ := h
    refine ⟨_, (pss_one (ps_ret (pe_ifExp (pt_cmpR (op_neNil hr) (pv 0) (pe_lst pa_nil) (nomark _)) (pe_join pe_str (pe_callB cr_sortedS (by rfl) (T.bn _ (by decide +kernel)) (by decide +kernel) (pa_cons (pe_lc (own := [("_law_name", 1)]) rfl sc__law_word.nd (pi_list (pv 0)) (blkOk_by (own := [("_law_name", 1)]) (N := N__law_word) (sc := defScope s__law_word) (by decide +kernel)) (fun _ _ _ _ _ => (pg_name (i := 1) sc__law_word.nd rfl (by first | exact Or.inl rfl | exact Or.inr rfl))) (fun _ _ _ _ _ => pts_nil) (fun _ _ _ _ _ => (pe_callTy SkE.call_str_str (by rfl) (T.bn _ (by decide +kernel)) (by decide +kernel) (pa_cons (pv 1) pa_nil)))) pa_nil))) pe_str))), ?_⟩
    refine ⟨_, rfl, (by show 0 ≤ sizeLine; decide), fun b nb => ?_⟩
    have e1 := Ext.upd (o := HO.lst []) nb
    refine ⟨t, b, us.map V.str, rfl, rfl, at_new nb ht, upd_same, _, rfl, ?_⟩
    have ht1 := at_new (o' := HO.lst []) nb ht
    generalize (upd H b (.lst [])) = H1 at e1 ht1
    by_cases he : us = []
    · subst he
      have := k [] H1 ⟨.nil, rfl, fun _ => Iff.rfl⟩ e1
      rw [partT_nil] at this
      exact iteNo rfl this
    refine iteYes (by cases us with | nil => exact absurd rfl he | cons a r => rfl) ?_
    refine ⟨⟨_, rfl⟩, _, rfl, t, rfl, ⟨_, SqL.of ht1⟩, fun D hD => ?_⟩
    refine lc_strs walk_list (fun z => some (.str z)) (by omega) (fun l => SqL.of (at_new hD ht1)) (fun i z l C' N hz hC hN => ⟨rfl, _, rfl, _, rfl, hC _ rfl⟩) ?_
    rw [fm_id]
    have e2 := Ext.upd (o := HO.lst (us.map V.str)) hD
    refine ⟨D, us, rfl, SqL.of upd_same, by omega, fun ys p pm so np => ?_⟩
    have ay := asc_sorted nd pm so
    have oy := ay.okL nm hl
    have yne : ys ≠ [] := fun e => he (List.eq_nil_of_length_eq_zero (by rw [← pm.length_eq, e]; rfl))
    refine ⟨_, p, ys, rfl, rfl, .inl (SqL.of upd_same), join_fit oy.nm oy.2.2, ?_⟩
    rw [← partT_cons yne]
    exact k ys _ ay (e1.trans (e2.trans (Ext.upd np)))
def spText : Sp := fun vs H Q _ => ∃ (l a b : Addr) (h k : List Str), vs = [.ref l] ∧ PartsAt H l a b h k ∧ Nm h ∧ Nm k ∧ h.Nodup ∧ k.Nodup ∧ h.length ≤ 60 ∧ k.length ≤ 60 ∧ ∀ u v H', Asc h u → Asc k v → Ext H H' → Q (.str (textOf u v)) H'
abbrev s__law_text : Stmt := top 28
abbrev N__law_text : List Str := ["_law_parts"]
theorem sc__law_text : FnScope N__law_text ["_law_parts"] (defScope s__law_text) := ⟨rfl, rfl, rfl, by decide +kernel, rfl, by decide +kernel, by decide +kernel⟩
theorem ok_text {f : Addr} {fd : FuncData} (F : Fun K "_law_text" "_law_text" s__law_text f fd) (T : Tx K mg CE CN CB CW CS tL tN) (c__law_word : Cal P w K mg base CX0 1 "_law_word" spWord) : FnOk P w K mg base CX0 2 f fd ["_law_parts"] spText := by
  refine F.ok sc__law_text (fun vs H Q E h => ?_) (fun cdv A outer s H vs Q E hr h => ?_)
  · obtain ⟨l, a, b, h, k, rfl, _⟩ := h
    rfl
  · obtain ⟨l, a, b, h, k, rfl, pa, n1, n2, d1, d2, l1, l2, kk⟩ := h
    have h4 : sizeLine = 16777216 := sizeLine_eq
    have b3 : (" / " : Str).length = 3 := by decide +kernel
    refine ⟨_, (pss_one (ps_ret (pe_op op_add_str (pe_op op_add_str (pe_cal c__law_word (hr.mono (by decide)) (by rfl) pass0 (pa_cons (pe_ix ix_list (pv 0) pe_int (fun _ _ => rfl)) pa_nil)) pe_str) (pe_cal c__law_word (hr.mono (by decide)) (by rfl) pass0 (pa_cons (pe_ix ix_list (pv 0) pe_int (fun _ _ => rfl)) pa_nil))))), ?_⟩
    refine ⟨_, rfl, l, _, 0, _, rfl, rfl, SqL.of pa.l, rfl, a, h, rfl, pa.a, n1, d1, l1, fun u H1 au e1 => ?_⟩
    have ou := au.okL n1 l1
    have lu := partT_len ou.nm ou.2.2
    refine ⟨_, _, rfl, rfl, by omega, _, rfl, l, _, 1, _, rfl, rfl, SqL.of (e1 _ _ pa.l), rfl, b, k, rfl, e1 _ _ pa.b, n2, d2, l2, fun v H2 av e2 => ?_⟩
    have ov := av.okL n2 l2
    have lv := partT_len ov.nm ov.2.2
    refine ⟨_, _, rfl, rfl, ?_, kk u v H2 au av (e1.trans e2)⟩
    rw [Str.length_append]
    omega
/-! ### _law_is_under -/
def spUnder : Sp := fun vs H Q _ => ∃ (l a b m c d : Addr) (h k h' k' : List Str), vs = [.ref l, .ref m] ∧ PartsAt H l a b h k ∧ PartsAt H m c d h' k' ∧ h.length ≤ 60 ∧ k.length ≤ 60 ∧ ∀ H', Ext H H' → Q (.bl (decide ((∀ z ∈ h, z ∈ h') ∧ ∀ z ∈ k, z ∈ k'))) H'
abbrev s__law_is_under : Stmt := top 30
abbrev N__law_is_under : List Str := ["_law_one", "_law_other", "_law_first", "_law_name"]
theorem sc__law_is_under : FnScope N__law_is_under ["_law_one", "_law_other"] (defScope s__law_is_under) := ⟨rfl, rfl, rfl, by decide +kernel, rfl, by decide +kernel, by decide +kernel⟩
theorem ok_under {f : Addr} {fd : FuncData} (F : Fun K "_law_is_under" "_law_is_under" s__law_is_under f fd) (T : Tx K mg CE CN CB CW CS tL tN) : FnOk P w K mg base CX0 1 f fd ["_law_one", "_law_other"] spUnder := by
  refine F.ok sc__law_is_under (fun vs H Q E h => ?_) (fun cdv A outer s H vs Q E hr h => ?_)
  · obtain ⟨l, a, b, m, c, d, h, k, h', k', rfl, _⟩ := h
    rfl
  · obtain ⟨l, a, b, m, c, d, h, k, h', k', rfl, pa, pb, l1, l2, kk⟩ := h
    refine ⟨_, (pss_cons (ps_setLc (i := 2) (own := [("_law_name", 3)]) rfl sc__law_is_under.nd rfl rfl (sw_true rfl rfl rfl (by decide +kernel)) (pi_list (pe_ix ix_list (pv 0) pe_int (fun _ _ => rfl))) (blkOk_by (own := [("_law_name", 3)]) (N := N__law_is_under) (sc := defScope s__law_is_under) (by decide +kernel)) (fun _ _ _ _ _ => (pg_name (i := 3) sc__law_is_under.nd rfl (by first | exact Or.inl rfl | exact Or.inr rfl))) (fun _ _ _ _ _ => pts_one (pt_cmpR (op_notIn_seqK (K := K) rfl) (pv 3) (pe_ix (ix_listK (K := K) rfl) (pv 1) pe_int (fun _ _ => rfl)) rfl)) (fun _ _ _ _ _ => (pv 3)))
      (pss_one (ps_ret (pe_and (pe_cmpR (op_eqNil hr) (pv 2) (pe_lst pa_nil) (nomark _)) (pe_one (pe_cmpR (op_eqNil hr) (pe_lc (own := [("_law_name", 3)]) rfl sc__law_is_under.nd (pi_list (pe_ix ix_list (pv 0) pe_int (fun _ _ => rfl))) (blkOk_by (own := [("_law_name", 3)]) (N := N__law_is_under) (sc := defScope s__law_is_under) (by decide +kernel)) (fun _ _ _ _ _ => (pg_name (i := 3) sc__law_is_under.nd rfl (by first | exact Or.inl rfl | exact Or.inr rfl))) (fun _ _ _ _ _ => pts_one (pt_cmpR (op_notIn_seqK (K := K) rfl) (pv 3) (pe_ix (ix_listK (K := K) rfl) (pv 1) pe_int (fun _ _ => rfl)) rfl)) (fun _ _ _ _ _ => (pv 3))) (pe_lst pa_nil) (nomark _))))))), ?_⟩
    refine ⟨_, rfl, l, _, 0, _, rfl, rfl, SqL.of pa.l, rfl, a, rfl, ⟨_, SqL.of pa.a⟩, fun D hD => ?_⟩
    have fmu : ∀ l m : List Str, (l.filterMap fun z => if z ∈ m then none else some (V.str z)) = (l.filter fun z => !decide (z ∈ m)).map V.str := fun l m => by
      induction l with
      | nil => rfl
      | cons z r ih => by_cases hz : z ∈ m <;> simp [List.filterMap_cons, List.filter_cons, hz] <;> simpa using ih
    have fe : ∀ l m : List Str, ((l.filter fun z => !decide (z ∈ m)).map V.str).isEmpty = decide (∀ z ∈ l, z ∈ m) := fun l m => by
      rw [Bool.eq_iff_iff]
      simp
    refine lc_strs walk_list (fun z => if z ∈ h' then none else some (.str z)) (by omega) (fun l => SqL.of (at_new hD pa.a)) (fun i z l' C' N hz hC hN => ?_) ?_
    · refine ⟨rfl, _, rfl, _, rfl, m, _, 0, _, rfl, rfl, SqL.of (at_new hD pb.l), rfl, c, _, rfl, .inl (SqL.of (at_new hD pb.a)), rfl, flat_strs _, ?_⟩
      rw [inV_strs]
      by_cases hm : z ∈ h'
      · exact ⟨_, rfl, iteNo (by rw [decide_eq_true hm]; rfl) (hN (if_pos hm))⟩
      · exact ⟨_, rfl, iteYes (by rw [decide_eq_false hm]; rfl) ⟨_, rfl, hC _ (if_neg hm)⟩⟩
    rw [fmu]
    have e1 := Ext.upd (o := HO.lst ((h.filter fun z => !decide (z ∈ h')).map V.str)) hD
    have f1 : (upd H D (.lst ((h.filter fun z => !decide (z ∈ h')).map V.str))) D = some (.lst ((h.filter fun z => !decide (z ∈ h')).map V.str)) := upd_same
    generalize (upd H D (.lst ((h.filter fun z => !decide (z ∈ h')).map V.str))) = H1 at e1 f1
    refine ⟨_, rfl, (by show 0 ≤ sizeLine; decide), fun x1 nx1 => ?_⟩
    refine ⟨D, x1, _, rfl, rfl, at_new nx1 f1, upd_same, _, rfl, ?_⟩
    rw [fe]
    have e2 := e1.trans (Ext.upd (o := HO.lst []) nx1)
    generalize (upd H1 x1 (.lst [])) = H2 at e2
    have pa2 := pa.ext e2
    have pb2 := pb.ext e2
    by_cases c1 : ∀ z ∈ h, z ∈ h'
    case neg =>
      have q := kk H2 e2
      rw [decide_eq_false fun z => c1 z.1] at q
      exact iteNo (decide_eq_false c1) q
    refine iteYes (decide_eq_true c1) ?_
    refine ⟨_, rfl, l, _, 1, _, rfl, rfl, SqL.of pa2.l, rfl, b, rfl, ⟨_, SqL.of pa2.b⟩, fun D2 hD2 => ?_⟩
    refine lc_strs walk_list (fun z => if z ∈ k' then none else some (.str z)) (by omega) (fun l => SqL.of (at_new hD2 pa2.b)) (fun i z l' C' N hz hC hN => ?_) ?_
    · refine ⟨rfl, _, rfl, _, rfl, m, _, 1, _, rfl, rfl, SqL.of (at_new hD2 pb2.l), rfl, d, _, rfl, .inl (SqL.of (at_new hD2 pb2.b)), rfl, flat_strs _, ?_⟩
      rw [inV_strs]
      by_cases hm : z ∈ k'
      · exact ⟨_, rfl, iteNo (by rw [decide_eq_true hm]; rfl) (hN (if_pos hm))⟩
      · exact ⟨_, rfl, iteYes (by rw [decide_eq_false hm]; rfl) ⟨_, rfl, hC _ (if_neg hm)⟩⟩
    rw [fmu]
    have e3 := Ext.upd (o := HO.lst ((k.filter fun z => !decide (z ∈ k')).map V.str)) hD2
    refine ⟨(by show 0 ≤ sizeLine; decide), fun x2 nx2 => ?_⟩
    refine ⟨D2, x2, _, rfl, rfl, at_new nx2 upd_same, upd_same, ?_⟩
    rw [fe]
    have q := kk _ (e2.trans (e3.trans (Ext.upd (o := HO.lst []) nx2)))
    rw [decide_eq_decide.mpr (show ((∀ z ∈ h, z ∈ h') ∧ ∀ z ∈ k, z ∈ k') ↔ ∀ z ∈ k, z ∈ k' from ⟨fun z => z.2, fun z => ⟨c1, z⟩⟩)] at q
    exact q
end
end K19
end
section
set_option Elab.async false
set_option autoImplicit false
set_option linter.all false
set_option maxRecDepth 100000
set_option maxHeartbeats 4000000
set_option pp.maxSteps 1500
namespace K19
open PySem PySem.Spec PyProof.Rows L2 Ls
open C8 (pss_cut tCut)
open TL
theorem ok_nameS {z : Str} (h : isName z = true) : OkS 6 z := ⟨(name_len h).2, fun c hc => lt_256 c (name_sub h c hc)⟩
theorem partT_le {l : List Str} (h : Nm l) : (partT l).length ≤ 7 * (l.length + 1) := by
  rw [len_tl, tl_partT]
  have go : ∀ r : List (List Nat), (∀ p ∈ r, p.length ≤ 6) → (joinL [32] r).length ≤ r.length * 7 := fun r => by
    induction r with
    | nil => intro _; exact Nat.zero_le _
    | cons a r ih =>
      intro h
      have h1 := h a (by simp)
      have h2 := ih fun p hp => h p (List.mem_cons_of_mem _ hp)
      by_cases e : r = []
      · subst e
        show a.length ≤ _
        simp only [List.length_cons, List.length_nil]
        omega
      · rw [joinL_cons _ _ e, List.length_append, List.length_append, List.length_cons]
        simp only [List.length_cons, List.length_nil]
        omega
  have h1 : (wl l).length ≤ l.length + 1 := by
    by_cases e : l = []
    · rw [e, wl_nil]; decide
    · rw [wl_cons e]; omega
  have := go ((wl l).map tl) fun p hp => by
    obtain ⟨z, hz, rfl⟩ := List.mem_map.mp hp
    rw [← len_tl]
    exact wl_len h z hz
  rw [List.length_map] at this
  omega
theorem partT_256 {l : List Str} (h : Nm l) : ∀ c ∈ tl (partT l), c < 256 := fun c hc => by
  rw [tl_partT] at hc
  rcases joinL_mem hc with hc | ⟨p, hp, hc⟩
  · rw [List.mem_singleton.mp hc]; decide
  · obtain ⟨z, hz, rfl⟩ := List.mem_map.mp hp
    rcases wl_mem hz with rfl | hz
    · rw [dash_tl] at hc
      rw [List.mem_singleton.mp hc]; decide
    · exact (ok_nameS (h z hz)).2 c hc
theorem text_ok {u v : List Str} (n1 : Nm u) (n2 : Nm v) (l1 : u.length ≤ 7) (l2 : v.length ≤ 7) : OkS 120 (textOf u v) := by
  have h1 := partT_le n1
  have h2 := partT_le n2
  have h3 : (" / " : Str).length = 3 := by decide +kernel
  refine ⟨?_, fun c hc => ?_⟩
  · unfold textOf
    rw [Str.length_append, Str.length_append]
    omega
  · unfold textOf at hc
    rw [tl_append, tl_append, mid_tl] at hc
    rcases List.mem_append.mp hc with hc | hc
    · rcases List.mem_append.mp hc with hc | hc
      · exact partT_256 n1 c hc
      · simp only [List.mem_cons, List.not_mem_nil, or_false] at hc
        rcases hc with rfl | rfl | rfl <;> decide
    · exact partT_256 n2 c hc
theorem shw_names {l : List Str} (h : Nm l) (hl : l.length ≤ 14) : Shw 1000 (.tuple (l.map .str)) := by
  have := Shw.tupN (n := 62) (k := 0) (ds := l.map .str) (fun d hd => by
    obtain ⟨z, hz, rfl⟩ := List.mem_map.mp hd
    exact Shw.str (ok_nameS (h z hz))) (fun d hd => by
    obtain ⟨z, hz, rfl⟩ := List.mem_map.mp hd
    exact Nat.le_refl _) (by decide)
  refine this.mono ?_
  rw [List.length_map]
  omega
/-- all that a standing tells -/
def toldD (u v ns : List Str) : PyData := .list [.tuple (u.map .str), .tuple (v.map .str), .tuple (ns.map .str), .str (textOf u v)]
theorem told_shw {u v ns : List Str} (n1 : Nm u) (n2 : Nm v) (n3 : Nm ns) (l1 : u.length ≤ 7) (l2 : v.length ≤ 7) (l3 : ns.length ≤ 14) : Shw 10000 (toldD u v ns) := by
  have dt : ∀ l : List Str, (PyData.tuple (l.map .str)).depth ≤ 1 := fun l => depth_tup fun d hd => by
    obtain ⟨z, hz, rfl⟩ := List.mem_map.mp hd
    exact Nat.le_refl _
  have := Shw.listN (n := 2000) (k := 1) (ds := [.tuple (u.map .str), .tuple (v.map .str), .tuple (ns.map .str), .str (textOf u v)]) (fun d hd => by
    simp only [List.mem_cons, List.not_mem_nil, or_false] at hd
    rcases hd with rfl | rfl | rfl | rfl
    · exact (shw_names n1 (by omega)).mono (by decide)
    · exact (shw_names n2 (by omega)).mono (by decide)
    · exact (shw_names n3 (by omega)).mono (by decide)
    · exact (Shw.str (text_ok n1 n2 l1 l2)).mono (by decide)) (fun d hd => by
    simp only [List.mem_cons, List.not_mem_nil, or_false] at hd
    rcases hd with rfl | rfl | rfl | rfl
    · exact dt _
    · exact dt _
    · exact dt _
    · exact Nat.zero_le _) (by decide)
  exact this.mono (show 4 * 2000 + 2 * 4 + 3 ≤ 10000 by decide)
theorem told_tv {H : Hp} {L a b c : Addr} {u v ns : List Str} {z : Str} (hL : H L = some (.lst [.ref a, .ref b, .ref c, .str z])) (ha : H a = some (.tup (u.map V.str))) (hb : H b = some (.tup (v.map V.str))) (hc : H c = some (.tup (ns.map V.str))) (hz : z = textOf u v) : TV H (.ref L) (toldD u v ns) := by
  subst hz
  exact .lst hL (.cons (.tup ha (tvs_strs _)) (.cons (.tup hb (tvs_strs _)) (.cons (.tup hc (tvs_strs _)) (.cons (.str _) .nil))))
theorem has_no {u v : List Str} {z : Str} (n1 : Nm u) (n2 : Nm v) (h : isName z = false) : hasD u v (.str z) = false := decide_eq_false fun hz => by
  have h1 : isName z = true := hz.elim (n1 z) (n2 z)
  rw [h] at h1
  cases h1
theorem text_no (u v : List Str) : isName (textOf u v) = false := by
  refine Bool.eq_false_iff.mpr fun h => ?_
  refine name_no h lt_no47 ?_
  unfold textOf
  rw [tl_append, tl_append, mid_tl]
  simp
theorem text_cnt {u v : List Str} (n1 : Nm u) (n2 : Nm v) (l1 : u.length ≤ 7) (l2 : v.length ≤ 7) : (tl (textOf u v)).count 32 ≤ 20 := by
  have e := split_count (textOf u v)
  rw [textOf_words n1 n2, List.length_append, List.length_cons] at e
  have h : ∀ l : List Str, l.length ≤ 7 → (wl l).length ≤ 7 := fun l hl => by
    by_cases e : l = []
    · rw [e, wl_nil]; decide
    · rw [wl_cons e]; exact hl
  have := h u l1
  have := h v l2
  omega
section
variable {P : Program} {w : World} {K : PySem.W.Frag} {mg : Str → Option Value} {base : Heap} {CE CN CB CW CS : Addr} {tL tN : Tok}
/-! ### _law_told_right -/
def spTR (CS : Addr) : Sp := fun vs H Q _ => ∃ (s l a b : Addr) (h k u v : List Str), vs = [.ref s, .ref l] ∧ StAt CS H s u v ∧ PartsAt H l a b h k ∧ Asc h u ∧ Asc k v ∧ Nm h ∧ Nm k ∧ h.Nodup ∧ k.Nodup ∧ h.length ≤ 6 ∧ k.length ≤ 6 ∧ ∀ H', Ext H H' → Q (.bl true) H'
abbrev s__law_told_right : Stmt := top 29
abbrev N__law_told_right : List Str := ["_law_standing", "_law_parts", "_law_held", "_law_kept", "_law_one", "_law_both", "_law_told", "_law_name", "_law_odd", "_law_again"]
theorem sc__law_told_right : FnScope N__law_told_right ["_law_standing", "_law_parts"] (defScope s__law_told_right) := ⟨rfl, rfl, rfl, by decide +kernel, rfl, by decide +kernel, by decide +kernel⟩
theorem ok_tr {f fE fT fH : Addr} {fd : FuncData} (F : Fun K "_law_told_right" "_law_told_right" s__law_told_right f fd) (T : Tx K mg CE CN CB CW CS tL tN) (C : ClS K CS fE) (hsys : (base.get? sysModules).isSome = true)
    (c_slots : Prp P w K mg base CX0 1 (· = CS) "slots" (spHeld CS)) (c_stored : Prp P w K mg base CX0 1 (· = CS) "stored" (spKept CS)) (c_names : Prp P w K mg base CX0 2 (· = CS) "names" (spNames CS))
    (aT : PySem.W.findIn K (.ref CS) "__str__" = some (some (.ref fT))) (hfs : PySem.W.isFn K (.ref fT) = true) (rStr : FnR P w K mg base CX0 3 fT (spStr CS)) (hfe : PySem.W.isFn K (.ref fE) = true) (rE : FnR P w K mg base CX0 2 fE (spEq K CS))
    (aH : PySem.W.findIn K (.ref CS) "__contains__" = some (some (.ref fH))) (hfh : PySem.W.isFn K (.ref fH) = true) (rHas : FnR P w K mg base CX0 4 fH (spHas CS)) (c__law_text : Cal P w K mg base CX0 2 "_law_text" spText)
    (c_Standing_read : Clm P w K mg base (L2.CX P w) 6 CS "read" (spRead CB CS)) : FnG P w K mg base CX0 8 f fd ["_law_standing", "_law_parts"] (spTR CS) := by
  refine okG F sc__law_told_right (fun vs H Q E h => ?_) (fun cdv A outer s0 H vs Q E hcd hgd hr h => ?_)
  · obtain ⟨s, l, a, b, h, k, u, v, rfl, _⟩ := h
    rfl
  · obtain ⟨s, l, a, b, h, k, u, v, rfl, st, pa, au, av, n1, n2, d1, d2, l1, l2, kk⟩ := h
    have h4 : sizeLine = 16777216 := sizeLine_eq
    refine ⟨_, (pss_cons (ps_par (i := 2) (j := 3) rfl sc__law_told_right.nd rfl rfl (by decide) rfl rfl (pa_cons (pe_callB cr_sortedS (by rfl) (T.bn _ (by decide +kernel)) (by decide +kernel) (pa_cons (pe_lc (own := [("_law_one", 4)]) rfl sc__law_told_right.nd (pi_list (pe_ix ix_list (pv 1) pe_int (fun _ _ => rfl))) (blkOk_by (own := [("_law_one", 4)]) (N := N__law_told_right) (sc := defScope s__law_told_right) (by decide +kernel)) (fun _ _ _ _ _ => (pg_name (i := 4) sc__law_told_right.nd rfl (by first | exact Or.inl rfl | exact Or.inr rfl))) (fun _ _ _ _ _ => pts_nil) (fun _ _ _ _ _ => (pe_callTy SkE.call_str_str (by rfl) (T.bn _ (by decide +kernel)) (by decide +kernel) (pa_cons (pv 4) pa_nil)))) pa_nil)) (pa_cons (pe_callB cr_sortedS (by rfl) (T.bn _ (by decide +kernel)) (by decide +kernel) (pa_cons (pe_lc (own := [("_law_one", 4)]) rfl sc__law_told_right.nd (pi_list (pe_ix ix_list (pv 1) pe_int (fun _ _ => rfl))) (blkOk_by (own := [("_law_one", 4)]) (N := N__law_told_right) (sc := defScope s__law_told_right) (by decide +kernel)) (fun _ _ _ _ _ => (pg_name (i := 4) sc__law_told_right.nd rfl (by first | exact Or.inl rfl | exact Or.inr rfl))) (fun _ _ _ _ _ => pts_nil) (fun _ _ _ _ _ => (pe_callTy SkE.call_str_str (by rfl) (T.bn _ (by decide +kernel)) (by decide +kernel) (pa_cons (pv 4) pa_nil)))) pa_nil)) pa_nil)) (by rfl))
      (pss_cons (ps_set (i := 5) sc__law_told_right.nd rfl (by first | exact Or.inl rfl | exact Or.inr rfl) (pe_callB (cr_sortT rfl) (by rfl) (T.bn _ (by decide +kernel)) (by decide +kernel) (pa_cons (pe_callTy (cr_setT rfl) (by rfl) (T.bn _ (by decide +kernel)) (by decide +kernel) (pa_cons (pe_lc (own := [("_law_one", 4)]) rfl sc__law_told_right.nd (pi_list (pe_op op_cat (pe_ix ix_list (pv 1) pe_int (fun _ _ => rfl)) (pe_ix ix_list (pv 1) pe_int (fun _ _ => rfl)))) (blkOk_by (own := [("_law_one", 4)]) (N := N__law_told_right) (sc := defScope s__law_told_right) (by decide +kernel)) (fun _ _ _ _ _ => (pg_name (i := 4) sc__law_told_right.nd rfl (by first | exact Or.inl rfl | exact Or.inr rfl))) (fun _ _ _ _ _ => pts_nil) (fun _ _ _ _ _ => (pe_callTy SkE.call_str_str (by rfl) (T.bn _ (by decide +kernel)) (by decide +kernel) (pa_cons (pv 4) pa_nil)))) pa_nil)) pa_nil)))
      (pss_cons (ps_set (i := 6) sc__law_told_right.nd rfl (by first | exact Or.inl rfl | exact Or.inr rfl) (pe_lst (pa_cons ((pe_prp c_slots (hr.mono (by decide)) pass0) (pv 0)) (pa_cons ((pe_prp c_stored (hr.mono (by decide)) pass0) (pv 0)) (pa_cons ((pe_prp c_names (hr.mono (by decide)) pass0) (pv 0)) (pa_cons (pe_callTy (call_strOwn hfs rStr (hr.mono (by decide)) pass0) (by rfl) (T.bn _ (by decide +kernel)) (by decide +kernel) (pa_cons (pv 0) pa_nil)) pa_nil))))))
      (pss_cons (ps_if (pt_cmpR op_ne (pe_callB (call_repr hgd hr hsys) (by rfl) (T.bn _ (by decide +kernel)) (by decide +kernel) (pa_cons (pv 6) pa_nil)) (pe_callB (call_repr hgd hr hsys) (by rfl) (T.bn _ (by decide +kernel)) (by decide +kernel) (pa_cons (pe_lst (pa_cons (pe_callTy call_tuple_of (by rfl) (T.bn _ (by decide +kernel)) (by decide +kernel) (pa_cons (pv 2) pa_nil)) (pa_cons (pe_callTy call_tuple_of (by rfl) (T.bn _ (by decide +kernel)) (by decide +kernel) (pa_cons (pv 3) pa_nil)) (pa_cons (pe_callTy call_tuple_of (by rfl) (T.bn _ (by decide +kernel)) (by decide +kernel) (pa_cons (pv 5) pa_nil)) (pa_cons (pe_cal c__law_text (hr.mono (by decide)) (by rfl) pass0 (pa_cons (pv 1) pa_nil)) pa_nil))))) pa_nil)) (nomark _)) (pss_one (ps_ret pe_bl)) pss_nil)
      (pss_cons (ps_if (pt_cmpR (op_neNil hr) (pe_lc (own := [("_law_name", 7)]) rfl sc__law_told_right.nd (pi_list (pv 5)) (blkOk_by (own := [("_law_name", 7)]) (N := N__law_told_right) (sc := defScope s__law_told_right) (by decide +kernel)) (fun _ _ _ _ _ => (pg_name (i := 7) sc__law_told_right.nd rfl (by first | exact Or.inl rfl | exact Or.inr rfl))) (fun _ _ _ _ _ => pts_one (pt_cmpR (op_notInOK rHas hfh (hr.mono (by decide)) rfl rfl rfl rfl rfl rfl pass0) (pv 7) (pv 0) rfl)) (fun _ _ _ _ _ => (pv 7))) (pe_lst pa_nil) (nomark _)) (pss_one (ps_ret pe_bl)) pss_nil)
      (pss_cons (ps_set (i := 8) sc__law_told_right.nd rfl (by first | exact Or.inl rfl | exact Or.inr rfl) (pe_lst (pa_cons pe_non (pa_cons pe_bl (pa_cons pe_int (pa_cons pe_str (pa_cons pe_str (pa_cons pe_str (pa_cons pe_str (pa_cons (pe_lst (pa_cons pe_str pa_nil)) (pa_cons (pe_slice sl_list (pe_op op_cat (pv 5) (pe_lst (pa_cons pe_str pa_nil))) po_none (po_some pe_int)) (pa_cons (pe_callTy call_tuple_of (by rfl) (T.bn _ (by decide +kernel)) (by decide +kernel) (pa_cons (pv 5) pa_nil)) (pa_cons (pe_callTy (call_strOwn hfs rStr (hr.mono (by decide)) pass0) (by rfl) (T.bn _ (by decide +kernel)) (by decide +kernel) (pa_cons (pv 0) pa_nil)) (pa_cons pe_str pa_nil))))))))))))))
      (pss_cons (ps_if (pt_cmpR (op_neNil hr) (pe_lc (own := [("_law_one", 4)]) rfl sc__law_told_right.nd (pi_list (pv 8)) (blkOk_by (own := [("_law_one", 4)]) (N := N__law_told_right) (sc := defScope s__law_told_right) (by decide +kernel)) (fun _ _ _ _ _ => (pg_name (i := 4) sc__law_told_right.nd rfl (by first | exact Or.inl rfl | exact Or.inr rfl))) (fun _ _ _ _ _ => pts_one (pt_cmpR (op_inOK rHas hfh (hr.mono (by decide)) rfl rfl rfl rfl rfl rfl pass0) (pv 4) (pv 0) rfl)) (fun _ _ _ _ _ => (pv 4))) (pe_lst pa_nil) (nomark _)) (pss_one (ps_ret pe_bl)) pss_nil)
      (pss_cons (ps_set (i := 9) sc__law_told_right.nd rfl (by first | exact Or.inl rfl | exact Or.inr rfl) (pe_clm c_Standing_read (hr.mono (by decide)) (pe_gref (by rfl) T.m_Standing) passN (pa_cons (pe_callTy (call_strOwn hfs rStr (hr.mono (by decide)) pass0) (by rfl) (T.bn _ (by decide +kernel)) (by decide +kernel) (pa_cons (pv 0) pa_nil)) pa_nil)))
      (pss_one (ps_ret (pe_and (pe_cmpR (op_eqO rE hfe (hr.mono (by decide)) pass0) (pv 9) (pv 0) (nomark _)) (pe_and (pe_cmpR (op_eqD hr.units) ((pe_prp c_slots (hr.mono (by decide)) pass0) (pv 9)) ((pe_prp c_slots (hr.mono (by decide)) pass0) (pv 0)) (nomark _)) (pe_one (pe_cmpR (op_eqD hr.units) ((pe_prp c_stored (hr.mono (by decide)) pass0) (pv 9)) ((pe_prp c_stored (hr.mono (by decide)) pass0) (pv 0)) (nomark _))))))))))))))), ?_⟩
    obtain ⟨dx, t1, t2, q1, q2, q3⟩ := st.ex
    refine ⟨_, rfl, l, _, 0, _, rfl, rfl, SqL.of pa.l, rfl, a, rfl, ⟨_, SqL.of pa.a⟩, fun D hD => ?_⟩
    refine lc_strs walk_list (fun z => some (.str z)) (by omega) (fun l => SqL.of (at_new hD pa.a)) (fun i z l C' N hz hC hN => ⟨rfl, _, rfl, _, rfl, hC _ rfl⟩) ?_
    rw [fm_id]
    have e1 := Ext.upd (o := HO.lst (h.map V.str)) hD
    refine ⟨D, h, rfl, SqL.of upd_same, by omega, fun u' p pm so np => ?_⟩
    have eu := (asc_sorted d1 pm so).uniq au fun _ => Iff.rfl
    subst eu
    have e2 := e1.trans (Ext.upd (o := HO.lst (u'.map V.str)) np)
    have fp : (upd (upd H D (.lst (h.map V.str))) p (.lst (u'.map V.str))) p = some (.lst (u'.map V.str)) := upd_same
    generalize (upd (upd H D (.lst (h.map V.str))) p (.lst (u'.map V.str))) = H2 at e2 fp
    have pa2 := pa.ext e2
    refine ⟨_, rfl, l, _, 1, _, rfl, rfl, SqL.of pa2.l, rfl, b, rfl, ⟨_, SqL.of pa2.b⟩, fun D2 hD2 => ?_⟩
    refine lc_strs walk_list (fun z => some (.str z)) (by omega) (fun l => SqL.of (at_new hD2 pa2.b)) (fun i z l C' N hz hC hN => ⟨rfl, _, rfl, _, rfl, hC _ rfl⟩) ?_
    rw [fm_id]
    have e3 := Ext.upd (o := HO.lst (k.map V.str)) hD2
    refine ⟨D2, k, rfl, SqL.of upd_same, by omega, fun v' q pm' so' nq => ?_⟩
    have ev := (asc_sorted d2 pm' so').uniq av fun _ => Iff.rfl
    subst ev
    have e4 := e2.trans (e3.trans (Ext.upd (o := HO.lst (v'.map V.str)) nq))
    have fp4 := at_new (o' := HO.lst (v'.map V.str)) nq (e3 _ _ fp)
    have fq4 : (upd (upd H2 D2 (.lst (k.map V.str))) q (.lst (v'.map V.str))) q = some (.lst (v'.map V.str)) := upd_same
    generalize (upd (upd H2 D2 (.lst (k.map V.str))) q (.lst (v'.map V.str))) = H4 at e4 fp4 fq4
    have pa4 := pa.ext e4
    refine ⟨_, _, rfl, ?_⟩
    have lu := au.len
    have lv := av.len
    refine ⟨_, rfl, l, _, 0, _, rfl, rfl, SqL.of pa4.l, rfl, _, rfl, l, _, 1, _, rfl, rfl, SqL.of pa4.l, rfl, a, b, _, _, rfl, rfl, pa4.a, pa4.b, by rw [List.length_map, List.length_map]; omega, fun X nX => ?_⟩
    rw [← List.map_append]
    have e5 := e4.trans (Ext.upd (o := HO.lst ((h ++ k).map V.str)) nX)
    have fp5 := at_new (o' := HO.lst ((h ++ k).map V.str)) nX fp4
    have fq5 := at_new (o' := HO.lst ((h ++ k).map V.str)) nX fq4
    have fX : (upd H4 X (.lst ((h ++ k).map V.str))) X = some (.lst ((h ++ k).map V.str)) := upd_same
    generalize (upd H4 X (.lst ((h ++ k).map V.str))) = H5 at e5 fp5 fq5 fX
    have lhk : (h ++ k).length ≤ 12 := by rw [List.length_append]; omega
    refine ⟨X, rfl, ⟨_, SqL.of fX⟩, fun D3 hD3 => ?_⟩
    refine lc_strs walk_list (fun z => some (.str z)) (by omega) (fun l => SqL.of (at_new hD3 fX)) (fun i z l C' N hz hC hN => ⟨rfl, _, rfl, _, rfl, hC _ rfl⟩) ?_
    rw [fm_id]
    have e6 := e5.trans (Ext.upd (o := HO.lst ((h ++ k).map V.str)) hD3)
    have fp6 := at_new (o' := HO.lst ((h ++ k).map V.str)) hD3 fp5
    have fq6 := at_new (o' := HO.lst ((h ++ k).map V.str)) hD3 fq5
    have fD3 : (upd H5 D3 (.lst ((h ++ k).map V.str))) D3 = some (.lst ((h ++ k).map V.str)) := upd_same
    generalize (upd H5 D3 (.lst ((h ++ k).map V.str))) = H6 at e6 fp6 fq6 fD3
    refine ⟨D3, h ++ k, rfl, SqL.of fD3, by omega, fun S M nS nd lM mM => ?_⟩
    refine ⟨S, M, rfl, upd_same, by omega, fun ns B pmB soB nB => ?_⟩
    have aB : Asc (h ++ k) ns := ⟨pmB.nodup_iff.mpr nd, soB, fun y => by rw [pmB.mem_iff, mM]⟩
    have e7 := e6.trans ((Ext.upd (o := SetT w S M) nS).trans (Ext.upd (o := HO.lst (ns.map V.str)) nB))
    have fp7 := at_new (o' := HO.lst (ns.map V.str)) nB (at_new (o' := SetT w S M) nS fp6)
    have fq7 := at_new (o' := HO.lst (ns.map V.str)) nB (at_new (o' := SetT w S M) nS fq6)
    have fB : (upd (upd H6 S (SetT w S M)) B (.lst (ns.map V.str))) B = some (.lst (ns.map V.str)) := upd_same
    have nhk : Nm (h ++ k) := fun z hz => (List.mem_append.mp hz).elim (n1 z) (n2 z)
    have oB := aB.okL nhk (by omega)
    have lB := aB.len
    have aB2 : Asc (u' ++ v') ns := ⟨aB.1, aB.2.1, fun y => by rw [aB.2.2, List.mem_append, List.mem_append, au.2.2, av.2.2]⟩
    have st7 := st.ext e7
    have ids : ∀ {ns' : List Str}, Asc (u' ++ v') ns' → ns' = ns := fun h => h.uniq aB2 fun _ => Iff.rfl
    -- told
    have q17 := e7 _ _ q1
    refine ⟨_, rfl, s, CS, dx, _, rfl, q17, rfl, s, u', v', rfl, st7, fun T1 hT1 => ?_⟩
    refine ⟨_, rfl, s, CS, dx, _, rfl, q17, rfl, s, u', v', rfl, st7, fun T2 hT2 => ?_⟩
    refine ⟨_, rfl, s, CS, dx, _, rfl, q17, rfl, s, u', v', rfl, st7, by omega, fun T3 ns' H8 e8 ans hT3 => ?_⟩
    have := ids ans
    subst this
    have hT1 := e8 _ _ hT1
    have hT2 := e8 _ _ hT2
    have hT3 := nw_ext _ _ hT3
    have st8 := st7.ext e8
    have e08 := e7.trans e8
    have fp8 := e8 _ _ fp7
    have fq8 := e8 _ _ fq7
    have fB8 := e8 _ _ fB
    have hQ := fun H' (e : Ext H8 H') => kk H' (e08.trans e)
    have pa8 := pa.ext e08
    have q18 := e08 _ _ q1
    clear e7 fp7 fq7 fB e8 kk
    refine ⟨_, rfl, s, CS, dx, _, rfl, q18, aT, s, u', v', rfl, st8, _, rfl, ?_⟩
    refine ⟨(by show 4 ≤ sizeLine; decide), fun L nL => ?_⟩
    have fL := upd_same (H := H8) (a := L) (o := HO.lst [V.ref T1, V.ref T2, V.ref T3, V.str (textOf u' v')])
    have e9 := Ext.upd (o := HO.lst [V.ref T1, V.ref T2, V.ref T3, V.str (textOf u' v')]) nL
    have g1 := e9 _ _ hT1
    have g2 := e9 _ _ hT2
    have g3 := e9 _ _ hT3
    have fp9 := e9 _ _ fp8
    have fq9 := e9 _ _ fq8
    have fB9 := e9 _ _ fB8
    have st9 := st8.ext e9
    have pa9 := pa8.ext e9
    have hQ := fun H' (e : Ext _ H') => hQ H' (e9.trans e)
    generalize (upd H8 L (.lst [.ref T1, .ref T2, .ref T3, .str (textOf u' v')])) = H9 at fL g1 g2 g3 fp9 fq9 fB9 st9 pa9 hQ
    have ou := st9.oh
    have ov := st9.ok
    have sw := told_shw ou.nm ov.nm oB.nm (by omega) (by omega) (by omega : ns'.length ≤ 14)
    refine ⟨_, rfl, .ref L, toldD u' v' ns', rfl, told_tv fL g1 g2 g3 rfl, sw.sh, Nat.le_trans sw.dp (by decide), Nat.le_trans sw.ln (by decide), ?_⟩
    refine ⟨_, rfl, p, _, rfl, .inl ⟨SqL.of fp9, fun P1 nP1 => ?_⟩⟩
    have i1 := Ext.upd (o := HO.tup (u'.map V.str)) nP1
    have j1 : (upd H9 P1 (.tup (u'.map V.str))) P1 = some (.tup (u'.map V.str)) := upd_same
    generalize (upd H9 P1 (.tup (u'.map V.str))) = G1 at i1 j1
    refine ⟨_, rfl, q, _, rfl, .inl ⟨SqL.of (i1 _ _ fq9), fun P2 nP2 => ?_⟩⟩
    have i2 := i1.trans (Ext.upd (o := HO.tup (v'.map V.str)) nP2)
    have j1 := at_new (o' := HO.tup (v'.map V.str)) nP2 j1
    have j2 : (upd G1 P2 (.tup (v'.map V.str))) P2 = some (.tup (v'.map V.str)) := upd_same
    generalize (upd G1 P2 (.tup (v'.map V.str))) = G2 at i2 j1 j2
    refine ⟨_, rfl, B, _, rfl, .inl ⟨SqL.of (i2 _ _ fB9), fun P3 nP3 => ?_⟩⟩
    have i3 := i2.trans (Ext.upd (o := HO.tup (ns'.map V.str)) nP3)
    have j1 := at_new (o' := HO.tup (ns'.map V.str)) nP3 j1
    have j2 := at_new (o' := HO.tup (ns'.map V.str)) nP3 j2
    have j3 : (upd G2 P3 (.tup (ns'.map V.str))) P3 = some (.tup (ns'.map V.str)) := upd_same
    generalize (upd G2 P3 (.tup (ns'.map V.str))) = G3 at i3 j1 j2 j3
    refine ⟨_, rfl, l, a, b, h, k, rfl, pa9.ext i3, n1, n2, d1, d2, by omega, by omega, fun u2 v2 G4 au2 av2 i4 => ?_⟩
    have := au2.uniq au fun _ => Iff.rfl
    subst this
    have := av2.uniq av fun _ => Iff.rfl
    subst this
    refine ⟨(by show 4 ≤ sizeLine; decide), fun L2 nL2 => ?_⟩
    have i5 := (i3.trans i4).trans (Ext.upd (o := HO.lst [V.ref P1, V.ref P2, V.ref P3, V.str (textOf u2 v2)]) nL2)
    refine ⟨.ref L2, toldD u2 v2 ns', rfl, told_tv upd_same (at_new nL2 (i4 _ _ j1)) (at_new nL2 (i4 _ _ j2)) (at_new nL2 (i4 _ _ j3)) rfl, sw.sh, Nat.le_trans sw.dp (by decide), Nat.le_trans sw.ln (by decide), ?_⟩
    have st10 := st9.ext i5
    have fB10 := i5 _ _ fB9
    have hQ := fun H' (e : Ext _ H') => hQ H' (i5.trans e)
    generalize (upd G4 L2 (.lst [.ref P1, .ref P2, .ref P3, .str (textOf u2 v2)])) = H10 at st10 fB10 hQ
    refine ⟨rfl, _, rfl, iteNo (by rw [decide_eq_true rfl]; rfl) ?_⟩
    -- in
    obtain ⟨dy, w1, w2, x1, x2, x3⟩ := st10.ex
    refine ⟨_, rfl, B, rfl, ⟨_, SqL.of fB10⟩, fun D4 hD4 => ?_⟩
    refine lc_it walk_list (fun i H' => H' D4 = some (.lst []) ∧ Ext H10 H') ⟨upd_same, Ext.upd hD4⟩ (fun i H' _ h => SqL.of (h.2 _ _ fB10)) ?_ ?_
    · rintro i x Hx _ hi ⟨fD, ex⟩ ⟨rfl, hx⟩
      rw [List.getElem?_map] at hx
      obtain ⟨z, hz, rfl⟩ := Option.map_eq_some_iff.mp hx
      have hz' := List.mem_of_getElem? hz
      refine ⟨rfl, _, rfl, _, rfl, s, CS, dy, _, rfl, ex _ _ x1, aH, s, u2, v2, .str z, .str z, rfl, st10.ext ex, by omega, .str z, fun y e => by cases e; exact Nat.le_trans (name_len (oB.nm z hz')).2 (by decide), fun H' e' => ⟨_, rfl, _, rfl, ?_⟩⟩
      have : hasD u2 v2 (.str z) = true := decide_eq_true (List.mem_append.mp ((aB2.2.2 z).mp hz'))
      rw [this]
      exact iteNo rfl ⟨e' _ _ fD, ex.trans e'⟩
    rintro H11 ⟨fD, e11⟩
    refine ⟨(by show 0 ≤ sizeLine; decide), fun em nem => ?_⟩
    refine ⟨D4, em, [], rfl, rfl, at_new nem fD, upd_same, _, rfl, iteNo rfl ?_⟩
    have e12 := e11.trans (Ext.upd (o := HO.lst []) nem)
    generalize (upd H11 em (.lst [])) = H12 at e12
    -- what is no name of it
    refine ⟨(by show 1 ≤ sizeLine; decide), fun A1 nA1 => ?_⟩
    have k1 := Ext.upd (o := HO.lst [V.str "a"]) nA1
    have m1 : (upd H12 A1 (.lst [.str "a"])) A1 = some (.lst [.str "a"]) := upd_same
    generalize (upd H12 A1 (.lst [.str "a"])) = M1 at k1 m1
    refine ⟨_, rfl, (by show 1 ≤ sizeLine; decide), fun A2 nA2 => ?_⟩
    have k2 := Ext.upd (o := HO.lst [V.str ""]) nA2
    have m2 : (upd M1 A2 (.lst [.str ""])) A2 = some (.lst [.str ""]) := upd_same
    generalize (upd M1 A2 (.lst [.str ""])) = M2 at k2 m2
    have k02 := e12.trans (k1.trans k2)
    refine ⟨B, A2, _, _, rfl, rfl, k02 _ _ fB10, m2, by rw [List.length_map]; show ns'.length + 1 ≤ sizeLine; omega, fun A3 nA3 => ?_⟩
    have k3 := k2.trans (Ext.upd (o := HO.lst (ns'.map V.str ++ [V.str ""])) nA3)
    have m3 : (upd M2 A3 (.lst (ns'.map V.str ++ [.str ""]))) A3 = some (.lst (ns'.map V.str ++ [.str ""])) := upd_same
    generalize (upd M2 A3 (.lst (ns'.map V.str ++ [.str ""]))) = M3 at k3 m3
    refine ⟨1, rfl, A3, _, rfl, SqL.of m3, fun A4 nA4 => ?_⟩
    rw [cutV_to _ (by decide), show (1 : Int).toNat = 1 from rfl, show ns'.map V.str ++ [V.str ""] = (ns' ++ [("" : Str)]).map V.str by rw [List.map_append]; rfl, ← List.map_take]
    have k4 := k3.trans (Ext.upd (o := HO.lst (((ns' ++ [("" : Str)]).take 1).map V.str)) nA4)
    have m4 : (upd M3 A4 (.lst (((ns' ++ [("" : Str)]).take 1).map V.str))) A4 = some (.lst (((ns' ++ [("" : Str)]).take 1).map V.str)) := upd_same
    generalize (upd M3 A4 (.lst (((ns' ++ [("" : Str)]).take 1).map V.str))) = M4 at k4 m4
    have k04 := e12.trans (k1.trans k4)
    refine ⟨_, rfl, B, _, rfl, .inl ⟨SqL.of (k04 _ _ fB10), fun A5 nA5 => ?_⟩⟩
    have k5 := k4.trans (Ext.upd (o := HO.tup (ns'.map V.str)) nA5)
    have m4 := at_new (o' := HO.tup (ns'.map V.str)) nA5 m4
    have m5 : (upd M4 A5 (.tup (ns'.map V.str))) A5 = some (.tup (ns'.map V.str)) := upd_same
    generalize (upd M4 A5 (.tup (ns'.map V.str))) = M5 at k5 m4 m5
    have k05 := e12.trans (k1.trans k5)
    refine ⟨_, rfl, s, CS, dy, _, rfl, k05 _ _ x1, aT, s, u2, v2, rfl, st10.ext k05, _, rfl, ?_⟩
    refine ⟨(by show 12 ≤ sizeLine; decide), fun O nO => ?_⟩
    have m1 := at_new (o' := HO.lst [V.non, V.bl true, V.int 0, V.str "", V.str "Q", V.str "/", V.str "-", V.ref A1, V.ref A4, V.ref A5, V.str (textOf u2 v2), V.str "a b"]) nO (k5 _ _ m1)
    have m4 := at_new (o' := HO.lst [V.non, V.bl true, V.int 0, V.str "", V.str "Q", V.str "/", V.str "-", V.ref A1, V.ref A4, V.ref A5, V.str (textOf u2 v2), V.str "a b"]) nO m4
    have m5 := at_new (o' := HO.lst [V.non, V.bl true, V.int 0, V.str "", V.str "Q", V.str "/", V.str "-", V.ref A1, V.ref A4, V.ref A5, V.str (textOf u2 v2), V.str "a b"]) nO m5
    have k06 := k05.trans (Ext.upd (o := HO.lst [V.non, V.bl true, V.int 0, V.str "", V.str "Q", V.str "/", V.str "-", V.ref A1, V.ref A4, V.ref A5, V.str (textOf u2 v2), V.str "a b"]) nO)
    have mO := upd_same (H := M5) (a := O) (o := HO.lst [V.non, V.bl true, V.int 0, V.str "", V.str "Q", V.str "/", V.str "-", V.ref A1, V.ref A4, V.ref A5, V.str (textOf u2 v2), V.str "a b"])
    generalize (upd M5 O (.lst [.non, .bl true, .int 0, .str "", .str "Q", .str "/", .str "-", .ref A1, .ref A4, .ref A5, .str (textOf u2 v2), .str "a b"])) = M6 at m1 m4 m5 k06 mO
    have odd : ∀ x ∈ [V.non, V.bl true, V.int 0, V.str "", V.str "Q", V.str "/", V.str "-", V.ref A1, V.ref A4, V.ref A5, V.str (textOf u2 v2), V.str "a b"], ∃ d, TV M6 x d ∧ SmD d ∧ hasD u2 v2 d = false := fun x hx => by
      have st : ∀ z : Str, isName z = false → z.length ≤ 1000 → ∃ d, TV M6 (.str z) d ∧ SmD d ∧ hasD u2 v2 d = false := fun z h1 h2 => ⟨.str z, .str z, fun y e => by cases e; exact h2, has_no ou.nm ov.nm h1⟩
      have ns : ∀ d : PyData, (∀ z, d ≠ .str z) → SmD d ∧ hasD u2 v2 d = false := fun d hd => ⟨fun z e => absurd e (hd z), by cases d <;> first | rfl | exact absurd rfl (hd _)⟩
      simp only [List.mem_cons, List.not_mem_nil, or_false] at hx
      rcases hx with rfl | rfl | rfl | rfl | rfl | rfl | rfl | rfl | rfl | rfl | rfl | rfl
      · exact ⟨_, .non, ns _ fun z e => by cases e⟩
      · exact ⟨_, .bl _, ns _ fun z e => by cases e⟩
      · exact ⟨_, .int _, ns _ fun z e => by cases e⟩
      · exact st _ (by decide +kernel) (by decide +kernel)
      · exact st _ (by decide +kernel) (by decide +kernel)
      · exact st _ (by decide +kernel) (by decide +kernel)
      · exact st _ (by decide +kernel) (by decide +kernel)
      · exact ⟨_, .lst m1 (.cons (.str _) .nil), ns _ fun z e => by cases e⟩
      · exact ⟨_, .lst m4 (tvs_strs _), ns _ fun z e => by cases e⟩
      · exact ⟨_, .tup m5 (tvs_strs _), ns _ fun z e => by cases e⟩
      · exact st _ (text_no _ _) (Nat.le_trans (text_ok ou.nm ov.nm (by omega) (by omega)).1 (by decide))
      · exact st _ (by decide +kernel) (by decide +kernel)
    have x16 := k06 _ _ x1
    have st16 := st10.ext k06
    refine ⟨_, rfl, O, rfl, ⟨_, SqL.of mO⟩, fun D5 hD5 => ?_⟩
    refine lc_it walk_list (fun i H' => H' D5 = some (.lst []) ∧ Ext M6 H') ⟨upd_same, Ext.upd hD5⟩ (fun i H' _ h => SqL.of (h.2 _ _ mO)) ?_ ?_
    · rintro i x Hx _ hi ⟨fD, ex⟩ ⟨rfl, hx⟩
      obtain ⟨d, tv, sm, hno⟩ := odd x (List.mem_of_getElem? hx)
      refine ⟨rfl, _, rfl, _, rfl, s, CS, dy, _, rfl, ex _ _ x16, aH, s, u2, v2, x, d, rfl, st16.ext ex, by omega, tv.ext ex, sm, fun H' e' => ⟨_, rfl, _, rfl, ?_⟩⟩
      rw [hno]
      exact iteNo rfl ⟨e' _ _ fD, ex.trans e'⟩
    rintro M7 ⟨fD, e17⟩
    refine ⟨(by show 0 ≤ sizeLine; decide), fun em nem => ?_⟩
    refine ⟨D5, em, [], rfl, rfl, at_new nem fD, upd_same, _, rfl, iteNo rfl ?_⟩
    have e18 := e17.trans (Ext.upd (o := HO.lst []) nem)
    generalize (upd M7 em (.lst [])) = M8 at e18
    have st18 := st16.ext e18
    have x18 := e18 _ _ x16
    -- read
    refine ⟨rfl, _, rfl, s, CS, dy, _, rfl, x18, aT, s, u2, v2, rfl, st18, _, rfl, ?_⟩
    have tk := text_ok ou.nm ov.nm (by omega) (by omega : v2.length ≤ 7)
    have tc := text_cnt ou.nm ov.nm (by omega) (by omega : v2.length ≤ 7)
    have itT : IsT (.str (textOf u2 v2)) u2 v2 := ⟨st18.oh, st18.ok, rfl⟩
    refine ⟨_, .str (textOf u2 v2), .str (textOf u2 v2), rfl, .str _, fun z e => by cases e; exact ⟨Nat.le_trans tk.1 (by decide), by omega⟩, fun h' k' it aN H9 e19 sN => ?_, fun no => absurd itT (no _ _)⟩
    obtain ⟨r1, r2⟩ := it.uniq itT
    subst r1 r2
    have st19 := st18.ext e19
    have x19 := e19 _ _ x18
    obtain ⟨dN, o1, o2, y1, y2, y3⟩ := sN.ex
    refine ⟨_, rfl, _, rfl, aN, CS, dN, _, _, rfl, y1, C.eq, st19.tyX C, C.nfS, aN, h', k', .ref s, rfl, sN, .inl ⟨s, h', k', rfl, st19, _, rfl, _, rfl, iteYes (decide_eq_true ⟨rfl, rfl⟩) ?_⟩⟩
    refine ⟨_, rfl, aN, CS, dN, _, rfl, y1, rfl, aN, h', k', rfl, sN, fun z1 hz1 => ⟨_, rfl, s, CS, dy, _, rfl, x19, rfl, s, h', k', rfl, st19, fun z2 hz2 => ?_⟩⟩
    refine ⟨_, _, .tup (SqT.of hz1) (dp_strs _), .tup (SqT.of hz2) (dp_strs _), sh_names ou.nm, sh_names ou.nm, ?_⟩
    rw [eqv_tups]
    refine ⟨_, rfl, iteYes (decide_eq_true rfl) ?_⟩
    refine ⟨_, rfl, aN, CS, dN, _, rfl, y1, rfl, aN, h', k', rfl, sN, fun z3 hz3 => ⟨_, rfl, s, CS, dy, _, rfl, x19, rfl, s, h', k', rfl, st19, fun z4 hz4 => ?_⟩⟩
    refine ⟨_, _, .tup (SqT.of hz3) (dp_strs _), .tup (SqT.of hz4) (dp_strs _), sh_names ov.nm, sh_names ov.nm, ?_⟩
    rw [eqv_tups, decide_eq_true rfl]
    exact hQ _ (k06.trans (e18.trans e19))
end
end K19
end
section
set_option Elab.async false
set_option autoImplicit false
set_option linter.all false
set_option maxRecDepth 100000
set_option maxHeartbeats 4000000
set_option pp.maxSteps 1500
namespace K19
open PySem PySem.Spec PyProof.Rows L2 Ls
open C8 (pss_cut tCut)
open TL
theorem within_iff {h k h' k' u v u' v' : List Str} (au : Asc h u) (av : Asc k v) (au' : Asc h' u') (av' : Asc k' v') : decide ((∀ z ∈ h, z ∈ h') ∧ ∀ z ∈ k, z ∈ k') = decide ((∀ z ∈ u, z ∈ u') ∧ ∀ z ∈ v, z ∈ v') := by
  rw [decide_eq_decide]
  constructor
  · exact fun ⟨a, b⟩ => ⟨fun z hz => (au'.2.2 z).mpr (a z ((au.2.2 z).mp hz)), fun z hz => (av'.2.2 z).mpr (b z ((av.2.2 z).mp hz))⟩
  · exact fun ⟨a, b⟩ => ⟨fun z hz => (au'.2.2 z).mp (a z ((au.2.2 z).mpr hz)), fun z hz => (av'.2.2 z).mp (b z ((av.2.2 z).mpr hz))⟩
theorem partT_inj {l m : List Str} (hl : Nm l) (hm : Nm m) (e : partT l = partT m) : l = m := wl_inj hl hm (by rw [← partT_back hl, e, partT_back hm])
theorem strOk_256 {z : Str} (h : ∀ c ∈ tl z, c < 256) : PyData.strOk z = true := by
  show (z.cps.all fun c => decide (c < 0x110000)) = true
  rw [← Array.all_toList, List.all_eq_true]
  exact fun c hc => decide_eq_true (Nat.lt_trans (h c hc) (by decide))
theorem shaped_lst (xs : List Str) (ho : ∀ z ∈ xs, PyData.strOk z = true) : SeqAt.shaped (.list (xs.map .str)) = true := by
  have h : (PyData.list (xs.map .str)).depth ≤ 1 := depth_lst fun d hd => by
    obtain ⟨z, _, rfl⟩ := List.mem_map.mp hd
    exact Nat.le_refl _
  show (PyData.canLay0 (.list (xs.map .str)) && decide ((PyData.list (xs.map .str)).depth ≤ 64)) = true
  rw [decide_eq_true (Nat.le_trans h (by decide)), Bool.and_true]
  exact lay_strs xs ho
theorem eqv_lsts (us vs : List Str) : PyData.eqv (.list (us.map .str)) (.list (vs.map .str)) = decide (us = vs) := eqvAll_strs us vs
def boolsD (l : List Bool) : PyData := .list (l.map .bool)
theorem tvs_bls {H : Hp} : ∀ l : List Bool, TVs H (l.map V.bl) (l.map .bool)
  | [] => .nil
  | b :: l => .cons (.bl b) (tvs_bls l)
theorem bools_shw {l : List Bool} (h : l.length ≤ 10) : Shw 100 (boolsD l) := by
  have := Shw.listN (n := 5) (k := 0) (ds := l.map .bool) (fun d hd => by
    obtain ⟨b, _, rfl⟩ := List.mem_map.mp hd
    exact ⟨rfl, Nat.zero_le _, by cases b <;> decide +kernel⟩) (fun d hd => by
    obtain ⟨b, _, rfl⟩ := List.mem_map.mp hd
    exact Nat.le_refl _) (by decide)
  refine this.mono ?_
  rw [List.length_map]
  omega
theorem fm_only (ns : List Str) : ∀ l : List Str, (l.filterMap fun z => if z ∈ ns then some (V.str z) else none) = (onlyL ns l).map V.str := fun l => by
  unfold onlyL
  induction l with
  | nil => rfl
  | cons z r ih => by_cases hz : z ∈ ns <;> simp [List.filterMap_cons, List.filter_cons, hz, ih]
theorem list2 {xs : List V} (h : xs.length = 2) {P : Nat → V → Prop} (hp : ∀ j y, xs[j]? = some y → P j y) : ∃ a b, xs = [a, b] ∧ P 0 a ∧ P 1 b := by
  match xs, h with
  | [a, b], _ => exact ⟨a, b, rfl, hp 0 a rfl, hp 1 b rfl⟩
section
variable {P : Program} {w : World} {K : PySem.W.Frag} {mg : Str → Option Value} {base : Heap} {CE CN CB CW CS : Addr} {tL tN : Tok}
/-! ### _law_beside_right -/
def spBR (CS : Addr) : Sp := fun vs H Q _ => ∃ (p c l a b m a' b' s t q : Addr) (n : Nat) (h k h' k' u v u' v' ns : List Str), vs = [.ref p, .ref l, .ref m, .ref s, .ref t, .ref q] ∧ PenAt H p c n ∧ n < 600000 ∧ H q = some (.lst (ns.map V.str)) ∧ q ≠ p ∧ q ≠ c ∧ Six ns ∧
  PartsAt H l a b h k ∧ Off p c l a b ∧ Of6 ns h k ∧ PartsAt H m a' b' h' k' ∧ Off p c m a' b' ∧ Of6 ns h' k' ∧ StAt CS H s u v ∧ Asc h u ∧ Asc k v ∧ StAt CS H t u' v' ∧ Asc h' u' ∧ Asc k' v' ∧ ∀ H', PenAt H' p c (n + 10) → Keep p c H H' → Q (.bl true) H'
abbrev s__law_beside_right : Stmt := top 31
abbrev N__law_beside_right : List Str := ["_law_pen_here", "_law_one", "_law_other", "_law_first", "_law_second", "_law_names_here", "_law_signs", "_law_is_same", "_law_part", "_law_due", "_law_both", "_law_name", "_law_at", "_law_some", "_law_kept"]
theorem sc__law_beside_right : FnScope N__law_beside_right ["_law_pen_here", "_law_one", "_law_other", "_law_first", "_law_second", "_law_names_here"] (defScope s__law_beside_right) := ⟨rfl, rfl, rfl, by decide +kernel, rfl, by decide +kernel, by decide +kernel⟩
theorem ok_br {f fE fT fL fG fO : Addr} {fd : FuncData} (F : Fun K "_law_beside_right" "_law_beside_right" s__law_beside_right f fd) (T : Tx K mg CE CN CB CW CS tL tN) (C : ClS K CS fE) (hsys : (base.get? sysModules).isSome = true)
    (aT : PySem.W.findIn K (.ref CS) "__str__" = some (some (.ref fT))) (hfs : PySem.W.isFn K (.ref fT) = true) (rStr : FnR P w K mg base CX0 3 fT (spStr CS)) (hfe : PySem.W.isFn K (.ref fE) = true) (rE : FnR P w K mg base CX0 2 fE (spEq K CS))
    (aL : PySem.W.findIn K (.ref CS) "__le__" = some (some (.ref fL))) (hfl : PySem.W.isFn K (.ref fL) = true) (rLe : FnR P w K mg base CX0 2 fL (spWithin CS)) (aG : PySem.W.findIn K (.ref CS) "__ge__" = some (some (.ref fG))) (hfg : PySem.W.isFn K (.ref fG) = true) (rGe : FnR P w K mg base CX0 2 fG (spGe CS))
    (rOr : FnR P w K mg base (L2.CX P w) 6 fO (spOr K CS)) (OOr : OwnOp K CS fO "or") (o_only : OwnM P w K mg base (L2.CX P w) 6 CS "only" (spOnly K CS))
    (c__law_draw : Cal P w K mg base CX0 1 "_law_draw" spDraw) (c__law_word : Cal P w K mg base CX0 1 "_law_word" spWord) (c__law_text : Cal P w K mg base CX0 2 "_law_text" spText) (c__law_is_under : Cal P w K mg base CX0 1 "_law_is_under" spUnder) :
    FnG P w K mg base CX0 9 f fd ["_law_pen_here", "_law_one", "_law_other", "_law_first", "_law_second", "_law_names_here"] (spBR CS) := by
  refine okG F sc__law_beside_right (fun vs H Q E h => ?_) (fun cdv A outer s0 H vs Q E hcd hgd hr h => ?_)
  · obtain ⟨p, c, l, a, b, m, a', b', s, t, q, n, h, k, h', k', u, v, u', v', ns, rfl, _⟩ := h
    rfl
  · obtain ⟨p, c, l, a, b, m, a', b', s, t, q, n, h, k, h', k', u, v, u', v', ns, rfl, hp, hn, hq, nqp, nqc, six, pa, off, o6, pb, off', o6', st, au, av, st', au', av', kk⟩ := h
    have h4 : sizeLine = 16777216 := sizeLine_eq
    refine ⟨_, (pss_cons (ps_set (i := 6) sc__law_beside_right.nd rfl (by first | exact Or.inl rfl | exact Or.inr rfl) (pe_lst (pa_cons (pe_cmpR (op_leO rLe hfl (hr.mono (by decide)) pass0) (pv 3) (pv 4) (nomark _)) (pa_cons (pe_cmpR (op_geO rGe hfg (hr.mono (by decide)) pass0) (pv 3) (pv 4) (nomark _)) (pa_cons (pe_cmpR (op_leO rLe hfl (hr.mono (by decide)) pass0) (pv 4) (pv 3) (nomark _)) (pa_cons (pe_cmpR (op_eqO rE hfe (hr.mono (by decide)) pass0) (pv 3) (pv 4) (nomark _)) (pa_cons (pe_cmpR (op_neO rE hfe (hr.mono (by decide)) pass0) (pv 3) (pv 4) (nomark _)) pa_nil)))))))
      (pss_cons (ps_set (i := 7) sc__law_beside_right.nd rfl (by first | exact Or.inl rfl | exact Or.inr rfl) (pe_cmpR (op_eqD hr.units) (pe_lc (own := [("_law_part", 8)]) rfl sc__law_beside_right.nd (pi_list (pv 1)) (blkOk_by (own := [("_law_part", 8)]) (N := N__law_beside_right) (sc := defScope s__law_beside_right) (by decide +kernel)) (fun _ _ _ _ _ => (pg_name (i := 8) sc__law_beside_right.nd rfl (by first | exact Or.inl rfl | exact Or.inr rfl))) (fun _ _ _ _ _ => pts_nil) (fun _ _ _ _ _ => (pe_cal c__law_word (hr.mono (by decide)) (by rfl) pass0 (pa_cons (pv 8) pa_nil)))) (pe_lc (own := [("_law_part", 8)]) rfl sc__law_beside_right.nd (pi_list (pv 2)) (blkOk_by (own := [("_law_part", 8)]) (N := N__law_beside_right) (sc := defScope s__law_beside_right) (by decide +kernel)) (fun _ _ _ _ _ => (pg_name (i := 8) sc__law_beside_right.nd rfl (by first | exact Or.inl rfl | exact Or.inr rfl))) (fun _ _ _ _ _ => pts_nil) (fun _ _ _ _ _ => (pe_cal c__law_word (hr.mono (by decide)) (by rfl) pass0 (pa_cons (pv 8) pa_nil)))) (nomark _)))
      (pss_cons (ps_set (i := 9) sc__law_beside_right.nd rfl (by first | exact Or.inl rfl | exact Or.inr rfl) (pe_lst (pa_cons (pe_cal c__law_is_under (hr.mono (by decide)) (by rfl) pass0 (pa_cons (pv 1) (pa_cons (pv 2) pa_nil))) (pa_cons (pe_cal c__law_is_under (hr.mono (by decide)) (by rfl) pass0 (pa_cons (pv 2) (pa_cons (pv 1) pa_nil))) (pa_cons (pe_cal c__law_is_under (hr.mono (by decide)) (by rfl) pass0 (pa_cons (pv 2) (pa_cons (pv 1) pa_nil))) (pa_cons (pv 7) (pa_cons (pe_not (pv 7)) pa_nil)))))))
      (pss_cons (ps_if (pt_cmpR op_ne (pe_callB (call_repr hgd hr hsys) (by rfl) (T.bn _ (by decide +kernel)) (by decide +kernel) (pa_cons (pv 6) pa_nil)) (pe_callB (call_repr hgd hr hsys) (by rfl) (T.bn _ (by decide +kernel)) (by decide +kernel) (pa_cons (pv 9) pa_nil)) (nomark _)) (pss_one (ps_ret pe_bl)) pss_nil)
      (pss_cons (ps_setLc (i := 10) (own := [("_law_at", 12)]) rfl sc__law_beside_right.nd rfl rfl (sw_true rfl rfl rfl (by decide +kernel)) (pi_range1 rfl (T.bn _ (by decide +kernel)) (pa_cons pe_int pa_nil)) (blkOk_by (own := [("_law_at", 12)]) (N := N__law_beside_right) (sc := defScope s__law_beside_right) (by decide +kernel)) (fun _ _ _ _ _ => (pg_name (i := 12) sc__law_beside_right.nd rfl (by first | exact Or.inl rfl | exact Or.inr rfl))) (fun _ _ _ _ _ => pts_nil) (fun _ _ _ _ _ => (pe_callB (cr_sortTK (w := w) rfl rfl) (by rfl) (T.bn _ (by decide +kernel)) (by decide +kernel) (pa_cons (pe_callTy (cr_setTK (K := K) (w := w) rfl rfl rfl) (by rfl) (T.bn _ (by decide +kernel)) (by decide +kernel) (pa_cons (pe_lc (own := [("_law_name", 11)]) rfl sc__law_beside_right.nd (pi_listK (K := K) rfl (pe_op op_cat (pe_ix (ix_listK (K := K) rfl) (pv 1) (pv 12) (fun _ _ => rfl)) (pe_ix (ix_listK (K := K) rfl) (pv 2) (pv 12) (fun _ _ => rfl)))) (blkOk_by (own := [("_law_name", 11)]) (N := N__law_beside_right) (sc := relS _ (defScope s__law_beside_right)) (by decide +kernel)) (fun _ _ _ _ _ => (pg_name (i := 11) sc__law_beside_right.nd rfl (by first | exact Or.inl rfl | exact Or.inr rfl))) (fun _ _ _ _ _ => pts_nil) (fun _ _ _ _ _ => (pe_callTy SkE.call_str_str (by rfl) (T.bn _ (by decide +kernel)) (by decide +kernel) (pa_cons (pv 11) pa_nil)))) pa_nil)) pa_nil))))
      (pss_cons (ps_if ((pw_or (pt_cmpR op_ne (pe_callTy (call_strOwn hfs rStr (hr.mono (by decide)) pass0) (by rfl) (T.bn _ (by decide +kernel)) (by decide +kernel) (pa_cons (pe_op (op_binO (op := .BitOr) rOr OOr (hr.mono (by decide)) passN) (pv 3) (pv 4)) pa_nil)) (pe_cal c__law_text (hr.mono (by decide)) (by rfl) pass0 (pa_cons (pv 10) pa_nil)) (nomark _)) (pw_or1 (pt_cmpR (op_neO rE hfe (hr.mono (by decide)) pass0) (pe_op (op_binO (op := .BitOr) rOr OOr (hr.mono (by decide)) passN) (pv 3) (pv 4)) (pe_op (op_binO (op := .BitOr) rOr OOr (hr.mono (by decide)) passN) (pv 4) (pv 3)) (nomark _))))).pt (pss_one (ps_ret pe_bl)) pss_nil)
      (pss_cons (ps_set (i := 13) sc__law_beside_right.nd rfl (by first | exact Or.inl rfl | exact Or.inr rfl) (pe_lc (own := [("_law_name", 11)]) rfl sc__law_beside_right.nd (pi_list (pv 5)) (blkOk_by (own := [("_law_name", 11)]) (N := N__law_beside_right) (sc := defScope s__law_beside_right) (by decide +kernel)) (fun _ _ _ _ _ => (pg_name (i := 11) sc__law_beside_right.nd rfl (by first | exact Or.inl rfl | exact Or.inr rfl))) (fun _ _ _ _ _ => pts_one (pt_cmpR op_eq (pe_cal c__law_draw (hr.mono (by decide)) (by rfl) pass0 (pa_cons (pv 0) (pa_cons pe_int pa_nil))) pe_int (nomark _))) (fun _ _ _ _ _ => (pv 11))))
      (pss_cons (ps_setLc (i := 14) (own := [("_law_part", 8)]) rfl sc__law_beside_right.nd rfl rfl (sw_true rfl rfl rfl (by decide +kernel)) (pi_list (pv 1)) (blkOk_by (own := [("_law_part", 8)]) (N := N__law_beside_right) (sc := defScope s__law_beside_right) (by decide +kernel)) (fun _ _ _ _ _ => (pg_name (i := 8) sc__law_beside_right.nd rfl (by first | exact Or.inl rfl | exact Or.inr rfl))) (fun _ _ _ _ _ => pts_nil) (fun _ _ _ _ _ => (pe_lc (own := [("_law_name", 11)]) rfl sc__law_beside_right.nd (pi_listK (K := K) rfl (pv 8)) (blkOk_by (own := [("_law_name", 11)]) (N := N__law_beside_right) (sc := relS _ (defScope s__law_beside_right)) (by decide +kernel)) (fun _ _ _ _ _ => (pg_name (i := 11) sc__law_beside_right.nd rfl (by first | exact Or.inl rfl | exact Or.inr rfl))) (fun _ _ _ _ _ => pts_one (pt_cmpR (op_in_seqK (K := K) rfl) (pv 11) (pv 13) rfl)) (fun _ _ _ _ _ => (pv 11)))))
      (pss_one (ps_ret (pe_and (pe_cmpR op_eq (pe_callTy (call_strOwn hfs rStr (hr.mono (by decide)) pass0) (by rfl) (T.bn _ (by decide +kernel)) (by decide +kernel) (pa_cons (pe_om o_only (hr.mono (by decide)) (pv 3) passN (pa_cons (pv 13) pa_nil)) pa_nil)) (pe_cal c__law_text (hr.mono (by decide)) (by rfl) pass0 (pa_cons (pv 14) pa_nil)) (nomark _)) (pe_one (pe_cmpR (op_eqO rE hfe (hr.mono (by decide)) pass0) (pe_om o_only (hr.mono (by decide)) (pv 3) passN (pa_cons (pe_callTy call_tuple_of (by rfl) (T.bn _ (by decide +kernel)) (by decide +kernel) (pa_cons (pv 13) pa_nil)) pa_nil)) (pe_om o_only (hr.mono (by decide)) (pv 3) passN (pa_cons (pv 13) pa_nil)) (nomark _)))))))))))))), ?_⟩
    have l6 := six.ln
    have lh := sub_len six o6.hd o6.hs
    have lk := sub_len six o6.kd o6.ks
    have lh' := sub_len six o6'.hd o6'.hs
    have lk' := sub_len six o6'.kd o6'.ks
    obtain ⟨dx, t1, t2, q1, q2, q3⟩ := st.ex
    obtain ⟨dy, r1, r2, y1, y2, y3⟩ := st'.ex
    refine ⟨_, rfl, _, rfl, s, CS, dx, _, _, rfl, q1, aL, st'.tyX C, C.nfS, s, t, u, v, u', v', rfl, st, st', fun H1 e1 => ⟨_, rfl, ?_⟩⟩
    have wsym := within_iff au' av' au av
    have wst := within_iff au av au' av'
    refine ⟨_, rfl, _, rfl, s, CS, dx, _, _, rfl, e1 _ _ q1, aG, (st'.ext e1).tyX C, C.nfS, t, s, u', v', u, v, rfl, st'.ext e1, st.ext e1, fun H2 e2 => ⟨_, rfl, ?_⟩⟩
    have e02 := e1.trans e2
    refine ⟨_, rfl, _, rfl, t, CS, dy, _, _, rfl, e02 _ _ y1, aL, (st.ext e02).tyX C, C.nfS, t, s, u', v', u, v, rfl, st'.ext e02, st.ext e02, fun H3 e3 => ⟨_, rfl, ?_⟩⟩
    have e03 := e02.trans e3
    refine ⟨_, rfl, _, rfl, s, CS, dx, _, _, rfl, e03 _ _ q1, C.eq, (st'.ext e03).tyX C, C.nfS, s, u, v, .ref t, rfl, st.ext e03, .inl ⟨t, u', v', rfl, st'.ext e03, _, rfl, ?_⟩⟩
    refine ⟨_, rfl, _, rfl, s, CS, dx, _, _, rfl, e03 _ _ q1, C.eq, C.ne, C.hm, (st'.ext e03).tyX C, C.nfS, s, u, v, .ref t, rfl, st.ext e03, .inl ⟨t, u', v', rfl, st'.ext e03, _, rfl, ?_⟩⟩
    refine ⟨(by show 5 ≤ sizeLine; decide), fun S nS => ?_⟩
    generalize hW : decide ((∀ z ∈ u, z ∈ u') ∧ ∀ z ∈ v, z ∈ v') = W at wst
    generalize hW' : decide ((∀ z ∈ u', z ∈ u) ∧ ∀ z ∈ v', z ∈ v) = W' at wsym
    generalize hSM : decide (u = u' ∧ v = v') = SM
    have e04 := e03.trans (Ext.upd (o := HO.lst ([W, W', W', SM, !SM].map V.bl)) nS)
    have fS := upd_same (H := H3) (a := S) (o := HO.lst ([W, W', W', SM, !SM].map V.bl))
    show gName 6 (.ref S) _ (upd H3 S (HO.lst ([W, W', W', SM, !SM].map V.bl))) _
    generalize (upd H3 S (HO.lst ([W, W', W', SM, !SM].map V.bl))) = H4 at e04 fS
    -- the same words
    have pa4 := pa.ext e04
    have pb4 := pb.ext e04
    have n1 : Nm h := fun z hz => six.nm z (o6.hs z hz)
    have n2 : Nm k := fun z hz => six.nm z (o6.ks z hz)
    have n1' : Nm h' := fun z hz => six.nm z (o6'.hs z hz)
    have n2' : Nm k' := fun z hz => six.nm z (o6'.ks z hz)
    refine ⟨_, rfl, l, rfl, ⟨_, SqL.of pa4.l⟩, fun D hD => ?_⟩
    refine lc_det (walk_list (K := K) (xs := [.ref a, .ref b])) [.str (partT u), .str (partT v)] rfl (by show 2 ≤ 100000; decide) hD (fun Hx e => SqL.of (e _ _ pa4.l)) (fun i x Hx _ C' hi e ⟨e', hx⟩ hC => ?_) fun H5 e5 fD => ?_
    · subst e'
      refine ⟨rfl, ?_⟩
      match i, hi with
      | 0, _ =>
        cases hx
        exact ⟨_, rfl, a, h, rfl, e _ _ pa4.a, n1, o6.hd, by omega, fun x Hy ax ey => hC _ Hy ey (by rw [ax.uniq au fun _ => Iff.rfl]; rfl)⟩
      | 1, _ =>
        cases hx
        exact ⟨_, rfl, b, k, rfl, e _ _ pa4.b, n2, o6.kd, by omega, fun x Hy ax ey => hC _ Hy ey (by rw [ax.uniq av fun _ => Iff.rfl]; rfl)⟩
    have pb5 := pb4.ext e5
    refine ⟨_, rfl, m, rfl, ⟨_, SqL.of pb5.l⟩, fun D2 hD2 => ?_⟩
    refine lc_det (walk_list (K := K) (xs := [.ref a', .ref b'])) [.str (partT u'), .str (partT v')] rfl (by show 2 ≤ 100000; decide) hD2 (fun Hx e => SqL.of (e _ _ pb5.l)) (fun i x Hx _ C' hi e ⟨e', hx⟩ hC => ?_) fun H6 e6 fD2 => ?_
    · subst e'
      refine ⟨rfl, ?_⟩
      match i, hi with
      | 0, _ =>
        cases hx
        exact ⟨_, rfl, a', h', rfl, e _ _ pb5.a, n1', o6'.hd, by omega, fun x Hy ax ey => hC _ Hy ey (by rw [ax.uniq au' fun _ => Iff.rfl]; rfl)⟩
      | 1, _ =>
        cases hx
        exact ⟨_, rfl, b', k', rfl, e _ _ pb5.b, n2', o6'.kd, by omega, fun x Hy ax ey => hC _ Hy ey (by rw [ax.uniq av' fun _ => Iff.rfl]; rfl)⟩
    have lay : ∀ x y : List Str, Nm x → Nm y → SeqAt.shaped (.list ([partT x, partT y].map .str)) = true := fun x y hx hy => shaped_lst _ fun z hz => by
      simp only [List.mem_cons, List.not_mem_nil, or_false] at hz
      rcases hz with rfl | rfl
      · exact strOk_256 (partT_256 hx)
      · exact strOk_256 (partT_256 hy)
    refine ⟨.list ([partT u, partT v].map .str), .list ([partT u', partT v'].map .str), .lst (SqL.of (e6 _ _ fD)) (dp_strs [partT u, partT v]), .lst (SqL.of fD2) (dp_strs [partT u', partT v']), lay _ _ st.oh.nm st.ok.nm, lay _ _ st'.oh.nm st'.ok.nm, ?_⟩
    rw [eqv_lsts]
    have eSM : decide ([partT u, partT v] = [partT u', partT v']) = SM := by
      rw [← hSM, decide_eq_decide]
      constructor
      · exact fun e => ⟨partT_inj st.oh.nm st'.oh.nm (List.cons.inj e).1, partT_inj st.ok.nm st'.ok.nm (List.cons.inj (List.cons.inj e).2).1⟩
      · rintro ⟨rfl, rfl⟩; rfl
    rw [eSM]
    have pa6 := pa4.ext (e5.trans e6)
    have pb6 := pb5.ext e6
    have fS6 := e6 _ _ (e5 _ _ fS)
    -- what is due
    refine ⟨_, rfl, _, rfl, l, a, b, m, a', b', h, k, h', k', rfl, pa6, pb6, by omega, by omega, fun H7 e7 => ?_⟩
    rw [wst]
    refine ⟨_, rfl, _, rfl, m, a', b', l, a, b, h', k', h, k, rfl, pb6.ext e7, pa6.ext e7, by omega, by omega, fun H8 e8 => ?_⟩
    rw [wsym]
    refine ⟨_, rfl, _, rfl, m, a', b', l, a, b, h', k', h, k, rfl, pb6.ext (e7.trans e8), pa6.ext (e7.trans e8), by omega, by omega, fun H9 e9 => ?_⟩
    rw [wsym]
    refine ⟨_, rfl, _, rfl, _, rfl, (by show 5 ≤ sizeLine; decide), fun S2 nS2 => ?_⟩
    have e69 := e7.trans (e8.trans e9)
    have fS9 := at_new (o' := HO.lst ([W, W', W', SM, !SM].map V.bl)) nS2 (e69 _ _ fS6)
    have e010 := ((e04.trans (e5.trans e6)).trans e69).trans (Ext.upd (o := HO.lst ([W, W', W', SM, !SM].map V.bl)) nS2)
    have fS2 := upd_same (H := H9) (a := S2) (o := HO.lst ([W, W', W', SM, !SM].map V.bl))
    show gName 9 (.ref S2) _ (upd H9 S2 (HO.lst ([W, W', W', SM, !SM].map V.bl))) _
    generalize (upd H9 S2 (HO.lst ([W, W', W', SM, !SM].map V.bl))) = H10 at fS9 e010 fS2
    have sw := bools_shw (l := [W, W', W', SM, !SM]) (by show 5 ≤ 10; decide)
    refine ⟨_, rfl, .ref S, boolsD [W, W', W', SM, !SM], rfl, .lst fS9 (tvs_bls _), sw.sh, Nat.le_trans sw.dp (by decide), Nat.le_trans sw.ln (by decide), ?_⟩
    refine ⟨_, rfl, .ref S2, boolsD [W, W', W', SM, !SM], rfl, .lst fS2 (tvs_bls _), sw.sh, Nat.le_trans sw.dp (by decide), Nat.le_trans sw.ln (by decide), ?_⟩
    refine ⟨rfl, _, rfl, iteNo (by rw [decide_eq_true rfl]; rfl) ?_⟩
    have pa10 := pa.ext e010
    have pb10 := pb.ext e010
    -- both
    refine ⟨2, rfl, by decide, by decide, fun D3 hD3 => ?_⟩
    refine lc_map walk_range [D3] (by simp) (fun _ => True) (fun j y Hh => ∃ P os, y = .ref P ∧ Hh P = some (.lst (os.map V.str)) ∧ Asc (if j = 0 then h ++ h' else k ++ k') os) (by decide) (fun j y Ha Hb e hh => by obtain ⟨P1, os, q1, q2, q3⟩ := hh; exact ⟨P1, os, q1, e _ _ q2, q3⟩) (fun _ _ _ => trivial) trivial (fun _ _ _ => trivial) ?_ ?_
    · rintro i x _ Hx acc C' hi e _ fD ⟨rfl, rfl⟩ hC
      have eH : Ext H10 Hx := fun b o q => Ext.at' e (by simpa using ne_of_none q hD3) q
      match i, hi with
      | 0, _ =>
        refine ⟨rfl, _, rfl, _, rfl, l, _, _, _, rfl, rfl, SqL.of (pa10.ext eH).l, rfl, _, rfl, _, rfl, m, _, _, _, rfl, rfl, SqL.of (pb10.ext eH).l, rfl, a, a', _, _, rfl, rfl, (pa10.ext eH).a, (pb10.ext eH).a, by rw [List.length_map, List.length_map]; omega, fun X nX => ?_⟩
        rw [← List.map_append]
        have l12 : (h ++ h').length ≤ 12 := by rw [List.length_append]; omega
        have i1 := Ext.upd (o := HO.lst ((h ++ h').map V.str)) nX
        have fX : (upd Hx X (.lst ((h ++ h').map V.str))) X = some (.lst ((h ++ h').map V.str)) := upd_same
        generalize (upd Hx X (.lst ((h ++ h').map V.str))) = J1 at i1 fX
        refine ⟨X, rfl, ⟨_, SqL.of fX⟩, fun D4 hD4 => ?_⟩
        refine lc_strs walk_list (fun z => some (.str z)) (by omega) (fun l => SqL.of (at_new hD4 fX)) (fun i z l C' N hz hC hN => ⟨rfl, _, rfl, _, rfl, hC _ rfl⟩) ?_
        rw [fm_id]
        have i2 := i1.trans (Ext.upd (o := HO.lst ((h ++ h').map V.str)) hD4)
        have fD4 : (upd J1 D4 (.lst ((h ++ h').map V.str))) D4 = some (.lst ((h ++ h').map V.str)) := upd_same
        generalize (upd J1 D4 (.lst ((h ++ h').map V.str))) = J2 at i2 fD4
        refine ⟨D4, h ++ h', rfl, SqL.of fD4, by omega, fun Z M nZ nd lM mM => ?_⟩
        have i3 := i2.trans (Ext.upd (o := SetT w Z M) nZ)
        refine ⟨Z, M, rfl, upd_same, by omega, fun os B pmB soB nB => ?_⟩
        have i4 := i3.trans (Ext.upd (o := HO.lst (os.map V.str)) nB)
        refine hC _ _ (i4 _ _ fD) (hid_mono i4) trivial ⟨B, os, rfl, ?_, pmB.nodup_iff.mpr nd, soB, fun y => by rw [pmB.mem_iff, mM]; rfl⟩
        rw [hid_at (by simpa using (fun z => by rw [z] at nB; rw [i3 _ _ fD] at nB; cases nB))]
        exact upd_same
      | 1, _ =>
        refine ⟨rfl, _, rfl, _, rfl, l, _, _, _, rfl, rfl, SqL.of (pa10.ext eH).l, rfl, _, rfl, _, rfl, m, _, _, _, rfl, rfl, SqL.of (pb10.ext eH).l, rfl, b, b', _, _, rfl, rfl, (pa10.ext eH).b, (pb10.ext eH).b, by rw [List.length_map, List.length_map]; omega, fun X nX => ?_⟩
        rw [← List.map_append]
        have l12 : (k ++ k').length ≤ 12 := by rw [List.length_append]; omega
        have i1 := Ext.upd (o := HO.lst ((k ++ k').map V.str)) nX
        have fX : (upd Hx X (.lst ((k ++ k').map V.str))) X = some (.lst ((k ++ k').map V.str)) := upd_same
        generalize (upd Hx X (.lst ((k ++ k').map V.str))) = J1 at i1 fX
        refine ⟨X, rfl, ⟨_, SqL.of fX⟩, fun D4 hD4 => ?_⟩
        refine lc_strs walk_list (fun z => some (.str z)) (by omega) (fun l => SqL.of (at_new hD4 fX)) (fun i z l C' N hz hC hN => ⟨rfl, _, rfl, _, rfl, hC _ rfl⟩) ?_
        rw [fm_id]
        have i2 := i1.trans (Ext.upd (o := HO.lst ((k ++ k').map V.str)) hD4)
        have fD4 : (upd J1 D4 (.lst ((k ++ k').map V.str))) D4 = some (.lst ((k ++ k').map V.str)) := upd_same
        generalize (upd J1 D4 (.lst ((k ++ k').map V.str))) = J2 at i2 fD4
        refine ⟨D4, k ++ k', rfl, SqL.of fD4, by omega, fun Z M nZ nd lM mM => ?_⟩
        have i3 := i2.trans (Ext.upd (o := SetT w Z M) nZ)
        refine ⟨Z, M, rfl, upd_same, by omega, fun os B pmB soB nB => ?_⟩
        have i4 := i3.trans (Ext.upd (o := HO.lst (os.map V.str)) nB)
        refine hC _ _ (i4 _ _ fD) (hid_mono i4) trivial ⟨B, os, rfl, ?_, pmB.nodup_iff.mpr nd, soB, fun y => by rw [pmB.mem_iff, mM]; rfl⟩
        rw [hid_at (by simpa using (fun z => by rw [z] at nB; rw [i3 _ _ fD] at nB; cases nB))]
        exact upd_same
    intro H11 zs e11 _ fD3 hlz hz
    obtain ⟨z0, z1, rfl, ⟨P0, N0, rfl, g0, a0⟩, P1, N1, rfl, g1, a1⟩ := list2 hlz hz
    rw [if_pos rfl] at a0
    rw [if_neg (by decide)] at a1
    have g0 := (hid_some g0).2
    have g1 := (hid_some g1).2
    have e011 := e010.trans (fun b o q => Ext.at' e11 (by simpa using ne_of_none q hD3) q)
    have m0 : Nm (h ++ h') := fun z hz => (List.mem_append.mp hz).elim (n1 z) (n1' z)
    have m1 : Nm (k ++ k') := fun z hz => (List.mem_append.mp hz).elim (n2 z) (n2' z)
    have lc0 : (h ++ h').length ≤ 12 := by rw [List.length_append]; omega
    have lc1 : (k ++ k').length ≤ 12 := by rw [List.length_append]; omega
    have la0 := a0.len
    have la1 := a1.len
    have U0 : ∀ {x : List Str}, Asc (u ++ u') x → x = N0 := fun hx => hx.uniq a0 fun y => by rw [List.mem_append, List.mem_append, au.2.2, au'.2.2]
    have U1 : ∀ {x : List Str}, Asc (v ++ v') x → x = N1 := fun hx => hx.uniq a1 fun y => by rw [List.mem_append, List.mem_append, av.2.2, av'.2.2]
    have U0' : ∀ {x : List Str}, Asc (u' ++ u) x → x = N0 := fun hx => hx.uniq a0 fun y => by rw [List.mem_append, List.mem_append, au.2.2, au'.2.2, or_comm]
    have U1' : ∀ {x : List Str}, Asc (v' ++ v) x → x = N1 := fun hx => hx.uniq a1 fun y => by rw [List.mem_append, List.mem_append, av.2.2, av'.2.2, or_comm]
    have st11 := st.ext e011
    have st11' := st'.ext e011
    have x11 := e011 _ _ q1
    have y11 := e011 _ _ y1
    have lu := au.len
    have lu' := au'.len
    have lv := av.len
    have lv' := av'.len
    refine ⟨_, rfl, _, rfl, s, dx, _, rfl, x11, .inl ⟨t, dy, _, rfl, y11⟩, s, t, u, v, u', v', rfl, st11, st11', by omega, by omega, fun c1 X0 X1 H12 ax0 ax1 e12 sc => ?_⟩
    have := U0 ax0
    have := U1 ax1
    subst X0 X1
    obtain ⟨dc, w1, w2, z1, z2, z3⟩ := sc.ex
    refine ⟨c1, CS, dc, _, rfl, z1, aT, c1, _, _, rfl, sc, _, rfl, ?_⟩
    refine ⟨_, rfl, D3, P0, P1, N0, N1, rfl, ⟨e12 _ _ fD3, e12 _ _ g0, e12 _ _ g1⟩, a0.names m0, a1.names m1, a0.1, a1.1, by omega, by omega, fun X0 X1 H13 ax0' ax1' e13 => ?_⟩
    have := a0.self.fix ax0'
    have := a1.self.fix ax1'
    subst X0 X1
    refine ⟨rfl, _, rfl, ?_⟩
    rw [decide_eq_true rfl]
    refine iteF ?_
    have e1113 := e12.trans e13
    refine ⟨_, rfl, _, rfl, s, dx, _, rfl, e1113 _ _ x11, .inl ⟨t, dy, _, rfl, e1113 _ _ y11⟩, s, t, u, v, u', v', rfl, st11.ext e1113, st11'.ext e1113, by omega, by omega, fun c2 X0 X1 H14 ax0 ax1 e14 sc2 => ?_⟩
    have := U0 ax0
    have := U1 ax1
    subst X0 X1
    have e1114 := e1113.trans e14
    refine ⟨_, rfl, _, rfl, t, dy, _, rfl, e1114 _ _ y11, .inl ⟨s, dx, _, rfl, e1114 _ _ x11⟩, t, s, u', v', u, v, rfl, st11'.ext e1114, st11.ext e1114, by omega, by omega, fun c3 X0 X1 H15 ax0 ax1 e15 sc3 => ?_⟩
    have := U0' ax0
    have := U1' ax1
    subst X0 X1
    have sc2' := sc2.ext e15
    obtain ⟨d2, w3, w4, z4, z5, z6⟩ := sc2'.ex
    refine ⟨c2, CS, d2, _, _, rfl, z4, C.eq, C.ne, C.hm, sc3.tyX C, C.nfS, c2, _, _, .ref c3, rfl, sc2', .inl ⟨c3, _, _, rfl, sc3, _, rfl, ?_⟩⟩
    rw [decide_eq_true ⟨rfl, rfl⟩]
    refine ⟨_, rfl, iteF ?_⟩
    have e015 := e011.trans (e1114.trans e15)
    have st15 := st.ext e015
    have pa15 := pa.ext e015
    have hp15 := hp.ext e015
    have hq15 := e015 _ _ hq
    have k015 : Keep p c H H15 := Keep.ext e015
    -- some of the names
    refine ⟨_, rfl, q, rfl, ⟨_, SqL.of hq15⟩, fun D5 hD5 => ?_⟩
    have hD5H := ext_free e015 hD5
    obtain ⟨npD, ncD⟩ := hp.ne hD5H
    refine lc_it walk_list (fun i H' => ∃ ss : List Str, H' D5 = some (.lst (ss.map V.str)) ∧ ss.Sublist (ns.take i) ∧ PenAt H' p c (n + i) ∧ Keep p c H15 H' ∧ Keep p c H H') ?_ (fun i H' _ ⟨_, _, _, _, kp, _⟩ => SqL.of (kp _ _ hq15 nqp nqc)) ?_ ?_
    · exact ⟨[], upd_same, List.nil_sublist _, hp15.upd npD ncD, Keep.ext (Ext.upd hD5), k015.trans (Keep.ext (Ext.upd hD5))⟩
    · rintro i x Hx _ hi ⟨ss, g5, sub, hpx, kx, kx0⟩ ⟨rfl, hx⟩
      rw [List.getElem?_map] at hx
      obtain ⟨z, hz, rfl⟩ := Option.map_eq_some_iff.mp hx
      have hi' : i < ns.length := (List.getElem?_eq_some_iff.mp hz).1
      have tk : ns.take (i + 1) = ns.take i ++ [z] := by rw [List.take_add_one, hz]; rfl
      refine ⟨rfl, _, rfl, p, c, n + i, 2, rfl, hpx, by omega, by decide, by decide, fun d Hy d0 d1 hpy ky => ⟨rfl, _, rfl, ?_⟩⟩
      have g5 := ky _ _ g5 npD.symm ncD.symm
      refine ite2 (fun _ => ?_) (fun _ => ?_)
      · have ls := sub.length_le
        have := List.length_take_le i ns
        refine ⟨_, rfl, _, g5, by rw [List.length_map]; omega, ss ++ [z], ?_, ?_, (hpy.upd npD ncD), ?_, ?_⟩
        · rw [upd_same, List.map_append]; rfl
        · rw [tk]; exact sub.append (List.Sublist.refl _)
        · intro b o q h1 h2
          rw [upd_ne (ne_of_none q hD5)]
          exact ky _ _ (kx _ _ q h1 h2) h1 h2
        · intro b o q h1 h2
          rw [upd_ne (ne_of_none q hD5H)]
          exact ky _ _ (kx0 _ _ q h1 h2) h1 h2
      · exact ⟨ss, g5, by rw [tk]; exact sub.trans (List.sublist_append_left _ _), hpy, kx.trans ky, kx0.trans ky⟩
    rintro H16 ⟨ss, g5, sub, hp16, k1516, k016⟩
    rw [List.length_map, List.take_length] at sub
    rw [List.length_map] at hp16
    have lss := sub.length_le
    have st16 := st15.keep hp15 k1516
    have pa16 := pa15.keep off k1516
    -- what is kept
    refine ⟨_, rfl, l, rfl, ⟨_, SqL.of pa16.l⟩, fun D6 hD6 => ?_⟩
    refine lc_map (walk_list (K := K) (xs := [.ref a, .ref b])) [D6] (by simp) (fun _ => True) (fun j y Hh => ∃ P1, y = .ref P1 ∧ Hh P1 = some (.lst ((onlyL ss (if j = 0 then h else k)).map V.str))) (by show 2 ≤ 100000; decide) (fun j y Ha Hb e hh => by obtain ⟨P1, q1, q2⟩ := hh; exact ⟨P1, q1, e _ _ q2⟩) (fun _ _ _ => trivial) trivial (fun Hx e _ => SqL.of (Ext.at' e (by simpa using ne_of_none pa16.l hD6) pa16.l)) ?_ ?_
    · rintro i x _ Hx acc C' hi e _ fD ⟨rfl, hx⟩ hC
      have eH : Ext H16 Hx := fun b o q => Ext.at' e (by simpa using ne_of_none q hD6) q
      match i, hi with
      | 0, _ =>
        cases hx
        refine ⟨rfl, _, rfl, a, rfl, ⟨_, SqL.of (pa16.ext eH).a⟩, fun D7 hD7 => ?_⟩
        refine lc_strs walk_list (fun z => if z ∈ ss then some (.str z) else none) (by omega) (fun l => SqL.of (at_new hD7 (pa16.ext eH).a)) (fun i z l C'' N hz hC' hN => ?_) ?_
        · refine ⟨rfl, _, rfl, _, rfl, D5, _, rfl, .inl (SqL.of (at_new hD7 (eH _ _ g5))), rfl, flat_strs _, ?_⟩
          rw [inV_strs]
          by_cases hz' : z ∈ ss
          · exact ⟨_, rfl, iteYes (decide_eq_true hz') ⟨_, rfl, hC' _ (if_pos hz')⟩⟩
          · exact ⟨_, rfl, iteNo (decide_eq_false hz') (hN (if_neg hz'))⟩
        rw [fm_only]
        have i1 := Ext.upd (o := HO.lst ((onlyL ss h).map V.str)) hD7
        refine hC _ _ (i1 _ _ fD) (hid_mono i1) trivial ⟨D7, rfl, ?_⟩
        rw [hid_at (by simpa using (fun z => by rw [z, fD] at hD7; cases hD7))]
        exact upd_same
      | 1, _ =>
        cases hx
        refine ⟨rfl, _, rfl, b, rfl, ⟨_, SqL.of (pa16.ext eH).b⟩, fun D7 hD7 => ?_⟩
        refine lc_strs walk_list (fun z => if z ∈ ss then some (.str z) else none) (by omega) (fun l => SqL.of (at_new hD7 (pa16.ext eH).b)) (fun i z l C'' N hz hC' hN => ?_) ?_
        · refine ⟨rfl, _, rfl, _, rfl, D5, _, rfl, .inl (SqL.of (at_new hD7 (eH _ _ g5))), rfl, flat_strs _, ?_⟩
          rw [inV_strs]
          by_cases hz' : z ∈ ss
          · exact ⟨_, rfl, iteYes (decide_eq_true hz') ⟨_, rfl, hC' _ (if_pos hz')⟩⟩
          · exact ⟨_, rfl, iteNo (decide_eq_false hz') (hN (if_neg hz'))⟩
        rw [fm_only]
        have i1 := Ext.upd (o := HO.lst ((onlyL ss k).map V.str)) hD7
        refine hC _ _ (i1 _ _ fD) (hid_mono i1) trivial ⟨D7, rfl, ?_⟩
        rw [hid_at (by simpa using (fun z => by rw [z, fD] at hD7; cases hD7))]
        exact upd_same
    intro H17 zs e17 _ fD6 hlz hz
    obtain ⟨z0, z1, rfl, ⟨P0, rfl, g0⟩, P1, rfl, g1⟩ := list2 hlz hz
    have g0 := (hid_some g0).2
    have g1 := (hid_some g1).2
    rw [if_pos rfl] at g0
    rw [if_neg (by decide)] at g1
    have e1617 : Ext H16 H17 := fun b o q => Ext.at' e17 (by simpa using ne_of_none q hD6) q
    have st17 := st16.ext e1617
    have g5 := e1617 _ _ g5
    obtain ⟨d3, w5, w6, z7, z8, z9⟩ := st17.ex
    have nmO : ∀ {l : List Str}, Nm l → Nm (onlyL ss l) := fun hl z hz => hl z (List.mem_filter.mp hz).1
    have lnO : ∀ (l : List Str), (onlyL ss l).length ≤ l.length := fun l => List.length_filter_le _ _
    have lo1 := lnO h
    have lo2 := lnO k
    have E0 : ∀ {x : List Str}, Asc (onlyL ss h) x → x = onlyL ss u := fun hx => hx.uniq (st17.oh.sub (m := onlyL ss u) List.filter_sublist).1 fun y => by
      unfold onlyL
      rw [List.mem_filter, List.mem_filter, au.2.2]
    have E1 : ∀ {x : List Str}, Asc (onlyL ss k) x → x = onlyL ss v := fun hx => hx.uniq (st17.ok.sub (m := onlyL ss v) List.filter_sublist).1 fun y => by
      unfold onlyL
      rw [List.mem_filter, List.mem_filter, av.2.2]
    refine ⟨_, rfl, s, d3, _, rfl, z7, rfl, _, rfl, s, D5, u, v, ss, rfl, st17, .inl (SqL.of g5), fun o1 H18 e18 so1 => ?_⟩
    obtain ⟨d4, w7, w8, z10, z11, z12⟩ := so1.ex
    refine ⟨o1, CS, d4, _, rfl, z10, aT, o1, _, _, rfl, so1, _, rfl, ?_⟩
    refine ⟨_, rfl, D6, P0, P1, onlyL ss h, onlyL ss k, rfl, ⟨e18 _ _ fD6, e18 _ _ g0, e18 _ _ g1⟩, nmO n1, nmO n2, o6.hd.sublist List.filter_sublist, o6.kd.sublist List.filter_sublist, by omega, by omega, fun X0 X1 H19 ax0 ax1 e19 => ?_⟩
    have := E0 ax0
    have := E1 ax1
    subst X0 X1
    refine ⟨rfl, _, rfl, iteYes (decide_eq_true rfl) ?_⟩
    have e1719 := e18.trans e19
    have st19 := st17.ext e1719
    refine ⟨_, rfl, s, d3, _, rfl, e1719 _ _ z7, rfl, _, rfl, D5, _, rfl, .inl ⟨SqL.of (e1719 _ _ g5), fun tp ntp => ?_⟩⟩
    have e20 := Ext.upd (o := HO.tup (ss.map V.str)) ntp
    refine ⟨s, tp, u, v, ss, rfl, st19.ext e20, .inr (SqT.of upd_same), fun o2 H21 e21 so2 => ?_⟩
    have e1921 := e20.trans e21
    have e1721 := e1719.trans e1921
    refine ⟨_, rfl, s, d3, _, rfl, e1721 _ _ z7, rfl, _, rfl, s, D5, u, v, ss, rfl, st17.ext e1721, .inl (SqL.of (e1721 _ _ g5)), fun o3 H22 e22 so3 => ?_⟩
    have so2' := so2.ext e22
    obtain ⟨d5, w9, w10, z13, z14, z15⟩ := so2'.ex
    refine ⟨o2, CS, d5, _, _, rfl, z13, C.eq, so3.tyX C, C.nfS, o2, _, _, .ref o3, rfl, so2', .inl ⟨o3, _, _, rfl, so3, _, rfl, ?_⟩⟩
    rw [decide_eq_true ⟨rfl, rfl⟩]
    have eF := e1617.trans (e1721.trans e22)
    exact kk H22 ((hp16.mono (by omega)).ext eF) (k016.trans (Keep.ext eF))
end
end K19
end
section
set_option Elab.async false
set_option autoImplicit false
set_option linter.all false
set_option maxRecDepth 100000
set_option maxHeartbeats 4000000
set_option pp.maxSteps 1500
namespace K19
open PySem PySem.Spec PyProof.Rows L2 Ls
open C8 (pss_cut tCut)
open TL
/-! ### what is refused, plain -/
theorem twi_nodup : ∀ (r s : List Str), s.Nodup → twi s r = none → (s ++ r).Nodup
  | [], s, h, _ => by simpa using h
  | z :: r, s, h, e => by
    have e : (if z ∈ s then some z else twi (s ++ [z]) r) = none := e
    by_cases hz : z ∈ s
    · rw [if_pos hz] at e; cases e
    · rw [if_neg hz] at e
      have h2 : (s ++ [z]).Nodup := by
        rw [List.nodup_append]
        exact ⟨h, by simp, fun a ha b hb c => hz (by rw [← List.mem_singleton.mp hb, ← c]; exact ha)⟩
      have := twi_nodup r (s ++ [z]) h2 e
      simpa using this
def dupF : List Str → List Str → List Str
  | _, [] => []
  | s, z :: r => if z ∈ s then z :: dupF (s ++ [z]) r else dupF (s ++ [z]) r
theorem dupF_head : ∀ (r s : List Str), (dupF s r).head? = twi s r
  | [], _ => rfl
  | z :: r, s => by
    show (if z ∈ s then z :: dupF (s ++ [z]) r else dupF (s ++ [z]) r).head? = (if z ∈ s then some z else twi (s ++ [z]) r)
    by_cases hz : z ∈ s
    · rw [if_pos hz, if_pos hz]; rfl
    · rw [if_neg hz, if_neg hz]; exact dupF_head r _
theorem dup_head (l m : List Str) : (dupF [] l ++ dupF [] m).head? = twO l m := by
  unfold twO
  rw [List.head?_append, dupF_head, dupF_head]
  cases twi [] l <;> rfl
def oddL : List PyData := [.none, .bool true, .int 3, .str "", .str "A", .str "abcdefg", .str "a b", .str "a1", .list [.str "a"], .tuple [.str "a"], .dict []]
def badS : List Str := ["", "A", "abcdefg", "a b", "a1"]
def OkD (ns : List Str) (d : PyData) : Prop := (∃ z ∈ ns, d = .str z) ∨ d ∈ oddL
theorem badS_no : ∀ z ∈ badS, isName z = false := by decide +kernel
theorem odd_no {d : PyData} (h : d ∈ oddL) : nameOf d = none := by
  simp only [oddL, List.mem_cons, List.not_mem_nil, or_false] at h
  rcases h with rfl | rfl | rfl | rfl | rfl | rfl | rfl | rfl | rfl | rfl | rfl <;> first | rfl | exact nameOf_no (by decide +kernel)
/-- the law's own sign of what is wrong -/
theorem wrong_iff {ns : List Str} (n : Nm ns) {d : PyData} (h : OkD ns d) : (nameOf d = none ↔ isStrD d = false ∨ ∃ z ∈ badS, d = .str z) := by
  rcases h with ⟨z, hz, rfl⟩ | h
  · rw [nameOf_str (n z hz)]
    constructor
    · intro e; cases e
    · rintro (e | ⟨y, hy, e⟩)
      · cases e
      · cases e
        have := badS_no _ hy
        rw [n _ hz] at this
        cases this
  · refine ⟨fun _ => ?_, fun _ => odd_no h⟩
    simp only [oddL, List.mem_cons, List.not_mem_nil, or_false] at h
    rcases h with rfl | rfl | rfl | rfl | rfl | rfl | rfl | rfl | rfl | rfl | rfl <;> first | exact .inl rfl | exact .inr ⟨_, by simp [badS], rfl⟩
/-- the values of what is no name -/
def selB : List V → List PyData → List V
  | x :: xs, d :: ds => if nameOf d = none then x :: selB xs ds else selB xs ds
  | _, _ => []
theorem selB_snoc : ∀ {xs : List V} {ds : List PyData} {i : Nat} {x : V} {d : PyData}, xs[i]? = some x → ds[i]? = some d → selB (xs.take (i + 1)) (ds.take (i + 1)) = selB (xs.take i) (ds.take i) ++ if nameOf d = none then [x] else []
  | y :: xs, e :: ds, 0, x, d, h1, h2 => by
    have h1 : y = x := by simpa using h1
    have h2 : e = d := by simpa using h2
    subst h1 h2
    show selB [y] [e] = _
    show (if nameOf e = none then y :: selB [] [] else selB [] []) = _
    by_cases h : nameOf e = none
    · rw [if_pos h, if_pos h]; rfl
    · rw [if_neg h, if_neg h]; rfl
  | y :: xs, e :: ds, i + 1, x, d, h1, h2 => by
    have ih := selB_snoc (xs := xs) (ds := ds) (i := i) (x := x) (d := d) (by simpa using h1) (by simpa using h2)
    show (if nameOf e = none then y :: selB (xs.take (i + 1)) (ds.take (i + 1)) else selB (xs.take (i + 1)) (ds.take (i + 1))) = (if nameOf e = none then y :: selB (xs.take i) (ds.take i) else selB (xs.take i) (ds.take i)) ++ _
    by_cases h : nameOf e = none
    · rw [if_pos h, if_pos h, ih]; rfl
    · rw [if_neg h, if_neg h, ih]
  | [], _, _, _, _, h1, _ => by simp at h1
  | _ :: _, [], _, _, _, _, h2 => by simp at h2
theorem selB_bad {H : Hp} : ∀ {xs : List V} {ds : List PyData}, TVs H xs ds → (badOf ds = none → selB xs ds = []) ∧ ∀ d, badOf ds = some d → ∃ x r, selB xs ds = x :: r ∧ TV H x d
  | _, _, .nil => ⟨fun _ => rfl, fun d h => by cases h⟩
  | x :: xs, e :: ds, .cons r t => by
    obtain ⟨h1, h2⟩ := selB_bad t
    refine ⟨fun h => ?_, fun d h => ?_⟩
    · have h : (if nameOf e = none then some e else badOf ds) = none := h
      show (if nameOf e = none then x :: selB xs ds else selB xs ds) = []
      by_cases q : nameOf e = none
      · rw [if_pos q] at h; cases h
      · rw [if_neg q] at h ⊢; exact h1 h
    · have h : (if nameOf e = none then some e else badOf ds) = some d := h
      show ∃ x' r', (if nameOf e = none then x :: selB xs ds else selB xs ds) = x' :: r' ∧ _
      by_cases q : nameOf e = none
      · rw [if_pos q] at h ⊢
        cases h
        exact ⟨x, _, rfl, r⟩
      · rw [if_neg q] at h ⊢
        exact h2 d h
theorem selB_len : ∀ (xs : List V) (ds : List PyData), (selB xs ds).length ≤ xs.length
  | [], _ => Nat.zero_le _
  | _ :: _, [] => Nat.zero_le _
  | x :: xs, d :: ds => by
    have := selB_len xs ds
    show (if nameOf d = none then x :: selB xs ds else selB xs ds).length ≤ _
    by_cases q : nameOf d = none
    · rw [if_pos q, List.length_cons, List.length_cons]; omega
    · rw [if_neg q, List.length_cons]; omega
/-- a place where something is put in -/
def putAt {α : Type} (l : List α) (i : Nat) (d : α) : List α := l.take i ++ [d] ++ l.drop i
theorem put_mem {α : Type} {l : List α} {i : Nat} {d y : α} (h : y ∈ putAt l i d) : y ∈ l ∨ y = d := by
  unfold putAt at h
  rcases List.mem_append.mp h with h | h
  · rcases List.mem_append.mp h with h | h
    · exact .inl (List.mem_of_mem_take h)
    · exact .inr (List.mem_singleton.mp h)
  · exact .inl (List.mem_of_mem_drop h)
theorem put_sub {α : Type} (l : List α) (i : Nat) (d : α) : l.Sublist (putAt l i d) := by
  unfold putAt
  have := List.take_append_drop i l
  conv => lhs; rw [← this]
  exact (List.sublist_append_left _ _).append (List.Sublist.refl _)
theorem put_at {α : Type} (l : List α) (i : Nat) (d : α) : d ∈ putAt l i d := by
  unfold putAt
  simp
theorem put_len {α : Type} (l : List α) (i : Nat) (d : α) : (putAt l i d).length = l.length + 1 := by
  unfold putAt
  rw [List.length_append, List.length_append, List.length_take, List.length_drop, List.length_singleton]
  omega
theorem bad_some {ds : List PyData} {d : PyData} (h : d ∈ ds) (hn : nameOf d = none) : badOf ds ≠ none := fun e => by
  have := (bad_none e).1
  rw [this] at h
  obtain ⟨z, hz, rfl⟩ := List.mem_map.mp h
  rw [nameOf_str ((bad_none e).2 z hz)] at hn
  cases hn
theorem bad_mem {ds : List PyData} (h : badOf ds ≠ none) : ∃ d ∈ ds, nameOf d = none := by
  refine Classical.byContradiction fun no => h (bad_all fun j d hd hn => no ⟨d, List.mem_of_getElem? hd, hn⟩)
/-- something is wrong, or a name stands twice -/
def Off1 (ds es : List PyData) : Prop := (∃ d ∈ ds ++ es, nameOf d = none) ∨ ¬ ds.Nodup ∨ ¬ es.Nodup
theorem twice_put {α : Type} {l : List α} {i : Nat} {d : α} (h : d ∈ l) : ¬ (putAt l i d).Nodup := fun nd => by
  unfold putAt at nd
  rw [List.nodup_append, List.nodup_append] at nd
  obtain ⟨⟨_, _, h1⟩, _, h2⟩ := nd
  have := List.take_append_drop i l
  rw [← this] at h
  rcases List.mem_append.mp h with h | h
  · exact h1 d h d (by simp) rfl
  · exact h2 d (by simp) d h rfl
theorem off_names {ds es : List PyData} (h : Off1 ds es) (hb : badOf (ds ++ es) = none) : twO (namesOf ds) (namesOf es) ≠ none := fun e => by
  have hs := (bad_none hb)
  have nb1 : badOf ds = none := bad_all fun j d hd hn => bad_some (List.mem_append_left es (List.mem_of_getElem? hd)) hn hb
  have nb2 : badOf es = none := bad_all fun j d hd hn => bad_some (List.mem_append_right ds (List.mem_of_getElem? hd)) hn hb
  have e1 := (bad_none nb1).1
  have e2 := (bad_none nb2).1
  have t1 : twi [] (namesOf ds) = none := by
    unfold twO at e
    cases q : twi [] (namesOf ds) with
    | none => rfl
    | some z => rw [q] at e; cases e
  have t2 : twi [] (namesOf es) = none := by
    unfold twO at e
    rw [t1] at e
    exact e
  have m1 := twi_nodup _ _ .nil t1
  have m2 := twi_nodup _ _ .nil t2
  have up : ∀ l : List Str, l.Nodup → (l.map PyData.str).Nodup := fun l h => by
    unfold List.Nodup at h ⊢
    rw [List.pairwise_map]
    exact h.imp fun h e => h (PyData.str.inj e)
  rcases h with ⟨d, hd, hn⟩ | h | h
  · exact bad_some hd hn hb
  · exact h (by rw [e1]; exact up _ m1)
  · exact h (by rw [e2]; exact up _ m2)
theorem tvs_put {H : Hp} : ∀ {xs : List V} {ds : List PyData} {x : V} {d : PyData} (i : Nat), TVs H xs ds → TV H x d → TVs H (putAt xs i x) (putAt ds i d)
  | _, _, _, _, 0, t, r => .cons r t
  | _, _, _, _, i + 1, .nil, r => .cons r .nil
  | _, _, _, _, i + 1, .cons a t, r => .cons a (tvs_put i t r)
theorem tvs_app {H : Hp} : ∀ {xs ys : List V} {ds es : List PyData}, TVs H xs ds → TVs H ys es → TVs H (xs ++ ys) (ds ++ es)
  | _, _, _, _, .nil, r => r
  | _, _, _, _, .cons a t, r => .cons a (tvs_app t r)
end K19
end
section
set_option Elab.async false
set_option autoImplicit false
set_option linter.all false
set_option maxRecDepth 100000
set_option maxHeartbeats 4000000
set_option pp.maxSteps 1500
namespace K19
open PySem PySem.Spec PyProof.Rows L2 Ls
open C8 (pss_cut tCut)
open TL
/-- all but the pen and the tables stay -/
def KeepN (p c : Addr) (H H' : Hp) : Prop := ∀ b o, H b = some o → b ≠ p → b ≠ c → (∀ ps, o ≠ .tbl ps) → H' b = some o
theorem KeepN.of {p c : Addr} {H H' : Hp} (k : Keep p c H H') : KeepN p c H H' := fun b o q h1 h2 _ => k b o q h1 h2
theorem KeepN.extN {p c : Addr} {H H' : Hp} (k : LamX.ExtN H H') : KeepN p c H H' := fun b o q _ _ n => k b o q n
theorem KeepN.trans {p c : Addr} {H H1 H2 : Hp} (k : KeepN p c H H1) (l : KeepN p c H1 H2) : KeepN p c H H2 := fun b o q h1 h2 n => l b o (k b o q h1 h2 n) h1 h2 n
theorem tv_N {H H' : Hp} {v : V} {d : PyData} (h : TV H v d) (x : LamX.ExtN H H') : TV H' v d := by
  have h1 : TV (vis [] H) v d := tv_vis h
  exact (h1.ext (vis_extN x)).ext vis_ext
theorem tvs_N {H H' : Hp} : ∀ {vs : List V} {ds : List PyData}, TVs H vs ds → LamX.ExtN H H' → TVs H' vs ds
  | _, _, .nil, _ => .nil
  | _, _, .cons a t, x => .cons (tv_N a x) (tvs_N t x)
theorem StAt.keepN {CS : Addr} {H H' : Hp} {p c a : Addr} {h k : List Str} {n : Nat} (s : StAt CS H a h k) (hp : PenAt H p c n) (e : KeepN p c H H') : StAt CS H' a h k := by
  obtain ⟨ns, x, r, p1, p2, _⟩ := hp
  obtain ⟨dx, t1, t2, h1, h2, h3⟩ := s.ex
  refine ⟨⟨dx, t1, t2, e _ _ h1 ?_ ?_ (fun ps z => nomatch z), e _ _ h2 ?_ ?_ (fun ps z => nomatch z), e _ _ h3 ?_ ?_ (fun ps z => nomatch z)⟩, s.oh, s.ok⟩
  · exact fun z => by rw [z, p1] at h1; cases h1
  · exact fun z => by rw [z, p2] at h1; cases h1
  · exact fun z => by rw [z, p1] at h2; cases h2
  · exact fun z => by rw [z, p2] at h2; cases h2
  · exact fun z => by rw [z, p1] at h3; cases h3
  · exact fun z => by rw [z, p2] at h3; cases h3
theorem PartsAt.keepN {H H' : Hp} {p c l a b : Addr} {h k : List Str} (x : PartsAt H l a b h k) (o : Off p c l a b) (e : KeepN p c H H') : PartsAt H' l a b h k :=
  ⟨e _ _ x.l o.l.1 o.l.2 (fun ps z => nomatch z), e _ _ x.a o.a.1 o.a.2 (fun ps z => nomatch z), e _ _ x.b o.b.1 o.b.2 (fun ps z => nomatch z)⟩
theorem okd_sm {ns : List Str} (n : Nm ns) {d : PyData} (h : OkD ns d) : SmD d := fun z e => by
  subst e
  rcases h with ⟨y, hy, e⟩ | h
  · cases e
    exact Nat.le_trans (name_len (n _ hy)).2 (by decide)
  · simp only [oddL, List.mem_cons, List.not_mem_nil, or_false] at h
    rcases h with h | h | h | h | h | h | h | h | h | h | h <;> cases h <;> decide +kernel
theorem okd_shw {ns : List Str} (n : Nm ns) {d : PyData} (h : OkD ns d) : Shw 100 d ∧ d.depth ≤ 1 := by
  rcases h with ⟨y, hy, rfl⟩ | h
  · exact ⟨(Shw.str (ok_nameS (n _ hy))).mono (by decide), Nat.zero_le _⟩
  · simp only [oddL, List.mem_cons, List.not_mem_nil, or_false] at h
    rcases h with rfl | rfl | rfl | rfl | rfl | rfl | rfl | rfl | rfl | rfl | rfl <;> exact ⟨⟨by decide +kernel, by decide, by decide +kernel⟩, by decide⟩
theorem bad_in {ds : List PyData} {d : PyData} : badOf ds = some d → d ∈ ds := by
  induction ds with
  | nil => intro h; cases h
  | cons x r ih =>
    intro h
    have h : (if nameOf x = none then some x else badOf r) = some d := h
    by_cases q : nameOf x = none
    · rw [if_pos q] at h; cases h; simp
    · rw [if_neg q] at h; exact List.mem_cons_of_mem _ (ih h)
section
variable {P : Program} {w : World} {K : PySem.W.Frag} {mg : Str → Option Value} {base : Heap} {CE CN CB CW CS : Addr} {tL tN : Tok}
/-! ### _law_refused_right -/
def spRF (TT : List (Addr × Str)) : Sp := fun vs H Q _ => ∃ (p c l a b : Addr) (n : Nat) (h k ns : List Str), vs = [.ref p, .ref l] ∧ PenAt H p c n ∧ n < 500000 ∧ PartsAt H l a b h k ∧ Off p c l a b ∧ Six ns ∧ Of6 ns h k ∧ LamX.Tabs TT H ∧
  ∀ H', PenAt H' p c (n + 40) → KeepN p c H H' → LamX.Tabs TT H' → Q (.bl true) H'
abbrev s__law_refused_right : Stmt := top 32
abbrev N__law_refused_right : List Str := ["_law_pen_here", "_law_parts", "_law_odd", "_law_some", "_law_go", "_law_at", "_law_line", "_law_thing", "_law_spot", "_law_bad", "_law_wrong", "_law_one", "_law_heard_here", "_law_twice", "_law_k"]
theorem sc__law_refused_right : FnScope N__law_refused_right ["_law_pen_here", "_law_parts"] (defScope s__law_refused_right) := ⟨rfl, rfl, rfl, by decide +kernel, rfl, by decide +kernel, by decide +kernel⟩
theorem ok_rf {f g c' P1 : Addr} {fd fdh : FuncData} {TT : List (Addr × Str)} (F : Fun K "_law_refused_right" "_law_refused_right" s__law_refused_right f fd) (T : Tx K mg CE CN CB CW CS tL tN) (hsys : (base.get? sysModules).isSome = true)
    (F__law_heard : Fun K "_law_heard" "_law_heard" s__law_heard g fdh) (m__law_heard : mg "_law_heard" = some (.ref g)) (b__law_heard : L2.Binds K fdh ["_law_ask"] [])
    (eN : ErrT K CE CN CW CB CN "value" true false false) (eW : ErrT K CE CN CW CB CW "name" false true false) (eB : ErrT K CE CN CW CB CB "value" false false true)
    (hfc : fd.code = .ref c') (TB : LamX.TabB base mg c' P1) (hmT : (P1, ("_law_refused_right.<locals>.<lambda>" : Str)) ∈ TT) (huT : ∀ p ∈ TT, p.1 = P1 → p.2 = ("_law_refused_right.<locals>.<lambda>" : Str))
    (c__law_draw : Cal P w K mg base CX0 1 "_law_draw" spDraw) (c__law_pick : Cal P w K mg base CX0 2 "_law_pick" (spPick K)) (c_Standing : Mkc P w K mg base (L2.CX P w) 4 CS "Standing" (spSt K CN CW CS)) :
    FnG P w K mg base CX0 10 f fd ["_law_pen_here", "_law_parts"] (spRF TT) := by
  refine okG F sc__law_refused_right (fun vs H Q E h => ?_) (fun cdv A outer s0 H vs Q E hcd hgd hr h => ?_)
  · obtain ⟨p, c, l, a, b, n, h, k, ns, rfl, _⟩ := h
    rfl
  · obtain ⟨p, c, l, a, b, n, h, k, ns, rfl, hp, hn, pa, off, six, o6, hT, kk⟩ := h
    rw [hfc] at hcd
    subst hcd
    have h4 : sizeLine = 16777216 := sizeLine_eq
    refine ⟨_, (pss_cons (ps_set (i := 2) sc__law_refused_right.nd rfl (by first | exact Or.inl rfl | exact Or.inr rfl) (pe_lst (pa_cons pe_non (pa_cons pe_bl (pa_cons pe_int (pa_cons pe_str (pa_cons pe_str (pa_cons pe_str (pa_cons pe_str (pa_cons pe_str (pa_cons (pe_lst (pa_cons pe_str pa_nil)) (pa_cons (pe_tup (pa_cons pe_str pa_nil)) (pa_cons pe_dnewK pa_nil)))))))))))))
      (pss_cons (ps_set (i := 3) sc__law_refused_right.nd rfl (by first | exact Or.inl rfl | exact Or.inr rfl) (pe_lst (pa_cons (pe_callTy call_list_of (by rfl) (T.bn _ (by decide +kernel)) (by decide +kernel) (pa_cons (pe_ix ix_list (pv 1) pe_int (fun _ _ => rfl)) pa_nil)) (pa_cons (pe_callTy call_list_of (by rfl) (T.bn _ (by decide +kernel)) (by decide +kernel) (pa_cons (pe_ix ix_list (pv 1) pe_int (fun _ _ => rfl)) pa_nil)) pa_nil))))
      (pss_cons (ps_for PassesOwn.never rfl (pi_range1 rfl (T.bn _ (by decide +kernel)) (pa_cons (pe_op op_add pe_int (pe_cal c__law_draw (hr.mono (by decide)) (by rfl) pass0 (pa_cons (pv 0) (pa_cons pe_int pa_nil)))) pa_nil)) (pg_name (i := 4) sc__law_refused_right.nd rfl (by first | exact Or.inl rfl | exact Or.inr rfl))
      (pss_cons (ps_set (i := 5) sc__law_refused_right.nd rfl (by first | exact Or.inl rfl | exact Or.inr rfl) (pe_cal c__law_draw (hr.mono (by decide)) (by rfl) pass0 (pa_cons (pv 0) (pa_cons pe_int pa_nil))))
      (pss_cons (ps_set (i := 6) sc__law_refused_right.nd rfl (by first | exact Or.inl rfl | exact Or.inr rfl) (pe_ix ix_list (pv 3) (pv 5) (fun _ _ => rfl)))
      (pss_cons (ps_set (i := 7) sc__law_refused_right.nd rfl (by first | exact Or.inl rfl | exact Or.inr rfl) (pe_cal c__law_pick (hr.mono (by decide)) (by rfl) pass0 (pa_cons (pv 0) (pa_cons (pv 2) pa_nil))))
      (pss_cut (ps_if ((pw_and (pt_cmpR (op_neNil hr) (pv 6) (pe_lst pa_nil) (nomark _)) (pw_and1 (pt_cmpR op_eq (pe_cal c__law_draw (hr.mono (by decide)) (by rfl) pass0 (pa_cons (pv 0) (pa_cons pe_int pa_nil))) pe_int (nomark _))))).pt (pss_one (ps_set (i := 7) sc__law_refused_right.nd rfl (by first | exact Or.inl rfl | exact Or.inr rfl) (pe_ix ix_list (pv 6) (pe_cal c__law_draw (hr.mono (by decide)) (by rfl) pass0 (pa_cons (pv 0) (pa_cons (pe_callB call_len_seq (by rfl) (T.bn _ (by decide +kernel)) (by decide +kernel) (pa_cons (pv 6) pa_nil)) pa_nil))) (fun _ _ => rfl)))) pss_nil)
      (pss_cons (ps_set (i := 8) sc__law_refused_right.nd rfl (by first | exact Or.inl rfl | exact Or.inr rfl) (pe_cal c__law_draw (hr.mono (by decide)) (by rfl) pass0 (pa_cons (pv 0) (pa_cons (pe_op op_add (pe_callB call_len_seq (by rfl) (T.bn _ (by decide +kernel)) (by decide +kernel) (pa_cons (pv 6) pa_nil)) pe_int) pa_nil))))
      (pss_one (ps_asg (pe_op op_cat (pe_op op_cat (pe_slice sl_list (pv 6) po_none (po_some (pv 8))) (pe_lst (pa_cons (pv 7) pa_nil))) (pe_slice sl_list (pv 6) (po_some (pv 8)) po_none)) (pg_sub (pv 3) (pv 5) set_list)))))))))
      (pss_cons (ps_set (i := 9) sc__law_refused_right.nd rfl (by first | exact Or.inl rfl | exact Or.inr rfl) (pe_lst (pa_cons pe_str (pa_cons pe_str (pa_cons pe_str (pa_cons pe_str (pa_cons pe_str pa_nil)))))))
      (pss_cons (ps_setLc (i := 10) (own := [("_law_one", 11)]) rfl sc__law_refused_right.nd rfl rfl (sw_true rfl rfl rfl (by decide +kernel)) (pi_list (pe_op op_cat (pe_ix ix_list (pv 3) pe_int (fun _ _ => rfl)) (pe_ix ix_list (pv 3) pe_int (fun _ _ => rfl)))) (blkOk_by (own := [("_law_one", 11)]) (N := N__law_refused_right) (sc := defScope s__law_refused_right) (by decide +kernel)) (fun _ _ _ _ _ => (pg_name (i := 11) sc__law_refused_right.nd rfl (by first | exact Or.inl rfl | exact Or.inr rfl))) (fun _ _ _ _ _ => pts_one ((pw_or (pt_not (pt_val (pe_callB (call_isiB (K := K) rfl) (by rfl) (T.bn _ (by decide +kernel)) (by decide +kernel) (pa_cons (pv 11) (pa_cons (pe_gty (T := "str") (by rfl) (T.bn _ (by decide +kernel)) (by decide +kernel)) pa_nil))))) (pw_or1 (pt_cmpR (op_in_seqK (K := K) rfl) (pv 11) (pv 9) rfl)))).pt) (fun _ _ _ _ _ => (pv 11)))
      (pss_cons (ps_set (i := 12) sc__law_refused_right.nd rfl (by first | exact Or.inl rfl | exact Or.inr rfl) (pe_lamS (T := TT) (k := 7) F__law_heard (by rfl) m__law_heard b__law_heard sc__law_heard rfl (.inl rfl) (fun cdv => heard_gives T eN eW eB) TB rfl hmT huT (hr.mono (by decide)) (LamX.lamS_by (sc := defScope s__law_refused_right) (by decide +kernel)) rfl (fun _ _ _ _ _ => rfl) (fun A outer s H E f c2 hr => (pe_mkc c_Standing (hr.mono (by decide)) (by rfl) passLm (pa_cons (pe_ix (show IxR _ (rIxL K) from ix_list) (pv 3) pe_int (fun _ _ => rfl)) (pa_cons (pe_ix (show IxR _ (rIxL K) from ix_list) (pv 3) pe_int (fun _ _ => rfl)) pa_nil))))))
      (pss_cons (ps_if (pt_cmpR (op_neNil hr) (pv 10) (pe_lst pa_nil) (nomark _)) (pss_one (ps_ret (pe_and (pe_callB call_isi (by rfl) (T.bn _ (by decide +kernel)) (by decide +kernel) (pa_cons (pv 12) (pa_cons (pe_gty (T := "tuple") (by rfl) (T.bn _ (by decide +kernel)) (by decide +kernel)) pa_nil))) (pe_one (pe_cmpR op_eq (pe_callB (call_repr hgd hr hsys) (by rfl) (T.bn _ (by decide +kernel)) (by decide +kernel) (pa_cons (pv 12) pa_nil)) (pe_callB (call_repr hgd hr hsys) (by rfl) (T.bn _ (by decide +kernel)) (by decide +kernel) (pa_cons (pe_tup (pa_cons pe_str (pa_cons (pe_ix ix_list (pv 10) pe_int (fun _ _ => rfl)) pa_nil))) pa_nil)) (nomark _)))))) pss_nil)
      (pss_cons (ps_setLc (i := 13) (own := [("_law_k", 14)]) rfl sc__law_refused_right.nd rfl rfl (sw_true rfl rfl rfl (by decide +kernel)) (pi_range1 rfl (T.bn _ (by decide +kernel)) (pa_cons (pe_callB call_len_seq (by rfl) (T.bn _ (by decide +kernel)) (by decide +kernel) (pa_cons (pe_ix (ix_listK (K := K) rfl) (pv 3) pe_int (fun _ _ => rfl)) pa_nil)) pa_nil)) (blkOk_by (own := [("_law_k", 14)]) (N := N__law_refused_right) (sc := defScope s__law_refused_right) (by decide +kernel)) (fun _ _ _ _ _ => (pg_name (i := 14) sc__law_refused_right.nd rfl (by first | exact Or.inl rfl | exact Or.inr rfl))) (fun _ _ _ _ _ => pts_one (pt_cmpR (op_in_seqK (K := K) rfl) (pe_ix (ix_listK (K := K) rfl) (pe_ix (ix_listK (K := K) rfl) (pv 3) pe_int (fun _ _ => rfl)) (pv 14) (fun _ _ => rfl)) (pe_slice (sl_listK (K := K) rfl) (pe_ix (ix_listK (K := K) rfl) (pv 3) pe_int (fun _ _ => rfl)) po_none (po_some (pv 14))) rfl)) (fun _ _ _ _ _ => (pe_ix (ix_listK (K := K) rfl) (pe_ix (ix_listK (K := K) rfl) (pv 3) pe_int (fun _ _ => rfl)) (pv 14) (fun _ _ => rfl))))
      (pss_cons (ps_set (i := 13) sc__law_refused_right.nd rfl (by first | exact Or.inl rfl | exact Or.inr rfl) (pe_op op_cat (pv 13) (pe_lc (own := [("_law_k", 14)]) rfl sc__law_refused_right.nd (pi_range1 rfl (T.bn _ (by decide +kernel)) (pa_cons (pe_callB call_len_seq (by rfl) (T.bn _ (by decide +kernel)) (by decide +kernel) (pa_cons (pe_ix (ix_listK (K := K) rfl) (pv 3) pe_int (fun _ _ => rfl)) pa_nil)) pa_nil)) (blkOk_by (own := [("_law_k", 14)]) (N := N__law_refused_right) (sc := defScope s__law_refused_right) (by decide +kernel)) (fun _ _ _ _ _ => (pg_name (i := 14) sc__law_refused_right.nd rfl (by first | exact Or.inl rfl | exact Or.inr rfl))) (fun _ _ _ _ _ => pts_one (pt_cmpR (op_in_seqK (K := K) rfl) (pe_ix (ix_listK (K := K) rfl) (pe_ix (ix_listK (K := K) rfl) (pv 3) pe_int (fun _ _ => rfl)) (pv 14) (fun _ _ => rfl)) (pe_slice (sl_listK (K := K) rfl) (pe_ix (ix_listK (K := K) rfl) (pv 3) pe_int (fun _ _ => rfl)) po_none (po_some (pv 14))) rfl)) (fun _ _ _ _ _ => (pe_ix (ix_listK (K := K) rfl) (pe_ix (ix_listK (K := K) rfl) (pv 3) pe_int (fun _ _ => rfl)) (pv 14) (fun _ _ => rfl))))))
      (pss_one (ps_ret (pe_cmpR (op_eqD hr.units) (pv 12) (pe_tup (pa_cons pe_str (pa_cons (pe_ix ix_list (pv 13) pe_int (fun _ _ => rfl)) pa_nil))) (nomark _))))))))))))), ?_⟩
    -- odd values
    refine ⟨(by show 1 ≤ sizeLine; decide), fun o1 no1 => ⟨(by show 1 ≤ sizeLine; decide), fun o2 no2 => fun o3 no3 => ⟨(by show 11 ≤ sizeLine; decide), fun O nO => ?_⟩⟩⟩
    have a1 := upd_same (H := H) (a := o1) (o := HO.lst [V.str "a"])
    have e1 := Ext.upd (o := HO.lst [V.str "a"]) no1
    generalize (upd H o1 (.lst [.str "a"])) = H1 at a1 e1 no2 no3 nO ⊢
    have a1 := at_new (o' := HO.tup [V.str "a"]) no2 a1
    have a2 := upd_same (H := H1) (a := o2) (o := HO.tup [V.str "a"])
    have e2 := e1.trans (Ext.upd (o := HO.tup [V.str "a"]) no2)
    generalize (upd H1 o2 (.tup [.str "a"])) = H2 at a1 a2 e2 no3 nO ⊢
    have a1 := at_new (o' := HO.dK []) no3 a1
    have a2 := at_new (o' := HO.dK []) no3 a2
    have a3 := upd_same (H := H2) (a := o3) (o := HO.dK [])
    have e3 := e2.trans (Ext.upd (o := HO.dK []) no3)
    have no3' : H o3 = none := ext_free e2 no3
    generalize (upd H2 o3 (.dK [])) = H3 at a1 a2 a3 e3 nO ⊢
    obtain ⟨oV, hoV⟩ : ∃ oV : List V, [V.non, V.bl true, V.int 3, V.str "", V.str "A", V.str "abcdefg", V.str "a b", V.str "a1", V.ref o1, V.ref o2, V.ref o3] = oV := ⟨_, rfl⟩
    have lO : oV.length = 11 := by rw [← hoV]; rfl
    rw [hoV]
    have a1 := at_new (o' := HO.lst oV) nO a1
    have a2 := at_new (o' := HO.lst oV) nO a2
    have a3 := at_new (o' := HO.lst oV) nO a3
    have fO := upd_same (H := H3) (a := O) (o := HO.lst oV)
    have e4 := e3.trans (Ext.upd (o := HO.lst oV) nO)
    have nO' : H O = none := ext_free e3 nO
    generalize (upd H3 O (.lst oV)) = H4 at a1 a2 a3 fO e4 ⊢
    have tvO : TVs (vis [p, c] H4) oV oddL := by
      have off : ∀ {x : Addr}, H x = none → x ∉ [p, c] := fun {x} hx => by
        have := hp.ne hx
        simp only [List.mem_cons, List.not_mem_nil, or_false, not_or]
        exact ⟨this.1.symm, this.2.symm⟩
      have no1' : H o1 = none := no1
      have no2' : H o2 = none := ext_free e1 no2
      rw [← hoV]
      exact .cons .non (.cons (.bl _) (.cons (.int _) (.cons (.str _) (.cons (.str _) (.cons (.str _) (.cons (.str _) (.cons (.str _) (.cons (.lst (vis_at (off no1') a1 fun ps z => nomatch z) (.cons (.str _) .nil)) (.cons (.tup (vis_at (off no2') a2 fun ps z => nomatch z) (.cons (.str _) .nil)) (.cons (.dct (vis_at (off no3') a3 fun ps z => nomatch z) .nil .nil) .nil))))))))))
    clear a1 a2 a3 e1 e2 e3
    -- the parts
    have pa4 := pa.ext e4
    refine ⟨_, rfl, l, _, 0, _, rfl, rfl, SqL.of pa4.l, rfl, a, _, rfl, .inl (SqL.of pa4.a), fun A0 nA => ?_⟩
    have fA := upd_same (H := H4) (a := A0) (o := HO.lst (h.map V.str))
    have e5 := Ext.upd (o := HO.lst (h.map V.str)) nA
    generalize (upd H4 A0 (.lst (h.map V.str))) = H5 at fA e5
    refine ⟨_, rfl, l, _, 1, _, rfl, rfl, SqL.of (e5 _ _ pa4.l), rfl, b, _, rfl, .inl (SqL.of (e5 _ _ pa4.b)), fun B0 nB => ?_⟩
    have fA := at_new (o' := HO.lst (k.map V.str)) nB fA
    have fB := upd_same (H := H5) (a := B0) (o := HO.lst (k.map V.str))
    have e6 := e5.trans (Ext.upd (o := HO.lst (k.map V.str)) nB)
    generalize (upd H5 B0 (.lst (k.map V.str))) = H6 at fA fB e6
    refine ⟨(by show 2 ≤ sizeLine; decide), fun G nG => ?_⟩
    have nAG : A0 ≠ G := ne_of_none fA nG
    have nBG : B0 ≠ G := ne_of_none fB nG
    have fA := at_new (o' := HO.lst [V.ref A0, V.ref B0]) nG fA
    have fB := at_new (o' := HO.lst [V.ref A0, V.ref B0]) nG fB
    have fG := upd_same (H := H6) (a := G) (o := HO.lst [V.ref A0, V.ref B0])
    have e7 := e6.trans (Ext.upd (o := HO.lst [V.ref A0, V.ref B0]) nG)
    have nG4 : H4 G = none := ext_free e6 nG
    have nGO : O ≠ G := ne_of_none fO nG4
    generalize (upd H6 G (.lst [.ref A0, .ref B0])) = H7 at fA fB fG e7
    have fO7 := e7 _ _ fO
    have e07 := e4.trans e7
    have nG0 : H G = none := ext_free e4 nG4
    have nA0 : H A0 = none := ext_free e4 nA
    have nB0 : H B0 = none := ext_free e4 (ext_free e5 nB)
    obtain ⟨npG, ncG⟩ := hp.ne nG0
    obtain ⟨npA, ncA⟩ := hp.ne nA0
    obtain ⟨npB, ncB⟩ := hp.ne nB0
    obtain ⟨npO, ncO⟩ := hp.ne nO'
    have hp7 := hp.ext e07
    have T7 := hT.ext e07
    have vG : Ext (vis [p, c] H4) (vis [p, c, G] H7) := fun x o q => by
      obtain ⟨q1, q2, q3⟩ := vis_some q
      refine vis_at ?_ (e7 _ _ q2) q3
      have : x ≠ G := ne_of_none q2 nG4
      simp only [List.mem_cons, List.not_mem_nil, or_false, not_or] at q1 ⊢
      exact ⟨q1.1, q1.2, this⟩
    have tvO7 := tvO.ext vG
    refine ⟨_, rfl, p, c, n, 3, rfl, hp7, by omega, by decide, by decide, fun m H8 m0 m1 hp8 k8 => ?_⟩
    have T8 := hp7.tabs T7 k8
    have k08 := (Keep.ext e07).trans k8
    refine ⟨_, _, rfl, rfl, 1 + m, rfl, by omega, by omega, ?_⟩
    have vk : ∀ {Ha Hb : Hp}, Keep p c Ha Hb → Ext (vis [p, c, G] Ha) (vis [p, c, G] Hb) := fun kx => vis_keep kx (by simp) (by simp)
    refine for_it walk_range (fun i σ H' => ∃ (x4 x5 x6 x7 x8 : Option V) (A B : Addr) (xs ys : List V) (ds es : List PyData), σ = [some (.ref p), some (.ref l), some (.ref O), some (.ref G), x4, x5, x6, x7, x8, none, none, none, none, none, none] ∧
      H' G = some (.lst [.ref A, .ref B]) ∧ H' A = some (.lst xs) ∧ H' B = some (.lst ys) ∧ (A ≠ p ∧ A ≠ c ∧ A ≠ G) ∧ (B ≠ p ∧ B ≠ c ∧ B ≠ G) ∧ TVs (vis [p, c, G] H') xs ds ∧ TVs (vis [p, c, G] H') ys es ∧ (∀ d ∈ ds, OkD ns d) ∧ (∀ d ∈ es, OkD ns d) ∧ xs.length ≤ 6 + i ∧ ys.length ≤ 6 + i ∧
      H' O = some (.lst oV) ∧ TVs (vis [p, c, G] H') oV oddL ∧ PenAt H' p c (n + 1 + 5 * i) ∧ Keep p c H H' ∧ LamX.Tabs TT H' ∧ (i = 0 ∨ Off1 ds es)) ?_ (fun _ _ _ _ _ => trivial) ?_ ?_
    · refine ⟨_, _, _, _, _, A0, B0, _, _, h.map .str, k.map .str, rfl, k8 _ _ fG npG.symm ncG.symm, k8 _ _ fA npA.symm ncA.symm, k8 _ _ fB npB.symm ncB.symm, ⟨npA.symm, ncA.symm, nAG⟩, ⟨npB.symm, ncB.symm, nBG⟩, tvs_strs _, tvs_strs _, ?_, ?_, ?_, ?_, k8 _ _ fO7 npO.symm ncO.symm, tvO7.ext (vk k8), hp8, k08, T8, .inl rfl⟩
      · intro d hd
        obtain ⟨z, hz, rfl⟩ := List.mem_map.mp hd
        exact .inl ⟨z, o6.hs z hz, rfl⟩
      · intro d hd
        obtain ⟨z, hz, rfl⟩ := List.mem_map.mp hd
        exact .inl ⟨z, o6.ks z hz, rfl⟩
      · rw [List.length_map]; exact sub_len six o6.hd o6.hs
      · rw [List.length_map]; exact sub_len six o6.kd o6.ks
    · rintro i x σ _ H9 hi ⟨x4, x5, x6, x7, x8, A, B, xs, ys, ds, es, rfl, gG, gA, gB, ⟨pA1, pA2, pA3⟩, ⟨pB1, pB2, pB3⟩, tA, tB, okA, okB, lA, lB, gO, tO, hp9, k09, T9, hoff⟩ ⟨rfl, rfl⟩
      have hi3 : i < 3 := by omega
      refine ⟨_, rfl, p, c, _, 2, rfl, hp9, by omega, by decide, by decide, fun wt H10 wt0 wt1 hp10 k9 => ?_⟩
      have gG := k9 _ _ gG npG.symm ncG.symm
      have gA := k9 _ _ gA pA1 pA2
      have gB := k9 _ _ gB pB1 pB2
      have gO := k9 _ _ gO npO.symm ncO.symm
      have tA := tA.ext (vk k9)
      have tB := tB.ext (vk k9)
      have tO := tO.ext (vk k9)
      have T10 := hp9.tabs T9 k9
      have k010 := k09.trans k9
      obtain rfl | rfl : wt = 0 ∨ wt = 1 := by omega
      · refine ⟨_, rfl, _, rfl, G, _, 0, _, rfl, rfl, SqL.of gG, rfl, ?_⟩
        refine ⟨_, rfl, _, rfl, p, c, _, .ref O, rfl, hp10, by omega, .inl ⟨O, oV, rfl, npO.symm, ncO.symm, gO, by omega, by omega, fun vx H11 hx hp11 k11 => ?_⟩⟩
        obtain ⟨d, hdo, tx⟩ := tO.mem hx
        have gG := k11 _ _ gG npG.symm ncG.symm
        have gA := k11 _ _ gA pA1 pA2
        have gB := k11 _ _ gB pB1 pB2
        have gO := k11 _ _ gO npO.symm ncO.symm
        have tA := tA.ext (vk k11)
        have tB := tB.ext (vk k11)
        have tO := tO.ext (vk k11)
        have tx := tx.ext (vk k11)
        have T11 := hp10.tabs T10 k11
        have k011 := k010.trans k11
        clear hp9 hp10 k9 k11
        refine ⟨fun σ' H' => ∃ (vx : V) (d : PyData), σ' = [some (.ref p), some (.ref l), some (.ref O), some (.ref G), some (.int (0 + (i : Nat))), some (.int 0), some (.ref A), some vx, x8, none, none, none, none, none, none] ∧ TV (vis [p, c, G] H') vx d ∧ OkD ns d ∧ (d ∈ oddL ∨ d ∈ ds) ∧ PenAt H' p c (n + 1 + 5 * i + 4) ∧ Keep p c H11 H', ?_, ?_⟩
        · refine ⟨_, rfl, (by show 0 ≤ sizeLine; decide), fun em nem => ?_⟩
          have ee := Ext.upd (o := HO.lst []) nem
          have kee : Keep p c H11 (upd H11 em (.lst [])) := Keep.ext ee
          refine ⟨A, em, xs, rfl, rfl, at_new nem gA, upd_same, _, rfl, ?_⟩
          have plain : ∀ Hz, Keep p c H11 Hz → PenAt Hz p c (n + 1 + 5 * i + 4) → ∃ (vx' : V) (d : PyData), [some (V.ref p), some (.ref l), some (.ref O), some (.ref G), some (.int (0 + (i : Nat))), some (.int 0), some (.ref A), some vx, x8, none, none, none, none, none, none] = [some (.ref p), some (.ref l), some (.ref O), some (.ref G), some (.int (0 + (i : Nat))), some (.int 0), some (.ref A), some vx', x8, none, none, none, none, none, none] ∧ TV (vis [p, c, G] Hz) vx' d ∧ OkD ns d ∧ (d ∈ oddL ∨ d ∈ ds) ∧ PenAt Hz p c (n + 1 + 5 * i + 4) ∧ Keep p c H11 Hz := fun Hz kz hz => ⟨vx, d, rfl, tx.ext (vk kz), .inr hdo, .inl hdo, hz, kz⟩
          by_cases hne : xs = []
          · have : (!xs.isEmpty) = false := by rw [hne]; rfl
            exact iteNo this (iteF (plain _ kee ((hp11.mono (by omega)).ext ee)))
          refine iteYes (by cases q : xs with | nil => exact absurd q hne | cons a r => rfl) ?_
          refine ⟨_, rfl, p, c, _, 2, rfl, hp11.ext ee, by omega, by decide, by decide, fun w1 H12 _ _ hp12 k12 => ⟨rfl, _, rfl, ?_⟩⟩
          have k1112 := kee.trans k12
          refine ite2 (fun _ => ?_) (fun _ => plain _ k1112 (hp12.mono (by omega)))
          have g12 := k1112 _ _ gA pA1 pA2
          have hpos : 0 < xs.length := List.length_pos_iff.mpr hne
          refine ⟨_, rfl, _, rfl, _, rfl, A, _, rfl, .inl (SqL.of g12), p, c, _, xs.length, rfl, hp12, by omega, by omega, by omega, fun w2 H13 w20 w21 hp13 k13 => ?_⟩
          have k1113 := k1112.trans k13
          have g13 := k1113 _ _ gA pA1 pA2
          have hlt : w2.toNat < xs.length := by omega
          have tX := tA.ext (vk k1113)
          obtain ⟨d2, hd2, tx2⟩ := tX.at_ (List.getElem?_eq_getElem hlt)
          have hm2 := List.mem_of_getElem? hd2
          refine ⟨A, xs, w2, xs[w2.toNat], rfl, rfl, SqL.of g13, atI_at (j := w2.toNat) (by omega) (List.getElem?_eq_getElem hlt), _, d2, rfl, tx2, okA d2 hm2, .inr hm2, hp13.mono (by omega), k1113⟩
        · rintro σ' H12 ⟨vx, d, rfl, tx, okd, hcase, hp12, k12⟩
          have gG := k12 _ _ gG npG.symm ncG.symm
          have gA := k12 _ _ gA pA1 pA2
          have gB := k12 _ _ gB pB1 pB2
          have gO := k12 _ _ gO npO.symm ncO.symm
          have tA := tA.ext (vk k12)
          have tB := tB.ext (vk k12)
          have tO := tO.ext (vk k12)
          have T12 := hp11.tabs T11 k12
          have k012 := k011.trans k12
          refine ⟨_, rfl, _, rfl, A, _, rfl, .inl (SqL.of gA), _, _, rfl, rfl, p, c, _, (xs.length : Int) + 1, rfl, hp12, by omega, by omega, by omega, fun sp H13 sp0 sp1 hp13 k13 => ?_⟩
          have gG := k13 _ _ gG npG.symm ncG.symm
          have gA := k13 _ _ gA pA1 pA2
          have gB := k13 _ _ gB pB1 pB2
          have gO := k13 _ _ gO npO.symm ncO.symm
          have tA := tA.ext (vk k13)
          have tB := tB.ext (vk k13)
          have tO := tO.ext (vk k13)
          have tx := tx.ext (vk k13)
          have T13 := hp12.tabs T12 k13
          have k013 := k012.trans k13
          refine ⟨_, rfl, _, rfl, _, rfl, A, _, rfl, SqL.of gA, fun s1 ns1 => ?_⟩
          rw [cutV_to _ sp0]
          have i1 := Ext.upd (o := HO.lst (xs.take sp.toNat)) ns1
          have j1 := upd_same (H := H13) (a := s1) (o := HO.lst (xs.take sp.toNat))
          generalize (upd H13 s1 (.lst (xs.take sp.toNat))) = I1 at i1 j1
          refine ⟨_, rfl, (by show 1 ≤ sizeLine; decide), fun s2 ns2 => ?_⟩
          have i2 := i1.trans (Ext.upd (o := HO.lst [vx]) ns2)
          have j1 := at_new (o' := HO.lst [vx]) ns2 j1
          have j2 := upd_same (H := I1) (a := s2) (o := HO.lst [vx])
          generalize (upd I1 s2 (.lst [vx])) = I2 at i2 j1 j2
          refine ⟨s1, s2, _, _, rfl, rfl, j1, j2, by rw [List.length_take]; show min sp.toNat xs.length + 1 ≤ sizeLine; omega, fun s3 ns3 => ?_⟩
          have i3 := i2.trans (Ext.upd (o := HO.lst (xs.take sp.toNat ++ [vx])) ns3)
          have j3 := upd_same (H := I2) (a := s3) (o := HO.lst (xs.take sp.toNat ++ [vx]))
          generalize (upd I2 s3 (.lst (xs.take sp.toNat ++ [vx]))) = I3 at i3 j3
          refine ⟨_, rfl, _, rfl, _, rfl, A, _, rfl, SqL.of (i3 _ _ gA), fun s4 ns4 => ?_⟩
          rw [cutV_from _ sp0]
          have i4 := i3.trans (Ext.upd (o := HO.lst (xs.drop sp.toNat)) ns4)
          have j3 := at_new (o' := HO.lst (xs.drop sp.toNat)) ns4 j3
          have j4 := upd_same (H := I3) (a := s4) (o := HO.lst (xs.drop sp.toNat))
          generalize (upd I3 s4 (.lst (xs.drop sp.toNat))) = I4 at i4 j3 j4
          refine ⟨s3, s4, _, _, rfl, rfl, j3, j4, by rw [List.length_append, List.length_take, List.length_drop]; show min sp.toNat xs.length + 1 + (xs.length - sp.toNat) ≤ sizeLine; omega, fun R nR => ?_⟩
          have i5 := i4.trans (Ext.upd (o := HO.lst (xs.take sp.toNat ++ [vx] ++ xs.drop sp.toNat)) nR)
          have jR : (upd I4 R (.lst (xs.take sp.toNat ++ [vx] ++ xs.drop sp.toNat))) R = some (.lst (putAt xs sp.toNat vx)) := upd_same
          have nR13 : H13 R = none := ext_free i4 nR
          generalize (upd I4 R (.lst (xs.take sp.toNat ++ [vx] ++ xs.drop sp.toNat))) = I5 at i5 jR
          have gG5 := i5 _ _ gG
          have pR : R ≠ p ∧ R ≠ c ∧ R ≠ G := ⟨(hp13.ne nR13).1.symm, (hp13.ne nR13).2.symm, (ne_of_none gG nR13).symm⟩
          have hp5 := hp13.ext i5
          have T5 := T13.ext i5
          have vz : Ext (vis [p, c, G] H13) (vis [p, c, G] (upd I5 G (.lst [.ref R, .ref B]))) := by
            rw [vis_upd (by simp)]
            exact vis_mono i5
          have tA' := tA.ext vz
          have tB' := tB.ext vz
          have tX' := tA.ext vz
          have tx' := tx.ext vz
          have tO' := tO.ext vz
          have gRz : (upd I5 G (.lst [.ref R, .ref B])) R = some (.lst (putAt xs sp.toNat vx)) := by rw [upd_ne pR.2.2]; exact jR
          have gA' : (upd I5 G (.lst [.ref R, .ref B])) A = some (.lst xs) := by rw [upd_ne pA3]; exact i5 _ _ gA
          have gB' : (upd I5 G (.lst [.ref R, .ref B])) B = some (.lst ys) := by rw [upd_ne pB3]; exact i5 _ _ gB
          have gO' : (upd I5 G (.lst [.ref R, .ref B])) O = some (.lst oV) := by rw [upd_ne nGO]; exact i5 _ _ gO
          refine ⟨_, rfl, _, rfl, G, _, _, 0, rfl, rfl, gG5, rfl, ?_⟩
          refine ⟨_, _, _, _, _, R, B, putAt xs sp.toNat vx, ys, putAt ds sp.toNat d, es, rfl, upd_same, gRz, gB', ⟨pR.1, pR.2.1, pR.2.2⟩, ⟨pB1, pB2, pB3⟩, tvs_put sp.toNat tX' tx', tB', fun y hy => (put_mem hy).elim (okA y) fun e => by rw [e]; exact okd, okB, by rw [put_len]; omega, by omega, gO', tO', ((hp5.mono (by omega)).upd npG ncG), fun b' o q h1 h2 => ?_, tabs_upd T5 gG5, .inr (by
            rcases hcase with ho | hm
            · exact .inl ⟨d, List.mem_append_left _ (put_at _ _ _), odd_no ho⟩
            · exact .inr (.inl (twice_put hm)))⟩
          rw [upd_ne (ne_of_none q nG0)]
          exact i5 _ _ (k013 _ _ q h1 h2)
      · refine ⟨_, rfl, _, rfl, G, _, 1, _, rfl, rfl, SqL.of gG, rfl, ?_⟩
        refine ⟨_, rfl, _, rfl, p, c, _, .ref O, rfl, hp10, by omega, .inl ⟨O, oV, rfl, npO.symm, ncO.symm, gO, by omega, by omega, fun vx H11 hx hp11 k11 => ?_⟩⟩
        obtain ⟨d, hdo, tx⟩ := tO.mem hx
        have gG := k11 _ _ gG npG.symm ncG.symm
        have gA := k11 _ _ gA pA1 pA2
        have gB := k11 _ _ gB pB1 pB2
        have gO := k11 _ _ gO npO.symm ncO.symm
        have tA := tA.ext (vk k11)
        have tB := tB.ext (vk k11)
        have tO := tO.ext (vk k11)
        have tx := tx.ext (vk k11)
        have T11 := hp10.tabs T10 k11
        have k011 := k010.trans k11
        clear hp9 hp10 k9 k11
        refine ⟨fun σ' H' => ∃ (vx : V) (d : PyData), σ' = [some (.ref p), some (.ref l), some (.ref O), some (.ref G), some (.int (0 + (i : Nat))), some (.int 1), some (.ref B), some vx, x8, none, none, none, none, none, none] ∧ TV (vis [p, c, G] H') vx d ∧ OkD ns d ∧ (d ∈ oddL ∨ d ∈ es) ∧ PenAt H' p c (n + 1 + 5 * i + 4) ∧ Keep p c H11 H', ?_, ?_⟩
        · refine ⟨_, rfl, (by show 0 ≤ sizeLine; decide), fun em nem => ?_⟩
          have ee := Ext.upd (o := HO.lst []) nem
          have kee : Keep p c H11 (upd H11 em (.lst [])) := Keep.ext ee
          refine ⟨B, em, ys, rfl, rfl, at_new nem gB, upd_same, _, rfl, ?_⟩
          have plain : ∀ Hz, Keep p c H11 Hz → PenAt Hz p c (n + 1 + 5 * i + 4) → ∃ (vx' : V) (d : PyData), [some (V.ref p), some (.ref l), some (.ref O), some (.ref G), some (.int (0 + (i : Nat))), some (.int 1), some (.ref B), some vx, x8, none, none, none, none, none, none] = [some (.ref p), some (.ref l), some (.ref O), some (.ref G), some (.int (0 + (i : Nat))), some (.int 1), some (.ref B), some vx', x8, none, none, none, none, none, none] ∧ TV (vis [p, c, G] Hz) vx' d ∧ OkD ns d ∧ (d ∈ oddL ∨ d ∈ es) ∧ PenAt Hz p c (n + 1 + 5 * i + 4) ∧ Keep p c H11 Hz := fun Hz kz hz => ⟨vx, d, rfl, tx.ext (vk kz), .inr hdo, .inl hdo, hz, kz⟩
          by_cases hne : ys = []
          · have : (!ys.isEmpty) = false := by rw [hne]; rfl
            exact iteNo this (iteF (plain _ kee ((hp11.mono (by omega)).ext ee)))
          refine iteYes (by cases q : ys with | nil => exact absurd q hne | cons a r => rfl) ?_
          refine ⟨_, rfl, p, c, _, 2, rfl, hp11.ext ee, by omega, by decide, by decide, fun w1 H12 _ _ hp12 k12 => ⟨rfl, _, rfl, ?_⟩⟩
          have k1112 := kee.trans k12
          refine ite2 (fun _ => ?_) (fun _ => plain _ k1112 (hp12.mono (by omega)))
          have g12 := k1112 _ _ gB pB1 pB2
          have hpos : 0 < ys.length := List.length_pos_iff.mpr hne
          refine ⟨_, rfl, _, rfl, _, rfl, B, _, rfl, .inl (SqL.of g12), p, c, _, ys.length, rfl, hp12, by omega, by omega, by omega, fun w2 H13 w20 w21 hp13 k13 => ?_⟩
          have k1113 := k1112.trans k13
          have g13 := k1113 _ _ gB pB1 pB2
          have hlt : w2.toNat < ys.length := by omega
          have tX := tB.ext (vk k1113)
          obtain ⟨d2, hd2, tx2⟩ := tX.at_ (List.getElem?_eq_getElem hlt)
          have hm2 := List.mem_of_getElem? hd2
          refine ⟨B, ys, w2, ys[w2.toNat], rfl, rfl, SqL.of g13, atI_at (j := w2.toNat) (by omega) (List.getElem?_eq_getElem hlt), _, d2, rfl, tx2, okB d2 hm2, .inr hm2, hp13.mono (by omega), k1113⟩
        · rintro σ' H12 ⟨vx, d, rfl, tx, okd, hcase, hp12, k12⟩
          have gG := k12 _ _ gG npG.symm ncG.symm
          have gA := k12 _ _ gA pA1 pA2
          have gB := k12 _ _ gB pB1 pB2
          have gO := k12 _ _ gO npO.symm ncO.symm
          have tA := tA.ext (vk k12)
          have tB := tB.ext (vk k12)
          have tO := tO.ext (vk k12)
          have T12 := hp11.tabs T11 k12
          have k012 := k011.trans k12
          refine ⟨_, rfl, _, rfl, B, _, rfl, .inl (SqL.of gB), _, _, rfl, rfl, p, c, _, (ys.length : Int) + 1, rfl, hp12, by omega, by omega, by omega, fun sp H13 sp0 sp1 hp13 k13 => ?_⟩
          have gG := k13 _ _ gG npG.symm ncG.symm
          have gA := k13 _ _ gA pA1 pA2
          have gB := k13 _ _ gB pB1 pB2
          have gO := k13 _ _ gO npO.symm ncO.symm
          have tA := tA.ext (vk k13)
          have tB := tB.ext (vk k13)
          have tO := tO.ext (vk k13)
          have tx := tx.ext (vk k13)
          have T13 := hp12.tabs T12 k13
          have k013 := k012.trans k13
          refine ⟨_, rfl, _, rfl, _, rfl, B, _, rfl, SqL.of gB, fun s1 ns1 => ?_⟩
          rw [cutV_to _ sp0]
          have i1 := Ext.upd (o := HO.lst (ys.take sp.toNat)) ns1
          have j1 := upd_same (H := H13) (a := s1) (o := HO.lst (ys.take sp.toNat))
          generalize (upd H13 s1 (.lst (ys.take sp.toNat))) = I1 at i1 j1
          refine ⟨_, rfl, (by show 1 ≤ sizeLine; decide), fun s2 ns2 => ?_⟩
          have i2 := i1.trans (Ext.upd (o := HO.lst [vx]) ns2)
          have j1 := at_new (o' := HO.lst [vx]) ns2 j1
          have j2 := upd_same (H := I1) (a := s2) (o := HO.lst [vx])
          generalize (upd I1 s2 (.lst [vx])) = I2 at i2 j1 j2
          refine ⟨s1, s2, _, _, rfl, rfl, j1, j2, by rw [List.length_take]; show min sp.toNat ys.length + 1 ≤ sizeLine; omega, fun s3 ns3 => ?_⟩
          have i3 := i2.trans (Ext.upd (o := HO.lst (ys.take sp.toNat ++ [vx])) ns3)
          have j3 := upd_same (H := I2) (a := s3) (o := HO.lst (ys.take sp.toNat ++ [vx]))
          generalize (upd I2 s3 (.lst (ys.take sp.toNat ++ [vx]))) = I3 at i3 j3
          refine ⟨_, rfl, _, rfl, _, rfl, B, _, rfl, SqL.of (i3 _ _ gB), fun s4 ns4 => ?_⟩
          rw [cutV_from _ sp0]
          have i4 := i3.trans (Ext.upd (o := HO.lst (ys.drop sp.toNat)) ns4)
          have j3 := at_new (o' := HO.lst (ys.drop sp.toNat)) ns4 j3
          have j4 := upd_same (H := I3) (a := s4) (o := HO.lst (ys.drop sp.toNat))
          generalize (upd I3 s4 (.lst (ys.drop sp.toNat))) = I4 at i4 j3 j4
          refine ⟨s3, s4, _, _, rfl, rfl, j3, j4, by rw [List.length_append, List.length_take, List.length_drop]; show min sp.toNat ys.length + 1 + (ys.length - sp.toNat) ≤ sizeLine; omega, fun R nR => ?_⟩
          have i5 := i4.trans (Ext.upd (o := HO.lst (ys.take sp.toNat ++ [vx] ++ ys.drop sp.toNat)) nR)
          have jR : (upd I4 R (.lst (ys.take sp.toNat ++ [vx] ++ ys.drop sp.toNat))) R = some (.lst (putAt ys sp.toNat vx)) := upd_same
          have nR13 : H13 R = none := ext_free i4 nR
          generalize (upd I4 R (.lst (ys.take sp.toNat ++ [vx] ++ ys.drop sp.toNat))) = I5 at i5 jR
          have gG5 := i5 _ _ gG
          have pR : R ≠ p ∧ R ≠ c ∧ R ≠ G := ⟨(hp13.ne nR13).1.symm, (hp13.ne nR13).2.symm, (ne_of_none gG nR13).symm⟩
          have hp5 := hp13.ext i5
          have T5 := T13.ext i5
          have vz : Ext (vis [p, c, G] H13) (vis [p, c, G] (upd I5 G (.lst [.ref A, .ref R]))) := by
            rw [vis_upd (by simp)]
            exact vis_mono i5
          have tA' := tA.ext vz
          have tB' := tB.ext vz
          have tX' := tB.ext vz
          have tx' := tx.ext vz
          have tO' := tO.ext vz
          have gRz : (upd I5 G (.lst [.ref A, .ref R])) R = some (.lst (putAt ys sp.toNat vx)) := by rw [upd_ne pR.2.2]; exact jR
          have gA' : (upd I5 G (.lst [.ref A, .ref R])) A = some (.lst xs) := by rw [upd_ne pA3]; exact i5 _ _ gA
          have gB' : (upd I5 G (.lst [.ref A, .ref R])) B = some (.lst ys) := by rw [upd_ne pB3]; exact i5 _ _ gB
          have gO' : (upd I5 G (.lst [.ref A, .ref R])) O = some (.lst oV) := by rw [upd_ne nGO]; exact i5 _ _ gO
          refine ⟨_, rfl, _, rfl, G, _, _, 1, rfl, rfl, gG5, rfl, ?_⟩
          refine ⟨_, _, _, _, _, A, R, xs, putAt ys sp.toNat vx, ds, putAt es sp.toNat d, rfl, upd_same, gA', gRz, ⟨pA1, pA2, pA3⟩, ⟨pR.1, pR.2.1, pR.2.2⟩, tA', tvs_put sp.toNat tX' tx', okA, fun y hy => (put_mem hy).elim (okB y) fun e => by rw [e]; exact okd, by omega, by rw [put_len]; omega, gO', tO', ((hp5.mono (by omega)).upd npG ncG), fun b' o q h1 h2 => ?_, tabs_upd T5 gG5, .inr (by
            rcases hcase with ho | hm
            · exact .inl ⟨d, List.mem_append_right _ (put_at _ _ _), odd_no ho⟩
            · exact .inr (.inr (twice_put hm)))⟩
          rw [upd_ne (ne_of_none q nG0)]
          exact i5 _ _ (k013 _ _ q h1 h2)
    · rintro σ H9 ⟨x4, x5, x6, x7, x8, A, B, xs, ys, ds, es, rfl, gG, gA, gB, ⟨pA1, pA2, pA3⟩, ⟨pB1, pB2, pB3⟩, tA, tB, okA, okB, lA, lB, gO, tO, hp9, k09, T9, hoff⟩
      have hoff : Off1 ds es := hoff.resolve_left (by omega)
      have lA : xs.length ≤ 10 := by omega
      have lB : ys.length ≤ 10 := by omega
      clear hT T7 T8 hp7 hp8 k08 k8 fA fB fG fO fO7 tvO tvO7 tO gO pa4 e5 e6
      refine ⟨(by show 5 ≤ sizeLine; decide), fun BL nBL => ?_⟩
      have fBL : (upd H9 BL (.lst (badS.map V.str))) BL = some (.lst (badS.map V.str)) := upd_same
      have e10 := Ext.upd (o := HO.lst (badS.map V.str)) nBL
      show gName 9 (.ref BL) _ (upd H9 BL (.lst (badS.map V.str))) _
      generalize (upd H9 BL (.lst (badS.map V.str))) = H10 at fBL e10
      have gG := e10 _ _ gG
      have gA := e10 _ _ gA
      have gB := e10 _ _ gB
      have tA := (tA.ext vis_ext).ext e10
      have tB := (tB.ext vis_ext).ext e10
      have tAB := tvs_app tA tB
      have okAB : ∀ d ∈ ds ++ es, OkD ns d := fun d hd => (List.mem_append.mp hd).elim (okA d) (okB d)
      have hp10 := hp9.ext e10
      have T10 := T9.ext e10
      have k010 := k09.trans (Keep.ext e10)
      clear hp9 T9 k09 e10
      refine ⟨_, rfl, G, _, 0, _, rfl, rfl, SqL.of gG, rfl, _, rfl, G, _, 1, _, rfl, rfl, SqL.of gG, rfl, A, B, _, _, rfl, rfl, gA, gB, by omega, fun X nX => ?_⟩
      have fX := upd_same (H := H10) (a := X) (o := HO.lst (xs ++ ys))
      have e11 := Ext.upd (o := HO.lst (xs ++ ys)) nX
      generalize (upd H10 X (.lst (xs ++ ys))) = H11 at fX e11
      have gG := e11 _ _ gG
      have gA := e11 _ _ gA
      have gB := e11 _ _ gB
      have fBL := e11 _ _ fBL
      have tA := tA.ext e11
      have tB := tB.ext e11
      have tAB := tAB.ext e11
      have hp11 := hp10.ext e11
      have T11 := T10.ext e11
      have k011 := k010.trans (Keep.ext e11)
      clear hp10 T10 k010 e11
      have lX : (xs ++ ys).length ≤ 20 := by rw [List.length_append]; omega
      refine ⟨X, rfl, ⟨_, SqL.of fX⟩, fun D hD => ?_⟩
      refine lc_it walk_list (fun i H' => H' = upd H11 D (.lst (selB ((xs ++ ys).take i) ((ds ++ es).take i)))) (by simp [selB]) (fun i H' _ e => SqL.of (by rw [e]; exact at_new hD fX)) ?_ ?_
      · rintro i x Hx _ hi rfl ⟨rfl, hx⟩
        obtain ⟨d, hd, tv⟩ := tAB.at_ hx
        have eD := Ext.upd (o := HO.lst (selB ((xs ++ ys).take i) ((ds ++ es).take i))) hD
        have tv := tv.ext eD
        have wi := wrong_iff six.nm (okAB d (List.mem_of_getElem? hd))
        have sn := selB_snoc hx hd
        have keepIt : nameOf d = none → ∃ acc, (upd H11 D (.lst (selB ((xs ++ ys).take i) ((ds ++ es).take i)))) D = some (.lst acc) ∧ acc.length < sizeLine ∧ upd (upd H11 D (.lst (selB ((xs ++ ys).take i) ((ds ++ es).take i)))) D (.lst (acc ++ [x])) = upd H11 D (.lst (selB ((xs ++ ys).take (i + 1)) ((ds ++ es).take (i + 1)))) := fun hno => by
          refine ⟨_, upd_same, ?_, ?_⟩
          · have := selB_len ((xs ++ ys).take i) ((ds ++ es).take i)
            have := List.length_take_le i (xs ++ ys)
            omega
          · rw [upd_upd, sn, if_pos hno]
        have drop : nameOf d ≠ none → upd H11 D (.lst (selB ((xs ++ ys).take i) ((ds ++ es).take i))) = upd H11 D (.lst (selB ((xs ++ ys).take (i + 1)) ((ds ++ es).take (i + 1)))) := fun hno => by
          rw [sn, if_neg hno, List.append_nil]
        refine ⟨rfl, _, rfl, _, _, _, _, isStrD d, rfl, .ty "str", tyX_of tv, kit_str d, _, rfl, ?_⟩
        cases hs : isStrD d with
        | false =>
          exact iteT (iteT ⟨_, rfl, keepIt (wi.mpr (.inl hs))⟩)
        | true =>
          obtain ⟨z, rfl⟩ := strD hs
          cases tv_str tv
          refine iteF ?_
          refine ⟨_, rfl, _, rfl, BL, _, rfl, .inl (SqL.of (eD _ _ fBL)), rfl, flat_strs _, ?_⟩
          rw [inV_strs]
          by_cases hz : z ∈ badS
          · rw [decide_eq_true hz]
            exact ⟨_, rfl, iteT ⟨_, rfl, keepIt (wi.mpr (.inr ⟨z, hz, rfl⟩))⟩⟩
          · rw [decide_eq_false hz]
            refine ⟨_, rfl, iteF (drop fun hno => ?_)⟩
            rcases wi.mp hno with h1 | ⟨y, hy, e⟩
            · rw [hs] at h1; cases h1
            · cases e; exact hz hy
      rintro H12 rfl
      rw [List.take_of_length_le (Nat.le_refl _), List.take_of_length_le (by rw [← tAB.len]; exact Nat.le_refl _)]
      obtain ⟨selN, selS⟩ := selB_bad tAB
      have e12 := Ext.upd (o := HO.lst (selB (xs ++ ys) (ds ++ es))) hD
      have fW := upd_same (H := H11) (a := D) (o := HO.lst (selB (xs ++ ys) (ds ++ es)))
      generalize (upd H11 D (.lst (selB (xs ++ ys) (ds ++ es)))) = H12 at e12 fW
      have gG := e12 _ _ gG
      have gA := e12 _ _ gA
      have gB := e12 _ _ gB
      have tA := tA.ext e12
      have tB := tB.ext e12
      have hp12 := hp11.ext e12
      have T12 := T11.ext e12
      have k012 := k011.trans (Keep.ext e12)
      have nl : ∀ {zs : List V} (ps : _), HO.lst zs ≠ .tbl ps := fun ps z => nomatch z
      refine ⟨T12, fun H13 x13 T13 E' Q' hE hQ => ?_⟩
      have gG13 := x13 _ _ gG nl
      have gA13 := x13 _ _ gA nl
      have gB13 := x13 _ _ gB nl
      have fW13 := x13 _ _ fW nl
      have tA13 := tvs_N tA x13
      have tB13 := tvs_N tB x13
      have hp13 := hp12.extN x13
      have k013 : KeepN p c H H13 := (KeepN.of k012).trans (KeepN.extN x13)
      have aA : ArgsAt H13 xs ds := ⟨tA13, fun d hd => okd_sm six.nm (okA d hd), by omega⟩
      have aB : ArgsAt H13 ys es := ⟨tB13, fun d hd => okd_sm six.nm (okB d hd), by omega⟩
      refine ⟨_, rfl, G, _, 0, _, rfl, rfl, SqL.of gG13, rfl, _, rfl, G, _, 1, _, rfl, rfl, SqL.of gG13, rfl, mk_any (.inl (SqL.of gA13)) (.inl (SqL.of gB13)) aA aB (by omega) (by omega) (fun d hd v H14 e14 hv dd H15 e15 q15 => hE _ _ _ ⟨CN, dd, v, "value", "name", rfl, rfl, nw_ext _ _ q15, .inl ⟨rfl, rfl, rfl⟩, fun Pt H16 e16 hPt => ?_⟩) (fun nb z hz dd H15 e15 q15 => hE _ _ _ ⟨CW, dd, .str z, "name", "twice", rfl, rfl, nw_ext _ _ q15, .inr (.inl ⟨rfl, rfl, rfl⟩), fun Pt H16 e16 hPt => ?_⟩) (fun nb nt => absurd nt (off_names hoff nb))⟩
      · have e1316 := e14.trans (e15.trans e16)
        have hv := hv.ext (e15.trans e16)
        have hPt := nw_ext _ _ hPt
        have fW16 := e1316 _ _ fW13
        obtain ⟨x0, r0, hsel, tv0⟩ := selS d hd
        have tv0 := (tv_N (tv0.ext e12) x13).ext e1316
        have okd := okAB d (bad_in hd)
        obtain ⟨sd, dd1⟩ := okd_shw six.nm okd
        have sw : Shw 300 (.tuple [.str "name", d]) := (Shw.tup2 (Shw.str (n := 10) ⟨by decide +kernel, by decide +kernel⟩) sd (by show 0 < 20; decide) (by omega)).mono (by decide)
        refine ⟨_, rfl, (by show 0 ≤ sizeLine; decide), fun em nem => ?_⟩
        have e17 := Ext.upd (o := HO.lst []) nem
        refine ⟨D, em, _, rfl, rfl, at_new nem fW16, upd_same, _, rfl, iteYes (by rw [hsel]; rfl) ?_⟩
        have hPt := e17 _ _ hPt
        have fW17 := e17 _ _ fW16
        have hv := hv.ext e17
        have tv0 := tv0.ext e17
        have eF := e1316.trans e17
        generalize (upd H16 em (.lst [])) = H17 at hPt fW17 hv tv0 eF
        refine ⟨_, rfl, _, _, _, _, true, rfl, .ty "tuple", .base (.tup hPt), kit_ty (by decide +kernel), _, rfl, iteT ?_⟩
        refine ⟨_, rfl, .ref Pt, .tuple [.str "name", d], rfl, .tup hPt (.cons (.str _) (.cons hv .nil)), sw.sh, Nat.le_trans sw.dp (by decide), Nat.le_trans sw.ln (by decide), ?_⟩
        refine ⟨_, rfl, D, _, 0, x0, rfl, rfl, SqL.of fW17, by rw [hsel]; exact atI_nat (j := 0) rfl, (by show 2 ≤ sizeLine; decide), fun tp ntp => ?_⟩
        have e18 := Ext.upd (o := HO.tup [V.str "name", x0]) ntp
        refine ⟨.ref tp, .tuple [.str "name", d], rfl, .tup upd_same (.cons (.str _) (.cons (tv0.ext e18) .nil)), sw.sh, Nat.le_trans sw.dp (by decide), Nat.le_trans sw.ln (by decide), rfl, ?_⟩
        rw [decide_eq_true rfl]
        have eF := eF.trans e18
        exact kk _ ((hp13.mono (by omega)).ext eF) (k013.trans (KeepN.of (Keep.ext eF))) (T13.ext eF)
      · have e1316 := e15.trans e16
        have hPt := nw_ext _ _ hPt
        have fW16 := e1316 _ _ fW13
        have hsel := selN nb
        have nb1 : badOf ds = none := bad_all fun j d hd hn => bad_some (List.mem_append_left es (List.mem_of_getElem? hd)) hn nb
        have nb2 : badOf es = none := bad_all fun j d hd hn => bad_some (List.mem_append_right ds (List.mem_of_getElem? hd)) hn nb
        have exs := aA.names nb1
        have eys := aB.names nb2
        obtain ⟨us, hus⟩ : ∃ us, namesOf ds = us := ⟨_, rfl⟩
        obtain ⟨ws, hws⟩ : ∃ ws, namesOf es = ws := ⟨_, rfl⟩
        rw [hus] at exs hz
        rw [hws] at eys hz
        subst exs eys
        rw [List.length_map] at lA lB
        refine ⟨_, rfl, (by show 0 ≤ sizeLine; decide), fun em nem => ?_⟩
        have e17 := Ext.upd (o := HO.lst []) nem
        refine ⟨D, em, _, rfl, rfl, at_new nem fW16, upd_same, _, rfl, iteNo (by rw [hsel]; rfl) ?_⟩
        have hPt := e17 _ _ hPt
        have eF := e1316.trans e17
        generalize (upd H16 em (.lst [])) = H17 at hPt eF
        have gG17 := eF _ _ gG13
        have gA17 := eF _ _ gA13
        have gB17 := eF _ _ gB13
        refine ⟨_, rfl, G, _, 0, _, rfl, rfl, SqL.of gG17, rfl, A, _, rfl, .inl (SqL.of gA17), us.length, by rw [List.length_map], by omega, by omega, fun D2 hD2 => ?_⟩
        refine lc_it walk_range (fun i H' => ∃ acc : List Str, H' D2 = some (.lst (acc.map V.str)) ∧ acc ++ dupF (us.take i) (us.drop i) = dupF [] us ∧ acc.length ≤ i ∧ Ext H17 H') ⟨[], upd_same, by simp, Nat.le_refl _, Ext.upd hD2⟩ (fun _ _ _ _ => trivial) ?_ ?_
        · rintro i x H18 _ hi ⟨acc, g2, hd2, hla, ex⟩ ⟨rfl, rfl⟩
          have hi' : i < us.length := by omega
          have hg := List.getElem?_eq_getElem hi'
          obtain ⟨z1, hz1⟩ : ∃ z1, us[i]? = some z1 := ⟨_, hg⟩
          have at1 : atI (us.map V.str) (0 + (i : Int)) = some (.str z1) := by
            rw [Int.zero_add]
            exact atI_nat (by rw [List.getElem?_map, hz1]; rfl)
          have hdr : us.drop i = z1 :: us.drop (i + 1) := by
            obtain ⟨h1, h2⟩ := List.getElem?_eq_some_iff.mp hz1
            rw [List.drop_eq_getElem_cons h1, h2]
          have htk : us.take (i + 1) = us.take i ++ [z1] := by rw [List.take_add_one, hz1]; rfl
          have hst : dupF (us.take i) (us.drop i) = if z1 ∈ us.take i then z1 :: dupF (us.take (i + 1)) (us.drop (i + 1)) else dupF (us.take (i + 1)) (us.drop (i + 1)) := by rw [hdr, htk]; rfl
          refine ⟨rfl, _, rfl, G, _, 0, _, rfl, rfl, SqL.of (ex _ _ gG17), rfl, _, rfl, A, _, _, _, rfl, rfl, SqL.of (ex _ _ gA17), at1, _, rfl, G, _, 0, _, rfl, rfl, SqL.of (ex _ _ gG17), rfl, _, rfl, _, rfl, A, _, rfl, SqL.of (ex _ _ gA17), fun S nS => ?_⟩
          rw [cutM_to _ (by omega), show (0 + (i : Int)).toNat = i by omega]
          have eS := Ext.upd (o := HO.lst ((us.take i).map V.str)) nS
          refine ⟨S, _, rfl, .inl (SqL.of upd_same), rfl, flat_strs _, ?_⟩
          rw [inV_strs]
          by_cases hm : z1 ∈ us.take i
          · refine ⟨_, rfl, iteYes (decide_eq_true hm) ?_⟩
            refine ⟨_, rfl, G, _, 0, _, rfl, rfl, SqL.of (eS _ _ (ex _ _ gG17)), rfl, _, rfl, A, _, _, _, rfl, rfl, SqL.of (eS _ _ (ex _ _ gA17)), at1, _, eS _ _ g2, by rw [List.length_map]; omega, acc ++ [z1], by rw [upd_same, List.map_append]; rfl, ?_, by rw [List.length_append]; show acc.length + 1 ≤ i + 1; omega, ?_⟩
            · rw [hst, if_pos hm] at hd2
              rw [List.append_assoc]
              exact hd2
            · intro b o q
              rw [upd_ne (ne_of_none q hD2)]
              exact eS _ _ (ex _ _ q)
          · refine ⟨_, rfl, iteNo (decide_eq_false hm) ⟨acc, eS _ _ g2, ?_, by omega, ex.trans eS⟩⟩
            rw [hst, if_neg hm] at hd2
            exact hd2
        rintro H18 ⟨acc, g2, hd2, hla, ex⟩
        have hac : acc = dupF [] us := by
          have h1 : us.take (us.length : Int).toNat = us := by rw [Int.toNat_natCast]; exact List.take_length
          have h2 : us.drop (us.length : Int).toNat = [] := by rw [Int.toNat_natCast]; exact List.drop_length
          rw [h1, h2] at hd2
          simpa [dupF] using hd2
        have hla : acc.length ≤ 10 := by
          have : (us.length : Int).toNat = us.length := Int.toNat_natCast _
          omega
        have gG18 := ex _ _ gG17
        have gA18 := ex _ _ gA17
        have gB18 := ex _ _ gB17
        refine ⟨_, rfl, _, rfl, G, _, 1, _, rfl, rfl, SqL.of gG18, rfl, B, _, rfl, .inl (SqL.of gB18), ws.length, by rw [List.length_map], by omega, by omega, fun D3 hD3 => ?_⟩
        refine lc_it walk_range (fun i H' => ∃ acc : List Str, H' D3 = some (.lst (acc.map V.str)) ∧ acc ++ dupF (ws.take i) (ws.drop i) = dupF [] ws ∧ acc.length ≤ i ∧ Ext H18 H') ⟨[], upd_same, by simp, Nat.le_refl _, Ext.upd hD3⟩ (fun _ _ _ _ => trivial) ?_ ?_
        · rintro i x H19 _ hi ⟨acc, g2, hd2, hla, ex⟩ ⟨rfl, rfl⟩
          have hi' : i < ws.length := by omega
          have hg := List.getElem?_eq_getElem hi'
          obtain ⟨z1, hz1⟩ : ∃ z1, ws[i]? = some z1 := ⟨_, hg⟩
          have at1 : atI (ws.map V.str) (0 + (i : Int)) = some (.str z1) := by
            rw [Int.zero_add]
            exact atI_nat (by rw [List.getElem?_map, hz1]; rfl)
          have hdr : ws.drop i = z1 :: ws.drop (i + 1) := by
            obtain ⟨h1, h2⟩ := List.getElem?_eq_some_iff.mp hz1
            rw [List.drop_eq_getElem_cons h1, h2]
          have htk : ws.take (i + 1) = ws.take i ++ [z1] := by rw [List.take_add_one, hz1]; rfl
          have hst : dupF (ws.take i) (ws.drop i) = if z1 ∈ ws.take i then z1 :: dupF (ws.take (i + 1)) (ws.drop (i + 1)) else dupF (ws.take (i + 1)) (ws.drop (i + 1)) := by rw [hdr, htk]; rfl
          refine ⟨rfl, _, rfl, G, _, 1, _, rfl, rfl, SqL.of (ex _ _ gG18), rfl, _, rfl, B, _, _, _, rfl, rfl, SqL.of (ex _ _ gB18), at1, _, rfl, G, _, 1, _, rfl, rfl, SqL.of (ex _ _ gG18), rfl, _, rfl, _, rfl, B, _, rfl, SqL.of (ex _ _ gB18), fun S nS => ?_⟩
          rw [cutM_to _ (by omega), show (0 + (i : Int)).toNat = i by omega]
          have eS := Ext.upd (o := HO.lst ((ws.take i).map V.str)) nS
          refine ⟨S, _, rfl, .inl (SqL.of upd_same), rfl, flat_strs _, ?_⟩
          rw [inV_strs]
          by_cases hm : z1 ∈ ws.take i
          · refine ⟨_, rfl, iteYes (decide_eq_true hm) ?_⟩
            refine ⟨_, rfl, G, _, 1, _, rfl, rfl, SqL.of (eS _ _ (ex _ _ gG18)), rfl, _, rfl, B, _, _, _, rfl, rfl, SqL.of (eS _ _ (ex _ _ gB18)), at1, _, eS _ _ g2, by rw [List.length_map]; omega, acc ++ [z1], by rw [upd_same, List.map_append]; rfl, ?_, by rw [List.length_append]; show acc.length + 1 ≤ i + 1; omega, ?_⟩
            · rw [hst, if_pos hm] at hd2
              rw [List.append_assoc]
              exact hd2
            · intro b o q
              rw [upd_ne (ne_of_none q hD3)]
              exact eS _ _ (ex _ _ q)
          · refine ⟨_, rfl, iteNo (decide_eq_false hm) ⟨acc, eS _ _ g2, ?_, by omega, ex.trans eS⟩⟩
            rw [hst, if_neg hm] at hd2
            exact hd2
        rintro H19 ⟨bcc, g3, hd3, hlb, ex2⟩
        have hbc : bcc = dupF [] ws := by
          have h1 : ws.take (ws.length : Int).toNat = ws := by rw [Int.toNat_natCast]; exact List.take_length
          have h2 : ws.drop (ws.length : Int).toNat = [] := by rw [Int.toNat_natCast]; exact List.drop_length
          rw [h1, h2] at hd3
          simpa [dupF] using hd3
        have hlb : bcc.length ≤ 10 := by
          have : (ws.length : Int).toNat = ws.length := Int.toNat_natCast _
          omega
        refine ⟨D2, D3, _, _, rfl, rfl, ex2 _ _ g2, g3, by rw [List.length_map, List.length_map]; omega, fun TW nTW => ?_⟩
        rw [← List.map_append]
        have fTW := upd_same (H := H19) (a := TW) (o := HO.lst ((acc ++ bcc).map V.str))
        have e20 := (ex.trans ex2).trans (Ext.upd (o := HO.lst ((acc ++ bcc).map V.str)) nTW)
        generalize (upd H19 TW (.lst ((acc ++ bcc).map V.str))) = H20 at fTW e20
        have hPt := e20 _ _ hPt
        have hhd : (acc ++ bcc).head? = some z := by rw [hac, hbc, dup_head]; exact hz
        obtain ⟨rs, hrs⟩ : ∃ rs, acc ++ bcc = z :: rs := by
          cases q : acc ++ bcc with
          | nil => rw [q] at hhd; cases hhd
          | cons y rs => rw [q] at hhd; cases hhd; exact ⟨rs, rfl⟩
        rw [hrs] at fTW
        have zn : isName z = true := by
          have hin : z ∈ us ∨ z ∈ ws := by
            have hsub : ∀ (r s : List Str), ∀ y ∈ dupF s r, y ∈ r := fun r => by
              induction r with
              | nil => intro s y hy; cases hy
              | cons a r ih =>
                intro s y hy
                have hy : y ∈ (if a ∈ s then a :: dupF (s ++ [a]) r else dupF (s ++ [a]) r) := hy
                by_cases ha : a ∈ s
                · rw [if_pos ha] at hy
                  rcases List.mem_cons.mp hy with rfl | hy
                  · simp
                  · exact List.mem_cons_of_mem _ (ih _ y hy)
                · rw [if_neg ha] at hy
                  exact List.mem_cons_of_mem _ (ih _ y hy)
            have : z ∈ acc ++ bcc := by rw [hrs]; simp
            rcases List.mem_append.mp this with h1 | h1
            · exact .inl (hsub _ _ z (by rw [← hac]; exact h1))
            · exact .inr (hsub _ _ z (by rw [← hbc]; exact h1))
          rcases hin with h1 | h1
          · exact (bad_none nb1).2 z (by rw [hus]; exact h1)
          · exact (bad_none nb2).2 z (by rw [hws]; exact h1)
        refine ⟨_, rfl, _, rfl, TW, _, 0, .str z, rfl, rfl, SqL.of fTW, atI_nat (j := 0) rfl, (by show 2 ≤ sizeLine; decide), fun tp ntp => ?_⟩
        have e21 := Ext.upd (o := HO.tup [V.str "twice", V.str z]) ntp
        have sh2 : SeqAt.shaped (.tuple ([("twice" : Str), z].map .str)) = true := shaped_strs _ fun y hy => by
          simp only [List.mem_cons, List.not_mem_nil, or_false] at hy
          rcases hy with rfl | rfl
          · decide +kernel
          · exact name_sok zn
        refine ⟨.tuple ([("twice" : Str), z].map .str), .tuple ([("twice" : Str), z].map .str), .tup (SqT.of (e21 _ _ hPt)) (dp_strs [("twice" : Str), z]), .tup (SqT.of upd_same) (dp_strs [("twice" : Str), z]), sh2, sh2, ?_⟩
        rw [eqv_tups, decide_eq_true rfl]
        have eF := (eF.trans e20).trans e21
        exact kk _ ((hp13.mono (by omega)).ext eF) (k013.trans (KeepN.of (Keep.ext eF))) (T13.ext eF)
end
end K19
end
section
set_option Elab.async false
set_option autoImplicit false
set_option linter.all false
set_option maxRecDepth 100000
set_option maxHeartbeats 4000000
set_option pp.maxSteps 1500
namespace K19
open PySem PySem.Spec PyProof.Rows L2 Ls
open C8 (pss_cut tCut)
open TL
/-! ### _law_bent -/
/-- a text that may be asked -/
def TxO (z : Str) : Prop := OkS 300 z ∧ (tl z).count 32 ≤ 45
/-- a value that may be asked -/
structure AskT (d : PyData) : Prop where
  sw : Shw 4000 d
  dp : d.depth ≤ 2
  tx : ∀ z, d = .str z → TxO z
theorem AskT.str {z : Str} (h : TxO z) : AskT (.str z) := ⟨(Shw.str h.1).mono (by decide), Nat.zero_le _, fun y e => by cases e; exact h⟩
/-- a word -/
def Wd (z : Str) : Prop := OkS 7 z ∧ (32 : Nat) ∉ tl z
theorem ok_lit {n : Nat} {z : Str} (h : (decide (z.length ≤ n) && (tl z).all fun c => decide (c < 256)) = true) : OkS n z := by
  simp only [Bool.and_eq_true, decide_eq_true_eq, List.all_eq_true] at h
  exact h
theorem wd_lit {z : Str} (h : (decide (z.length ≤ 7) && ((tl z).all fun c => decide (c < 256)) && decide ((32 : Nat) ∉ tl z)) = true) : Wd z := by
  simp only [Bool.and_eq_true, decide_eq_true_eq, List.all_eq_true] at h
  exact ⟨⟨h.1.1, h.1.2⟩, h.2⟩
theorem wl_wd {l : List Str} (h : Nm l) : ∀ p ∈ wl l, Wd p ∧ ∀ c ∈ tl p, c < 128 := fun p hp => by
  rcases wl_mem hp with rfl | hp
  · exact ⟨wd_lit (by decide +kernel), by decide +kernel⟩
  · have h1 : ∀ c ∈ tl lettersS, c < 128 := by decide +kernel
    exact ⟨⟨(ok_nameS (h p hp)).mono (by decide), name_no (h p hp) lt_no32⟩, fun c hc => h1 c (name_sub (h p hp) c hc)⟩
theorem words_wd {u v : List Str} (n1 : Nm u) (n2 : Nm v) : ∀ p ∈ wl u ++ ("/" : Str) :: wl v, Wd p ∧ ∀ c ∈ tl p, c < 128 := fun p hp => by
  rcases List.mem_append.mp hp with hp | hp
  · exact wl_wd n1 p hp
  rcases List.mem_cons.mp hp with rfl | hp
  · exact ⟨wd_lit (by decide +kernel), by decide +kernel⟩
  · exact wl_wd n2 p hp
theorem up_wd {z : Str} (h : Wd z) (ha : ∀ c ∈ tl z, c < 128) : Wd (Txt.upper z) := by
  have e : Txt.upper z = SX.S ((tl z).map PyProof.Rows.up1) := by
    have e1 : z = SX.S (tl z) := by
      refine ext_tl ?_
      rfl
    conv => lhs; rw [e1]
    exact SX.upper_S (by rw [List.all_eq_true]; exact fun c hc => decide_eq_true (ha c hc))
  have et : tl (Txt.upper z) = (tl z).map PyProof.Rows.up1 := by rw [e]
  have hu : ∀ c, c < 128 → PyProof.Rows.up1 c < 256 ∧ (PyProof.Rows.up1 c = 32 → c = 32) := by decide +kernel
  refine ⟨⟨?_, fun c hc => ?_⟩, fun hc => ?_⟩
  · rw [len_tl, et, List.length_map, ← len_tl]; exact h.1.1
  · rw [et] at hc
    obtain ⟨b, hb, rfl⟩ := List.mem_map.mp hc
    exact (hu b (ha b hb)).1
  · rw [et] at hc
    obtain ⟨b, hb, e2⟩ := List.mem_map.mp hc
    have := (hu b (ha b hb)).2 e2
    subst this
    exact h.2 hb
theorem join_txo {l : List Str} (h : ∀ z ∈ l, Wd z) (hl : l.length ≤ 20) : TxO (Txt.join " " l) := by
  by_cases e : l = []
  · subst e
    exact ⟨ok_lit (by decide +kernel), by decide +kernel⟩
  have hs := split_join sp_tl sp_kd e fun p hp => (h p hp).2
  have hc := split_count (Txt.join " " l)
  rw [hs] at hc
  have ht : tl (Txt.join " " l) = joinL [32] (l.map tl) := by rw [join_eq, tl_join, sp_tl]
  refine ⟨⟨?_, fun c hc => ?_⟩, by omega⟩
  · rw [len_tl, ht]
    have go : ∀ r : List (List Nat), (∀ p ∈ r, p.length ≤ 7) → (joinL [32] r).length ≤ r.length * 8 := fun r => by
      induction r with
      | nil => intro _; exact Nat.zero_le _
      | cons a r ih =>
        intro h
        have h1 := h a (by simp)
        have h2 := ih fun p hp => h p (List.mem_cons_of_mem _ hp)
        by_cases e : r = []
        · subst e
          show a.length ≤ _
          simp only [List.length_cons, List.length_nil]
          omega
        · rw [joinL_cons _ _ e, List.length_append, List.length_append, List.length_cons]
          simp only [List.length_cons, List.length_nil]
          omega
    have := go (l.map tl) fun p hp => by
      obtain ⟨z, hz, rfl⟩ := List.mem_map.mp hp
      rw [← len_tl]
      exact (h z hz).1.1
    rw [List.length_map] at this
    omega
  · rw [ht] at hc
    rcases joinL_mem hc with hc | ⟨p, hp, hc⟩
    · rw [List.mem_singleton.mp hc]; decide
    · obtain ⟨z, hz, rfl⟩ := List.mem_map.mp hp
      exact (h z hz).1.2 c hc
theorem join_fit7 {l : List Str} (h : ∀ z ∈ l, Wd z) (hl : l.length ≤ 20) : (l.map (·.length)).sum + l.length * (" " : Str).length ≤ 16777216 := by
  have h1 := sum_le6 (n := 7) fun z hz => (h z hz).1.1
  have h2 : (" " : Str).length = 1 := by decide +kernel
  rw [h2]
  omega
theorem TxO.app {a b : Str} (h : OkS 120 a ∧ (tl a).count 32 ≤ 20) (k : OkS 120 b ∧ (tl b).count 32 ≤ 20) : TxO (a ++ b) := ⟨(h.1.append k.1).mono (by decide), by
  rw [tl_append, List.count_append]
  have := h.2
  have := k.2
  omega⟩
theorem sm_lit {z : Str} (h : (decide (z.length ≤ 120) && ((tl z).all fun c => decide (c < 256)) && decide ((tl z).count 32 ≤ 20)) = true) : OkS 120 z ∧ (tl z).count 32 ≤ 20 := by
  simp only [Bool.and_eq_true, decide_eq_true_eq, List.all_eq_true] at h
  exact ⟨⟨h.1.1, h.1.2⟩, h.2⟩
section
variable {P : Program} {w : World} {K : PySem.W.Frag} {mg : Str → Option Value} {base : Heap} {CE CN CB CW CS : Addr} {tL tN : Tok}
def spBent : Sp := fun vs H Q _ => ∃ (p c : Addr) (n : Nat) (u v : List Str), vs = [.ref p, .str (textOf u v)] ∧ PenAt H p c n ∧ n < 500000 ∧ Nm u ∧ Nm v ∧ u.length ≤ 7 ∧ v.length ≤ 7 ∧
  ∀ x d H', TV (vis [p, c] H') x d → AskT d → PenAt H' p c (n + 5) → Keep p c H H' → Q x H'
abbrev s__law_bent : Stmt := top 33
abbrev N__law_bent : List Str := ["_law_pen_here", "_law_text_here", "_law_words", "_law_way", "_law_at"]
theorem sc__law_bent : FnScope N__law_bent ["_law_pen_here", "_law_text_here"] (defScope s__law_bent) := ⟨rfl, rfl, rfl, by decide +kernel, rfl, by decide +kernel, by decide +kernel⟩
theorem ok_bent {f : Addr} {fd : FuncData} (F : Fun K "_law_bent" "_law_bent" s__law_bent f fd) (T : Tx K mg CE CN CB CW CS tL tN) (c__law_draw : Cal P w K mg base CX0 1 "_law_draw" spDraw) (c__law_pick : Cal P w K mg base CX0 2 "_law_pick" (spPick K)) : FnOk P w K mg base CX0 3 f fd ["_law_pen_here", "_law_text_here"] spBent := by
  refine F.ok sc__law_bent (fun vs H Q E h => ?_) (fun cdv A outer s H vs Q E hr h => ?_)
  · obtain ⟨p, c, n, u, v, rfl, _⟩ := h
    rfl
  · obtain ⟨p, c, n, u, v, rfl, hp, hn, n1, n2, l1, l2, kk⟩ := h
    have h4 : sizeLine = 16777216 := sizeLine_eq
    have tk := text_ok n1 n2 l1 l2
    have tc := text_cnt n1 n2 l1 l2
    refine ⟨_, (pss_cons (ps_par (i := 2) (j := 3) rfl sc__law_bent.nd rfl rfl (by decide) rfl rfl (pa_cons (pe_split (pv 1) pe_str) (pa_cons (pe_cal c__law_draw (hr.mono (by decide)) (by rfl) pass0 (pa_cons (pv 0) (pa_cons pe_int pa_nil))) pa_nil)) (by rfl))
      (pss_cons (ps_set (i := 4) sc__law_bent.nd rfl (by first | exact Or.inl rfl | exact Or.inr rfl) (pe_cal c__law_draw (hr.mono (by decide)) (by rfl) pass0 (pa_cons (pv 0) (pa_cons (pe_callB call_len_seq (by rfl) (T.bn _ (by decide +kernel)) (by decide +kernel) (pa_cons (pv 2) pa_nil)) pa_nil))))
      (pss_cons (ps_if (pt_cmpR op_eq (pv 3) pe_int (nomark _)) (pss_one (ps_ret (pe_cal c__law_pick (hr.mono (by decide)) (by rfl) pass0 (pa_cons (pv 0) (pa_cons (pe_lst (pa_cons pe_non (pa_cons pe_int (pa_cons pe_bl (pa_cons (pe_lst (pa_cons (pv 1) pa_nil)) (pa_cons (pe_tup (pa_cons (pv 1) pa_nil)) (pa_cons pe_str (pa_cons pe_str (pa_cons pe_str (pa_cons pe_str (pa_cons pe_str (pa_cons pe_str pa_nil)))))))))))) pa_nil))))) pss_nil)
      (pss_cons (ps_if (pt_cmpR op_eq (pv 3) pe_int (nomark _)) (pss_one (ps_ret (pe_join pe_str (pe_op op_cat (pe_slice sl_list (pv 2) po_none (po_some (pv 4))) (pe_slice sl_list (pv 2) (po_some (pe_op op_add (pv 4) pe_int)) po_none))))) pss_nil)
      (pss_cons (ps_if (pt_cmpR op_eq (pv 3) pe_int (nomark _)) (pss_one (ps_ret (pe_join pe_str (pe_op op_cat (pe_op op_cat (pe_slice sl_list (pv 2) po_none (po_some (pv 4))) (pe_lst (pa_cons (pe_ix ix_list (pv 2) (pv 4) (fun _ _ => rfl)) pa_nil))) (pe_slice sl_list (pv 2) (po_some (pv 4)) po_none))))) pss_nil)
      (pss_cons (ps_if (pt_cmpR op_eq (pv 3) pe_int (nomark _)) (pss_one (ps_ret (pe_join pe_str (pe_revL (pv 2))))) pss_nil)
      (pss_cons (ps_if (pt_cmpR op_eq (pv 3) pe_int (nomark _)) (pss_one (ps_ret (pe_join pe_str (pe_op op_cat (pe_op op_cat (pe_slice sl_list (pv 2) po_none (po_some (pv 4))) (pe_lst (pa_cons (pe_cal c__law_pick (hr.mono (by decide)) (by rfl) pass0 (pa_cons (pv 0) (pa_cons (pe_lst (pa_cons pe_str (pa_cons pe_str (pa_cons pe_str (pa_cons pe_str (pa_cons pe_str (pa_cons pe_str pa_nil))))))) pa_nil))) pa_nil))) (pe_slice sl_list (pv 2) (po_some (pv 4)) po_none))))) pss_nil)
      (pss_cons (ps_if (pt_cmpR op_eq (pv 3) pe_int (nomark _)) (pss_one (ps_ret (pe_op op_add_str (pe_cal c__law_pick (hr.mono (by decide)) (by rfl) pass0 (pa_cons (pv 0) (pa_cons (pe_lst (pa_cons pe_str (pa_cons pe_str pa_nil))) pa_nil))) (pv 1)))) pss_nil)
      (pss_cons (ps_if (pt_cmpR op_eq (pv 3) pe_int (nomark _)) (pss_one (ps_ret (pe_op op_add_str (pv 1) (pe_cal c__law_pick (hr.mono (by decide)) (by rfl) pass0 (pa_cons (pv 0) (pa_cons (pe_lst (pa_cons pe_str (pa_cons pe_str (pa_cons pe_str (pa_cons pe_str pa_nil))))) pa_nil)))))) pss_nil)
      (pss_one (ps_ret (pe_join pe_str (pe_op op_cat (pe_op op_cat (pe_slice sl_list (pv 2) po_none (po_some (pv 4))) (pe_lst (pa_cons (pe_upper (pe_ix ix_list (pv 2) (pv 4) (fun _ _ => rfl)) ) pa_nil))) (pe_slice sl_list (pv 2) (po_some (pe_op op_add (pv 4) pe_int)) po_none)))))))))))))), ?_⟩
    refine ⟨_, rfl, ⟨_, rfl⟩, _, _, rfl, rfl, by decide +kernel, Nat.le_trans (Nat.add_le_add_right tk.1 2) (by decide), fun L nL => ?_⟩
    rw [textOf_words n1 n2]
    have wd := words_wd n1 n2
    have lw : (wl u ++ ("/" : Str) :: wl v).length ≤ 17 ∧ 1 ≤ (wl u ++ ("/" : Str) :: wl v).length := by
      have h : ∀ l : List Str, l.length ≤ 7 → (wl l).length ≤ 7 := fun l hl => by
        by_cases e : l = []
        · rw [e, wl_nil]; decide
        · rw [wl_cons e]; exact hl
      have := h u l1
      have := h v l2
      rw [List.length_append, List.length_cons]
      omega
    obtain ⟨ws, hws⟩ : ∃ ws, wl u ++ ("/" : Str) :: wl v = ws := ⟨_, rfl⟩
    rw [hws] at wd lw ⊢
    have fL := upd_same (H := H) (a := L) (o := HO.lst (ws.map V.str))
    have e1 := Ext.upd (o := HO.lst (ws.map V.str)) nL
    obtain ⟨npL, ncL⟩ := hp.ne nL
    generalize (upd H L (.lst (ws.map V.str))) = H1 at fL e1
    refine ⟨_, rfl, p, c, n, 8, rfl, hp.ext e1, by omega, by decide, by decide, fun way H2 w0 w1 hp2 k2 => ⟨_, _, rfl, ?_⟩⟩
    have fL2 := k2 _ _ fL npL.symm ncL.symm
    have k02 := (Keep.ext e1).trans k2
    refine ⟨_, rfl, _, rfl, L, _, rfl, .inl (SqL.of fL2), p, c, n + 1, ws.length, by rw [List.length_map], hp2, by omega, by omega, by omega, fun at0 H3 a0 a1 hp3 k3 => ?_⟩
    have fL3 := k3 _ _ fL2 npL.symm ncL.symm
    have k03 := k02.trans k3
    have hat : at0.toNat < ws.length := by omega
    have fin : ∀ z H', TxO z → PenAt H' p c (n + 4) → Keep p c H3 H' → Q (.str z) H' := fun z H' hz h k => kk _ _ H' (.str z) (AskT.str hz) (h.mono (by omega)) (k03.trans k)
    have hp3' := hp3.mono (show n + 1 + 1 ≤ n + 4 by omega)
    have wt : ∀ z ∈ ws.take at0.toNat, Wd z := fun z hz => (wd z (List.mem_of_mem_take hz)).1
    have wdr : ∀ j, ∀ z ∈ ws.drop j, Wd z := fun j z hz => (wd z (List.mem_of_mem_drop hz)).1
    have ltk := List.length_take_le at0.toNat ws
    have ldr : ∀ j, (ws.drop j).length ≤ ws.length := fun j => by rw [List.length_drop]; omega
    have lcut : (ws.take at0.toNat).length + (ws.drop at0.toNat).length = ws.length := by rw [List.length_take, List.length_drop]; omega
    have lcut1 : (ws.take at0.toNat).length + (ws.drop (at0.toNat + 1)).length ≤ ws.length := by rw [List.length_take, List.length_drop]; omega
    have a1 : (at0 + 1).toNat = at0.toNat + 1 := by omega
    have dft : ∀ (Hx : Hp) (S : Addr) (l : List Str), Hx S = none → Ext Hx (upd Hx S (.lst (l.map V.str))) := fun Hx S l h => Ext.upd h
    refine ⟨_, rfl, rfl, _, rfl, ?_⟩
    refine ite2 (fun _ => ?_) (fun _ => ?_)
    · -- a value of another kind
      refine ⟨_, rfl, _, rfl, (by show 1 ≤ sizeLine; decide), fun b1 nb1 => ?_⟩
      have f1 := upd_same (H := H3) (a := b1) (o := HO.lst [V.str (textOf u v)])
      have i1 := Ext.upd (o := HO.lst [V.str (textOf u v)]) nb1
      generalize (upd H3 b1 (.lst [.str (textOf u v)])) = G1 at f1 i1
      refine ⟨_, rfl, (by show 1 ≤ sizeLine; decide), fun b2 nb2 => ?_⟩
      have f2 := upd_same (H := G1) (a := b2) (o := HO.tup [V.str (textOf u v)])
      have f1 := at_new (o' := HO.tup [V.str (textOf u v)]) nb2 f1
      have i2 := i1.trans (Ext.upd (o := HO.tup [V.str (textOf u v)]) nb2)
      have nb2' := ext_free i1 nb2
      generalize (upd G1 b2 (.tup [.str (textOf u v)])) = G2 at f1 f2 i2
      refine ⟨(by show 11 ≤ sizeLine; decide), fun X nX => ?_⟩
      have hp4 := hp3.ext i2
      obtain ⟨q1, q2⟩ := hp4.ne nX
      refine ⟨p, c, n + 1 + 1, .ref X, rfl, hp4.upd q1 q2, by omega, .inl ⟨X, _, rfl, q1.symm, q2.symm, upd_same, by simp, by simp, fun x H8 hx hp8 kp8 => ?_⟩⟩
      have kp2 : Keep p c G2 H8 := (Keep.new nX).trans kp8
      have g1 : vis [p, c] H8 b1 = some (.lst [.str (textOf u v)]) := by
        obtain ⟨z1, z2⟩ := hp3.ne nb1
        exact vis_at (by simp [z1.symm, z2.symm]) (kp2 _ _ f1 z1.symm z2.symm) fun ps z => nomatch z
      have g2 : vis [p, c] H8 b2 = some (.tup [.str (textOf u v)]) := by
        obtain ⟨z1, z2⟩ := hp3.ne nb2'
        exact vis_at (by simp [z1.symm, z2.symm]) (kp2 _ _ f2 z1.symm z2.symm) fun ps z => nomatch z
      have st := Shw.str tk
      have txt : ∀ z : Str, (decide (z.length ≤ 120) && ((tl z).all fun c => decide (c < 256)) && decide ((tl z).count 32 ≤ 20)) = true → AskT (.str z) := fun z h => AskT.str ⟨(sm_lit h).1.mono (by decide), Nat.le_trans (sm_lit h).2 (by decide)⟩
      have tx : ∃ d, AskT d ∧ TV (vis [p, c] H8) x d := by
        simp only [List.mem_cons, List.not_mem_nil, or_false] at hx
        rcases hx with rfl | rfl | rfl | rfl | rfl | rfl | rfl | rfl | rfl | rfl | rfl
        · exact ⟨_, ⟨⟨by decide, by decide, by decide +kernel⟩, by decide, fun z e => by cases e⟩, .non⟩
        · exact ⟨_, ⟨⟨by decide, by decide, by decide +kernel⟩, by decide, fun z e => by cases e⟩, .int _⟩
        · exact ⟨_, ⟨⟨by decide, by decide, by decide +kernel⟩, by decide, fun z e => by cases e⟩, .bl _⟩
        · exact ⟨.list [.str (textOf u v)], ⟨(st.list1 (by show 0 < 20; decide)).mono (by decide), by show 1 ≤ 2; decide, fun z e => by cases e⟩, .lst g1 (.cons (.str _) .nil)⟩
        · exact ⟨.tuple [.str (textOf u v)], ⟨(st.tup1 (by show 0 < 20; decide)).mono (by decide), by show 1 ≤ 2; decide, fun z e => by cases e⟩, .tup g2 (.cons (.str _) .nil)⟩
        all_goals exact ⟨_, txt _ (by decide +kernel), .str _⟩
      obtain ⟨d, hd, hv⟩ := tx
      exact kk x d H8 hv hd (hp8.mono (by omega)) (k03.trans ((Keep.ext i2).trans kp2))
    refine ⟨_, rfl, rfl, _, rfl, ?_⟩
    refine ite2 (fun _ => ?_) (fun _ => ?_)
    · refine ⟨⟨_, rfl⟩, _, rfl, _, rfl, _, rfl, L, _, rfl, SqL.of fL3, fun s1 ns1 => ?_⟩
      rw [cutM_to _ a0]
      have i1 := Ext.upd (o := HO.lst ((ws.take at0.toNat).map V.str)) ns1
      have j1 := upd_same (H := H3) (a := s1) (o := HO.lst ((ws.take at0.toNat).map V.str))
      generalize (upd H3 s1 (.lst ((ws.take at0.toNat).map V.str))) = I1 at i1 j1
      refine ⟨_, rfl, _, rfl, _, _, rfl, rfl, _, rfl, L, _, rfl, SqL.of (i1 _ _ fL3), fun s2 ns2 => ?_⟩
      rw [cutM_from _ (by omega), a1]
      have i2 := i1.trans (Ext.upd (o := HO.lst ((ws.drop (at0.toNat + 1)).map V.str)) ns2)
      have j1 := at_new (o' := HO.lst ((ws.drop (at0.toNat + 1)).map V.str)) ns2 j1
      have j2 := upd_same (H := I1) (a := s2) (o := HO.lst ((ws.drop (at0.toNat + 1)).map V.str))
      generalize (upd I1 s2 (.lst ((ws.drop (at0.toNat + 1)).map V.str))) = I2 at i2 j1 j2
      refine ⟨s1, s2, _, _, rfl, rfl, j1, j2, by rw [List.length_map, List.length_map]; omega, fun R nR => ?_⟩
      rw [← List.map_append]
      have i3 := i2.trans (Ext.upd (o := HO.lst ((ws.take at0.toNat ++ ws.drop (at0.toNat + 1)).map V.str)) nR)
      have hw : ∀ z ∈ ws.take at0.toNat ++ ws.drop (at0.toNat + 1), Wd z := fun z hz => (List.mem_append.mp hz).elim (wt z) (wdr _ z)
      have hl : (ws.take at0.toNat ++ ws.drop (at0.toNat + 1)).length ≤ 20 := by rw [List.length_append]; omega
      exact ⟨_, R, _, rfl, rfl, .inl (SqL.of upd_same), join_fit7 hw hl, fin _ _ (join_txo hw hl) (hp3'.ext i3) (Keep.ext i3)⟩
    refine ⟨_, rfl, rfl, _, rfl, ?_⟩
    refine ite2 (fun _ => ?_) (fun _ => ?_)
    · refine ⟨⟨_, rfl⟩, _, rfl, _, rfl, _, rfl, L, _, rfl, SqL.of fL3, fun s1 ns1 => ?_⟩
      rw [cutM_to _ a0]
      have i1 := Ext.upd (o := HO.lst ((ws.take at0.toNat).map V.str)) ns1
      have j1 := upd_same (H := H3) (a := s1) (o := HO.lst ((ws.take at0.toNat).map V.str))
      generalize (upd H3 s1 (.lst ((ws.take at0.toNat).map V.str))) = I1 at i1 j1
      have k35 : Keep p c H3 I1 := Keep.ext i1
      have fL5 := i1 _ _ fL3
      have hp5 := hp3'.ext i1
      obtain ⟨w1, hw1⟩ : ∃ w1, ws[at0.toNat]? = some w1 := ⟨_, List.getElem?_eq_getElem hat⟩
      have wm := wd w1 (List.mem_of_getElem? hw1)
      have ww : Wd w1 := wm.1
      obtain ⟨wz, hwz⟩ : ∃ wz, w1 = wz := ⟨_, rfl⟩
      subst hwz
      refine ⟨_, rfl, _, rfl, L, _, at0, .str w1, rfl, rfl, SqL.of fL5, atI_at (j := at0.toNat) (by omega) (by rw [List.getElem?_map, hw1]; rfl), (by show 1 ≤ sizeLine; decide), fun s2 ns2 => ?_⟩
      have y1 := Ext.upd (o := HO.lst [V.str w1]) ns2
      have j1 := at_new (o' := HO.lst [V.str w1]) ns2 j1
      have j2 := upd_same (H := I1) (a := s2) (o := HO.lst [V.str w1])
      generalize (upd I1 s2 (.lst [.str w1])) = J2 at y1 j1 j2
      refine ⟨s1, s2, _, _, rfl, rfl, j1, j2, by rw [List.length_map]; show (ws.take at0.toNat).length + 1 ≤ sizeLine; omega, fun s3 ns3 => ?_⟩
      have y2 := y1.trans (Ext.upd (o := HO.lst ((ws.take at0.toNat).map V.str ++ [V.str w1])) ns3)
      have j3 := upd_same (H := J2) (a := s3) (o := HO.lst ((ws.take at0.toNat).map V.str ++ [V.str w1]))
      generalize (upd J2 s3 (.lst ((ws.take at0.toNat).map V.str ++ [V.str w1]))) = J3 at y2 j3
      refine ⟨_, rfl, _, rfl, _, rfl, L, _, rfl, SqL.of (y2 _ _ fL5), fun s4 ns4 => ?_⟩
      rw [cutM_from _ a0]
      have y3 := y2.trans (Ext.upd (o := HO.lst ((ws.drop at0.toNat).map V.str)) ns4)
      have j3 := at_new (o' := HO.lst ((ws.drop at0.toNat).map V.str)) ns4 j3
      have j4 := upd_same (H := J3) (a := s4) (o := HO.lst ((ws.drop at0.toNat).map V.str))
      generalize (upd J3 s4 (.lst ((ws.drop at0.toNat).map V.str))) = J4 at y3 j3 j4
      refine ⟨s3, s4, _, _, rfl, rfl, j3, j4, by rw [List.length_append, List.length_map, List.length_map]; show (ws.take at0.toNat).length + 1 + _ ≤ sizeLine; omega, fun R nR => ?_⟩
      have ej : (ws.take at0.toNat).map V.str ++ [V.str w1] ++ (ws.drop at0.toNat).map V.str = (ws.take at0.toNat ++ [w1] ++ ws.drop at0.toNat).map V.str := by rw [List.map_append, List.map_append]; rfl
      rw [ej]
      have y4 := y3.trans (Ext.upd (o := HO.lst ((ws.take at0.toNat ++ [w1] ++ ws.drop at0.toNat).map V.str)) nR)
      have hw : ∀ z ∈ ws.take at0.toNat ++ [w1] ++ ws.drop at0.toNat, Wd z := fun z hz => by
        rcases List.mem_append.mp hz with hz | hz
        · rcases List.mem_append.mp hz with hz | hz
          · exact wt z hz
          · rw [List.mem_singleton.mp hz]; exact ww
        · exact wdr _ z hz
      have hl : (ws.take at0.toNat ++ [w1] ++ ws.drop at0.toNat).length ≤ 20 := by rw [List.length_append, List.length_append]; show (ws.take at0.toNat).length + 1 + _ ≤ 20; omega
      exact ⟨_, R, _, rfl, rfl, .inl (SqL.of upd_same), join_fit7 hw hl, fin _ _ (join_txo hw hl) (hp5.ext y4) (k35.trans (Keep.ext y4))⟩
    refine ⟨_, rfl, rfl, _, rfl, ?_⟩
    refine ite2 (fun _ => ?_) (fun _ => ?_)
    · refine ⟨⟨_, rfl⟩, _, rfl, L, _, rfl, SqL.of fL3, fun R nR => ?_⟩
      rw [← List.map_reverse]
      have i1 := Ext.upd (o := HO.lst (ws.reverse.map V.str)) nR
      have hw : ∀ z ∈ ws.reverse, Wd z := fun z hz => (wd z (List.mem_reverse.mp hz)).1
      have hl : ws.reverse.length ≤ 20 := by rw [List.length_reverse]; omega
      exact ⟨_, R, _, rfl, rfl, .inl (SqL.of upd_same), join_fit7 hw hl, fin _ _ (join_txo hw hl) (hp3'.ext i1) (Keep.ext i1)⟩
    refine ⟨_, rfl, rfl, _, rfl, ?_⟩
    refine ite2 (fun _ => ?_) (fun _ => ?_)
    · refine ⟨⟨_, rfl⟩, _, rfl, _, rfl, _, rfl, L, _, rfl, SqL.of fL3, fun s1 ns1 => ?_⟩
      rw [cutM_to _ a0]
      have i1 := Ext.upd (o := HO.lst ((ws.take at0.toNat).map V.str)) ns1
      have j1 := upd_same (H := H3) (a := s1) (o := HO.lst ((ws.take at0.toNat).map V.str))
      generalize (upd H3 s1 (.lst ((ws.take at0.toNat).map V.str))) = I1 at i1 j1
      refine ⟨_, rfl, (by show 6 ≤ sizeLine; decide), fun X nX => ?_⟩
      have hpi := hp3.ext i1
      obtain ⟨q1, q2⟩ := hpi.ne nX
      have eX := i1.trans (Ext.upd (o := HO.lst [V.str "-", V.str "/", V.str "", V.str "A", V.str "abcdefg", V.str "a"]) nX)
      have j1 := at_new (o' := HO.lst [V.str "-", V.str "/", V.str "", V.str "A", V.str "abcdefg", V.str "a"]) nX j1
      refine ⟨p, c, n + 1 + 1, .ref X, rfl, hpi.upd q1 q2, by omega, .inl ⟨X, _, rfl, q1.symm, q2.symm, upd_same, by simp, by simp, fun x I0 hx hp5 k5 => ?_⟩⟩
      have k35 : Keep p c H3 I0 := (Keep.ext eX).trans k5
      obtain ⟨qs1, qs2⟩ := hp3.ne ns1
      have j1 := k5 _ _ j1 qs1.symm qs2.symm
      have fL5 := k35 _ _ fL3 npL.symm ncL.symm
      have hp5 := hp5.mono (show n + 1 + 1 + 1 ≤ n + 4 by omega)
      have hx' : ∃ w0, x = .str w0 ∧ Wd w0 := by
        simp only [List.mem_cons, List.not_mem_nil, or_false] at hx
        rcases hx with rfl | rfl | rfl | rfl | rfl | rfl <;> exact ⟨_, rfl, wd_lit (by decide +kernel)⟩
      obtain ⟨w0, rfl, ww⟩ := hx'
      refine ⟨(by show 1 ≤ sizeLine; decide), fun s2 ns2 => ?_⟩
      have y1 := Ext.upd (o := HO.lst [V.str w0]) ns2
      have j1 := at_new (o' := HO.lst [V.str w0]) ns2 j1
      have j2 := upd_same (H := I0) (a := s2) (o := HO.lst [V.str w0])
      generalize (upd I0 s2 (.lst [.str w0])) = J2 at y1 j1 j2
      refine ⟨s1, s2, _, _, rfl, rfl, j1, j2, by rw [List.length_map]; show (ws.take at0.toNat).length + 1 ≤ sizeLine; omega, fun s3 ns3 => ?_⟩
      have y2 := y1.trans (Ext.upd (o := HO.lst ((ws.take at0.toNat).map V.str ++ [V.str w0])) ns3)
      have j3 := upd_same (H := J2) (a := s3) (o := HO.lst ((ws.take at0.toNat).map V.str ++ [V.str w0]))
      generalize (upd J2 s3 (.lst ((ws.take at0.toNat).map V.str ++ [V.str w0]))) = J3 at y2 j3
      refine ⟨_, rfl, _, rfl, _, rfl, L, _, rfl, SqL.of (y2 _ _ fL5), fun s4 ns4 => ?_⟩
      rw [cutM_from _ a0]
      have y3 := y2.trans (Ext.upd (o := HO.lst ((ws.drop at0.toNat).map V.str)) ns4)
      have j3 := at_new (o' := HO.lst ((ws.drop at0.toNat).map V.str)) ns4 j3
      have j4 := upd_same (H := J3) (a := s4) (o := HO.lst ((ws.drop at0.toNat).map V.str))
      generalize (upd J3 s4 (.lst ((ws.drop at0.toNat).map V.str))) = J4 at y3 j3 j4
      refine ⟨s3, s4, _, _, rfl, rfl, j3, j4, by rw [List.length_append, List.length_map, List.length_map]; show (ws.take at0.toNat).length + 1 + _ ≤ sizeLine; omega, fun R nR => ?_⟩
      have ej : (ws.take at0.toNat).map V.str ++ [V.str w0] ++ (ws.drop at0.toNat).map V.str = (ws.take at0.toNat ++ [w0] ++ ws.drop at0.toNat).map V.str := by rw [List.map_append, List.map_append]; rfl
      rw [ej]
      have y4 := y3.trans (Ext.upd (o := HO.lst ((ws.take at0.toNat ++ [w0] ++ ws.drop at0.toNat).map V.str)) nR)
      have hw : ∀ z ∈ ws.take at0.toNat ++ [w0] ++ ws.drop at0.toNat, Wd z := fun z hz => by
        rcases List.mem_append.mp hz with hz | hz
        · rcases List.mem_append.mp hz with hz | hz
          · exact wt z hz
          · rw [List.mem_singleton.mp hz]; exact ww
        · exact wdr _ z hz
      have hl : (ws.take at0.toNat ++ [w0] ++ ws.drop at0.toNat).length ≤ 20 := by rw [List.length_append, List.length_append]; show (ws.take at0.toNat).length + 1 + _ ≤ 20; omega
      exact ⟨_, R, _, rfl, rfl, .inl (SqL.of upd_same), join_fit7 hw hl, fin _ _ (join_txo hw hl) (hp5.ext y4) (k35.trans (Keep.ext y4))⟩
    refine ⟨_, rfl, rfl, _, rfl, ?_⟩
    refine ite2 (fun _ => ?_) (fun _ => ?_)
    · refine ⟨_, rfl, (by show 2 ≤ sizeLine; decide), fun X nX => ?_⟩
      obtain ⟨q1, q2⟩ := hp3.ne nX
      have eX := Ext.upd (o := HO.lst [V.str " ", V.str "\n"]) nX
      refine ⟨p, c, n + 1 + 1, .ref X, rfl, hp3.upd q1 q2, by omega, .inl ⟨X, _, rfl, q1.symm, q2.symm, upd_same, by simp, by simp, fun x I0 hx hp5 k5 => ?_⟩⟩
      have hx' : ∃ z, x = .str z ∧ (OkS 120 z ∧ (tl z).count 32 ≤ 20) := by
        simp only [List.mem_cons, List.not_mem_nil, or_false] at hx
        rcases hx with rfl | rfl <;> exact ⟨_, rfl, sm_lit (by decide +kernel)⟩
      obtain ⟨z, rfl, hz⟩ := hx'
      have l1 := hz.1.1
      have l2 := tk.1
      refine ⟨_, rfl, _, _, rfl, rfl, ?_, fin _ _ (TxO.app hz ⟨tk, tc⟩) (hp5.mono (by omega)) ((Keep.ext eX).trans k5)⟩
      omega
    refine ⟨_, rfl, rfl, _, rfl, ?_⟩
    refine ite2 (fun _ => ?_) (fun _ => ?_)
    · refine ⟨_, rfl, _, rfl, (by show 4 ≤ sizeLine; decide), fun X nX => ?_⟩
      obtain ⟨q1, q2⟩ := hp3.ne nX
      have eX := Ext.upd (o := HO.lst [V.str " ", V.str "\n", V.str " -", V.str " / -"]) nX
      refine ⟨p, c, n + 1 + 1, .ref X, rfl, hp3.upd q1 q2, by omega, .inl ⟨X, _, rfl, q1.symm, q2.symm, upd_same, by simp, by simp, fun x I0 hx hp5 k5 => ?_⟩⟩
      have hx' : ∃ z, x = .str z ∧ (OkS 120 z ∧ (tl z).count 32 ≤ 20) := by
        simp only [List.mem_cons, List.not_mem_nil, or_false] at hx
        rcases hx with rfl | rfl | rfl | rfl <;> exact ⟨_, rfl, sm_lit (by decide +kernel)⟩
      obtain ⟨z, rfl, hz⟩ := hx'
      have l1 := hz.1.1
      have l2 := tk.1
      refine ⟨_, _, rfl, rfl, ?_, fin _ _ (TxO.app ⟨tk, tc⟩ hz) (hp5.mono (by omega)) ((Keep.ext eX).trans k5)⟩
      omega
    refine ⟨⟨_, rfl⟩, _, rfl, _, rfl, _, rfl, L, _, rfl, SqL.of fL3, fun s1 ns1 => ?_⟩
    rw [cutM_to _ a0]
    have i1 := Ext.upd (o := HO.lst ((ws.take at0.toNat).map V.str)) ns1
    have j1 := upd_same (H := H3) (a := s1) (o := HO.lst ((ws.take at0.toNat).map V.str))
    generalize (upd H3 s1 (.lst ((ws.take at0.toNat).map V.str))) = I1 at i1 j1
    have k35 : Keep p c H3 I1 := Keep.ext i1
    have fL5 := i1 _ _ fL3
    have hp5 := hp3'.ext i1
    obtain ⟨w1, hw1⟩ : ∃ w1, ws[at0.toNat]? = some w1 := ⟨_, List.getElem?_eq_getElem hat⟩
    have wm := wd w1 (List.mem_of_getElem? hw1)
    have ww : Wd (Txt.upper w1) := up_wd wm.1 wm.2
    refine ⟨_, rfl, _, rfl, L, _, at0, .str w1, rfl, rfl, SqL.of fL5, atI_at (j := at0.toNat) (by omega) (by rw [List.getElem?_map, hw1]; rfl), ⟨_, rfl⟩, w1, rfl, rfl, Nat.le_trans wm.1.1.1 (by decide), (by show 1 ≤ sizeLine; decide), fun s2 ns2 => ?_⟩
    have y1 := Ext.upd (o := HO.lst [V.str (Txt.upper w1)]) ns2
    have j1 := at_new (o' := HO.lst [V.str (Txt.upper w1)]) ns2 j1
    have j2 := upd_same (H := I1) (a := s2) (o := HO.lst [V.str (Txt.upper w1)])
    generalize (upd I1 s2 (.lst [.str (Txt.upper w1)])) = J2 at y1 j1 j2
    refine ⟨s1, s2, _, _, rfl, rfl, j1, j2, by rw [List.length_map]; show (ws.take at0.toNat).length + 1 ≤ sizeLine; omega, fun s3 ns3 => ?_⟩
    have y2 := y1.trans (Ext.upd (o := HO.lst ((ws.take at0.toNat).map V.str ++ [V.str (Txt.upper w1)])) ns3)
    have j3 := upd_same (H := J2) (a := s3) (o := HO.lst ((ws.take at0.toNat).map V.str ++ [V.str (Txt.upper w1)]))
    generalize (upd J2 s3 (.lst ((ws.take at0.toNat).map V.str ++ [V.str (Txt.upper w1)]))) = J3 at y2 j3
    refine ⟨_, rfl, _, rfl, _, _, rfl, rfl, _, rfl, L, _, rfl, SqL.of (y2 _ _ fL5), fun s4 ns4 => ?_⟩
    rw [cutM_from _ (by omega), a1]
    have y3 := y2.trans (Ext.upd (o := HO.lst ((ws.drop (at0.toNat + 1)).map V.str)) ns4)
    have j3 := at_new (o' := HO.lst ((ws.drop (at0.toNat + 1)).map V.str)) ns4 j3
    have j4 := upd_same (H := J3) (a := s4) (o := HO.lst ((ws.drop (at0.toNat + 1)).map V.str))
    generalize (upd J3 s4 (.lst ((ws.drop (at0.toNat + 1)).map V.str))) = J4 at y3 j3 j4
    refine ⟨s3, s4, _, _, rfl, rfl, j3, j4, by rw [List.length_append, List.length_map, List.length_map]; show (ws.take at0.toNat).length + 1 + _ ≤ sizeLine; omega, fun R nR => ?_⟩
    have ej : (ws.take at0.toNat).map V.str ++ [V.str (Txt.upper w1)] ++ (ws.drop (at0.toNat + 1)).map V.str = (ws.take at0.toNat ++ [(Txt.upper w1)] ++ ws.drop (at0.toNat + 1)).map V.str := by rw [List.map_append, List.map_append]; rfl
    rw [ej]
    have y4 := y3.trans (Ext.upd (o := HO.lst ((ws.take at0.toNat ++ [(Txt.upper w1)] ++ ws.drop (at0.toNat + 1)).map V.str)) nR)
    have hw : ∀ z ∈ ws.take at0.toNat ++ [(Txt.upper w1)] ++ ws.drop (at0.toNat + 1), Wd z := fun z hz => by
      rcases List.mem_append.mp hz with hz | hz
      · rcases List.mem_append.mp hz with hz | hz
        · exact wt z hz
        · rw [List.mem_singleton.mp hz]; exact ww
      · exact wdr _ z hz
    have hl : (ws.take at0.toNat ++ [(Txt.upper w1)] ++ ws.drop (at0.toNat + 1)).length ≤ 20 := by rw [List.length_append, List.length_append]; show (ws.take at0.toNat).length + 1 + _ ≤ 20; omega
    exact ⟨_, R, _, rfl, rfl, .inl (SqL.of upd_same), join_fit7 hw hl, fin _ _ (join_txo hw hl) (hp5.ext y4) (k35.trans (Keep.ext y4))⟩
end
end K19
end
section
set_option Elab.async false
set_option autoImplicit false
set_option linter.all false
set_option maxRecDepth 100000
set_option maxHeartbeats 4000000
set_option pp.maxSteps 1500
namespace K19
open PySem PySem.Spec PyProof.Rows L2 Ls
open C8 (pss_cut tCut)
open TL
/-! ### _law_is_part -/
def IsPart (ws : List Str) : Prop := ws = [("-" : Str)] ∨ (ws ≠ [] ∧ Nm ws ∧ Asc ws ws)
theorem isName_iff (z : Str) : isName z = true ↔ 1 ≤ z.length ∧ z.length ≤ 6 ∧ ∀ c ∈ tl z, c ∈ tl lettersS := by
  unfold isName
  simp only [Bool.and_eq_true, decide_eq_true_eq, List.all_eq_true]
section
variable {P : Program} {w : World} {K : PySem.W.Frag} {mg : Str → Option Value} {base : Heap} {CE CN CB CW CS : Addr} {tL tN : Tok}
def spPart : Sp := fun vs H Q _ => ∃ (l : Addr) (ws : List Str), vs = [.ref l] ∧ H l = some (.lst (ws.map V.str)) ∧ (∀ z ∈ ws, OkS 300 z) ∧ ws.length ≤ 50 ∧ ∀ b H', Ext H H' → (b = true ↔ IsPart ws) → Q (.bl b) H'
abbrev s__law_is_part : Stmt := top 34
abbrev N__law_is_part : List Str := ["_law_words", "_law_letters", "_law_odd", "_law_word_here", "_law_sign"]
theorem sc__law_is_part : FnScope N__law_is_part ["_law_words"] (defScope s__law_is_part) := ⟨rfl, rfl, rfl, by decide +kernel, rfl, by decide +kernel, by decide +kernel⟩
theorem ok_part {f : Addr} {fd : FuncData} (F : Fun K "_law_is_part" "_law_is_part" s__law_is_part f fd) (T : Tx K mg CE CN CB CW CS tL tN) : FnOk P w K mg base CX0 1 f fd ["_law_words"] spPart := by
  refine F.ok sc__law_is_part (fun vs H Q E h => ?_) (fun cdv A outer s H vs Q E hr h => ?_)
  · obtain ⟨l, ws, rfl, _⟩ := h
    rfl
  · obtain ⟨l, ws, rfl, hl, hok, hn, kk⟩ := h
    have h4 : sizeLine = 16777216 := sizeLine_eq
    refine ⟨_, (pss_cons (ps_set (i := 1) sc__law_is_part.nd rfl (by first | exact Or.inl rfl | exact Or.inr rfl) pe_str)
      (pss_cons (ps_if (pt_cmpR (op_eqD hr.units) (pv 0) (pe_lst (pa_cons pe_str pa_nil)) (nomark _)) (pss_one (ps_ret pe_bl)) pss_nil)
      (pss_cons (ps_setLc (i := 2) (own := [("_law_word_here", 3)]) rfl sc__law_is_part.nd rfl rfl (sw_true rfl rfl rfl (by decide +kernel)) (pi_list (pv 0)) (blkOk_by (own := [("_law_word_here", 3)]) (N := N__law_is_part) (sc := defScope s__law_is_part) (by decide +kernel)) (fun _ _ _ _ _ => (pg_name (i := 3) sc__law_is_part.nd rfl (by first | exact Or.inl rfl | exact Or.inr rfl))) (fun _ _ _ _ _ => pts_one ((pw_or (pt_not (pt_chain op_le op_le pe_int (pe_callB call_len_str (by rfl) (T.bn _ (by decide +kernel)) (by decide +kernel) (pa_cons (pv 3) pa_nil)) pe_int)) (pw_or1 (pt_cmpR (op_neNil hr) (pe_lc (own := [("_law_sign", 4)]) rfl sc__law_is_part.nd (pi_str (pv 3)) (blkOk_by (own := [("_law_sign", 4)]) (N := N__law_is_part) (sc := relS _ (defScope s__law_is_part)) (by decide +kernel)) (fun _ _ _ _ _ => (pg_name (i := 4) sc__law_is_part.nd rfl (by first | exact Or.inl rfl | exact Or.inr rfl))) (fun _ _ _ _ _ => pts_one (pt_cmpR op_notIn_sign (pv 4) (pv 1) rfl)) (fun _ _ _ _ _ => (pv 4))) (pe_lst pa_nil) (nomark _))))).pt) (fun _ _ _ _ _ => (pv 3)))
      (pss_one (ps_ret (pe_and (pe_cmpR (op_neNil hr) (pv 0) (pe_lst pa_nil) (nomark _)) (pe_and (pe_cmpR (op_eqNil hr) (pv 2) (pe_lst pa_nil) (nomark _)) (pe_one (pe_cmpR (op_eqD hr.units) (pv 0) (pe_callB (cr_sortT rfl) (by rfl) (T.bn _ (by decide +kernel)) (by decide +kernel) (pa_cons (pe_callTy (cr_setT rfl) (by rfl) (T.bn _ (by decide +kernel)) (by decide +kernel) (pa_cons (pe_lc (own := [("_law_word_here", 3)]) rfl sc__law_is_part.nd (pi_list (pv 0)) (blkOk_by (own := [("_law_word_here", 3)]) (N := N__law_is_part) (sc := defScope s__law_is_part) (by decide +kernel)) (fun _ _ _ _ _ => (pg_name (i := 3) sc__law_is_part.nd rfl (by first | exact Or.inl rfl | exact Or.inr rfl))) (fun _ _ _ _ _ => pts_nil) (fun _ _ _ _ _ => (pe_callTy SkE.call_str_str (by rfl) (T.bn _ (by decide +kernel)) (by decide +kernel) (pa_cons (pv 3) pa_nil)))) pa_nil)) pa_nil)) (nomark _)))))))))), ?_⟩
    have so : ∀ z ∈ ws, PyData.strOk z = true := fun z hz => strOk_256 (hok z hz).2
    refine ⟨_, rfl, (by show 1 ≤ sizeLine; decide), fun d1 nd1 => ?_⟩
    have e1 := Ext.upd (o := HO.lst [V.str "-"]) nd1
    have so1 : ∀ z ∈ [("-" : Str)], PyData.strOk z = true := by decide +kernel
    refine ⟨.list (ws.map .str), .list ([("-" : Str)].map .str), .lst (SqL.of (at_new nd1 hl)) (dp_strs ws), .lst (SqL.of upd_same) (dp_strs [("-" : Str)]), shaped_lst _ so, shaped_lst _ so1, ?_⟩
    rw [eqv_lsts]
    have hl1 := at_new (o' := HO.lst [V.str "-"]) nd1 hl
    generalize (upd H d1 (.lst [.str "-"])) = H1 at e1 hl1
    by_cases c1 : ws = [("-" : Str)]
    · exact ⟨_, rfl, iteYes (decide_eq_true c1) (kk true H1 e1 ⟨fun _ => .inl c1, fun _ => rfl⟩)⟩
    refine ⟨_, rfl, iteNo (decide_eq_false c1) ?_⟩
    refine ⟨_, rfl, l, rfl, ⟨_, SqL.of hl1⟩, fun D hD => ?_⟩
    refine lc_it walk_list (fun i H' => ∃ ys : List V, H' D = some (.lst ys) ∧ ys.length ≤ i ∧ ys.isEmpty = (ws.take i).all isName ∧ Ext H1 H') ⟨[], upd_same, Nat.le_refl _, by simp, Ext.upd hD⟩ (fun i H' _ ⟨_, _, _, _, e⟩ => SqL.of (e _ _ hl1)) ?_ ?_
    · rintro i x _ Hx hi ⟨ys, gD, hly, hye, ex⟩ ⟨rfl, hx⟩
      rw [List.getElem?_map] at hx
      obtain ⟨z, hz, rfl⟩ := Option.map_eq_some_iff.mp hx
      have hi' : i < ws.length := (List.getElem?_eq_some_iff.mp hz).1
      have hzl := (hok z (List.mem_of_getElem? hz)).1
      have tk : (ws.take (i + 1)).all isName = ((ws.take i).all isName && isName z) := by
        rw [List.take_add_one, hz, List.all_append]
        simp
      have yes : ∀ Hy, Ext Hx Hy → isName z = false → ∃ acc, Hy D = some (.lst acc) ∧ acc.length < sizeLine ∧ ∃ ys' : List V, (upd Hy D (.lst (acc ++ [V.str z]))) D = some (.lst ys') ∧ ys'.length ≤ i + 1 ∧ ys'.isEmpty = (ws.take (i + 1)).all isName ∧ Ext H1 (upd Hy D (.lst (acc ++ [V.str z]))) := fun Hy ey hno => by
        refine ⟨ys, ey _ _ gD, by omega, _, upd_same, by rw [List.length_append]; show ys.length + 1 ≤ i + 1; omega, ?_, fun b o q => ?_⟩
        · rw [tk, hno, Bool.and_false]
          simp
        · rw [upd_ne (ne_of_none q hD)]
          exact ey _ _ (ex _ _ q)
      have no : ∀ Hy, Ext Hx Hy → isName z = true → ∃ ys' : List V, Hy D = some (.lst ys') ∧ ys'.length ≤ i + 1 ∧ ys'.isEmpty = (ws.take (i + 1)).all isName ∧ Ext H1 Hy := fun Hy ey hno => ⟨ys, ey _ _ gD, by omega, by rw [tk, hno, Bool.and_true]; exact hye, ex.trans ey⟩
      refine ⟨rfl, _, rfl, z, rfl, by omega, _, _, rfl, rfl, ?_⟩
      by_cases h1 : 1 ≤ z.length
      case neg =>
        refine ⟨false, by simp; omega, iteF ⟨false, rfl, iteT (iteT ⟨_, rfl, yes _ Ext.rfl' ?_⟩)⟩⟩
        exact Bool.eq_false_iff.mpr fun h => h1 ((isName_iff z).mp h).1
      refine ⟨true, by simp; omega, iteT ⟨_, _, rfl, rfl, ?_⟩⟩
      by_cases h6 : z.length ≤ 6
      case neg =>
        refine ⟨false, by simp; omega, iteT (iteT ⟨_, rfl, yes _ Ext.rfl' ?_⟩)⟩
        exact Bool.eq_false_iff.mpr fun h => h6 ((isName_iff z).mp h).2.1
      refine ⟨true, by simp; omega, iteF ?_⟩
      refine ⟨_, rfl, z, rfl, fun D2 hD2 => ?_⟩
      refine lc_it walk_str (fun j Hy => ∃ zs : List V, Hy = upd Hx D2 (.lst zs) ∧ zs.length ≤ j ∧ zs.isEmpty = ((tl z).take j).all fun c => decide (c ∈ tl lettersS)) ⟨[], rfl, Nat.le_refl _, by simp⟩ (fun _ _ _ _ => trivial) ?_ ?_
      · rintro j x Hy H' hj ⟨zs, rfl, hlz, he⟩ ⟨rfl, c, hc, rfl⟩
        have hc' : (tl z)[j]? = some c := by rw [← hc]; simp [tl]
        have hz6 : j < 6 := by have : z.length = z.cps.size := rfl; omega
        have et : ((tl z).take (j + 1)).all (fun c => decide (c ∈ tl lettersS)) = (((tl z).take j).all (fun c => decide (c ∈ tl lettersS)) && decide (c ∈ tl lettersS)) := by
          rw [List.take_add_one, hc', List.all_append]
          simp
        refine ⟨rfl, _, rfl, _, rfl, c, _, rfl, rfl, _, rfl, ?_⟩
        by_cases hm : c ∈ tl lettersS
        · refine iteNo (by show (!decide (c ∈ tl lettersS)) = false; rw [decide_eq_true hm]; rfl) ?_
          exact ⟨zs, rfl, by omega, by rw [et, ← he, decide_eq_true hm, Bool.and_true]⟩
        · refine iteYes (by show (!decide (c ∈ tl lettersS)) = true; rw [decide_eq_false hm]; rfl) ?_
          refine ⟨_, rfl, zs, upd_same, Nat.lt_of_le_of_lt (show zs.length ≤ 6 by omega) (by decide), zs ++ [.str ⟨#[c]⟩], by rw [upd_upd], by rw [List.length_append]; simp; omega, ?_⟩
          rw [et, decide_eq_false hm, Bool.and_false]
          simp
      · rintro Hy ⟨zs, rfl, hlz, he⟩
        have en : isName z = zs.isEmpty := by
          have hz' : z.cps.size = (tl z).length := by simp [tl]
          unfold isName
          rw [decide_eq_true h1, decide_eq_true h6, Bool.true_and, Bool.true_and, he, hz', List.take_length]
        refine ⟨(by show 0 ≤ sizeLine; decide), fun em nem => ⟨D2, em, zs, rfl, rfl, at_new nem upd_same, upd_same, ?_⟩⟩
        have e3 : Ext Hx (upd (upd Hx D2 (.lst zs)) em (.lst [])) := (Ext.upd hD2).trans (Ext.upd nem)
        cases hb2 : zs.isEmpty with
        | false => exact ⟨_, rfl, iteT ⟨_, rfl, yes _ e3 (by rw [en, hb2])⟩⟩
        | true => exact ⟨_, rfl, iteF (no _ e3 (by rw [en, hb2]))⟩
    rintro H2 ⟨ys, gD, hly, hye, e12⟩
    rw [List.length_map, List.take_length] at hye
    rw [List.length_map] at hly
    have e02 := e1.trans e12
    have hl2 := e12 _ _ hl1
    refine ⟨_, rfl, (by show 0 ≤ sizeLine; decide), fun em nem => ⟨l, em, _, rfl, rfl, at_new nem hl2, upd_same, ?_⟩⟩
    have e3 := e02.trans (Ext.upd (o := HO.lst []) nem)
    have hl3 := at_new (o' := HO.lst []) nem hl2
    have gD3 := at_new (o' := HO.lst []) nem gD
    generalize (upd H2 em (.lst [])) = H3 at e3 hl3 gD3
    by_cases c2 : ws = []
    · have : (!(ws.map V.str).isEmpty) = false := by rw [c2]; rfl
      rw [this]
      refine ⟨_, rfl, iteF (kk false H3 e3 ⟨fun z => (nomatch z), fun hp => ?_⟩)⟩
      rcases hp with h | h
      · exact absurd h c1
      · exact absurd c2 h.1
    have : (!(ws.map V.str).isEmpty) = true := by cases ws with | nil => exact absurd rfl c2 | cons a r => rfl
    rw [this]
    refine ⟨_, rfl, iteT ?_⟩
    refine ⟨_, rfl, (by show 0 ≤ sizeLine; decide), fun em2 nem2 => ⟨D, em2, _, rfl, rfl, at_new nem2 gD3, upd_same, ?_⟩⟩
    have e4 := e3.trans (Ext.upd (o := HO.lst []) nem2)
    have hl4 := at_new (o' := HO.lst []) nem2 hl3
    generalize (upd H3 em2 (.lst [])) = H4 at e4 hl4
    rw [hye]
    have nmi : ws.all isName = true ↔ Nm ws := List.all_eq_true
    cases c3 : ws.all isName with
    | false =>
      refine ⟨_, rfl, iteF (kk false H4 e4 ⟨fun z => (nomatch z), fun hp => ?_⟩)⟩
      rcases hp with h | h
      · exact absurd h c1
      · rw [nmi.mpr h.2.1] at c3; cases c3
    | true =>
    refine ⟨_, rfl, iteT ?_⟩
    refine ⟨_, rfl, _, rfl, l, rfl, ⟨_, SqL.of hl4⟩, fun D3 hD3 => ?_⟩
    refine lc_strs walk_list (fun z => some (.str z)) (by omega) (fun l => SqL.of (at_new hD3 hl4)) (fun i z l C' N hz hC hN => ⟨rfl, _, rfl, _, rfl, hC _ rfl⟩) ?_
    rw [fm_id]
    have e5 := Ext.upd (o := HO.lst (ws.map V.str)) hD3
    refine ⟨D3, ws, rfl, SqL.of upd_same, by omega, fun S M nS nd lM mM => ?_⟩
    refine ⟨S, M, rfl, upd_same, by omega, fun os B pmB soB nB => ?_⟩
    have e6 := e5.trans ((Ext.upd (o := SetT w S M) nS).trans (Ext.upd (o := HO.lst (os.map V.str)) nB))
    have ao : Asc ws os := ⟨pmB.nodup_iff.mpr nd, soB, fun y => by rw [pmB.mem_iff, mM]⟩
    have soo : ∀ z ∈ os, PyData.strOk z = true := fun z hz => so z ((ao.2.2 z).mp hz)
    refine ⟨.list (ws.map .str), .list (os.map .str), .lst (SqL.of (e6 _ _ hl4)) (dp_strs ws), .lst (SqL.of upd_same) (dp_strs os), shaped_lst _ so, shaped_lst _ soo, ?_⟩
    rw [eqv_lsts]
    refine kk _ _ (e4.trans e6) ⟨fun h => .inr ⟨c2, nmi.mp c3, ?_⟩, fun hp => ?_⟩
    · have e := of_decide_eq_true h
      rw [e]
      exact ao.self
    · rcases hp with h | h
      · exact absurd h c1
      · exact decide_eq_true (h.2.2.fix ao).symm
end
end K19
end
section
set_option Elab.async false
set_option autoImplicit false
set_option linter.all false
set_option maxRecDepth 100000
set_option maxHeartbeats 4000000
set_option pp.maxSteps 1500
namespace K19
open PySem PySem.Spec PyProof.Rows L2 Ls
open C8 (pss_cut tCut)
open TL
/-! ### _law_read_right -/
theorem part_wl {A : List Str} (h : IsPart A) (hl : A.length ≤ 60) : ∃ l, OkL l ∧ A = wl l := by
  rcases h with rfl | ⟨h1, h2, h3⟩
  · exact ⟨[], ⟨⟨.nil, rfl, fun _ => Iff.rfl⟩, fun z hz => absurd hz (by simp), Nat.zero_le _⟩, wl_nil.symm⟩
  · exact ⟨A, ⟨h3, h2, hl⟩, (wl_cons h1).symm⟩
theorem wl_part {l : List Str} (h : OkL l) : IsPart (wl l) := by
  by_cases e : l = []
  · rw [e, wl_nil]; exact .inl rfl
  · rw [wl_cons e]; exact .inr ⟨e, h.2.1, h.1⟩
theorem isT_of {z : Str} {j : Nat} (hj : (Txt.split z " ")[j]? = some ("/" : Str)) (hl : (Txt.split z " ").length ≤ 60) (h1 : IsPart ((Txt.split z " ").take j)) (h2 : IsPart ((Txt.split z " ").drop (j + 1))) : ∃ h k, IsT (.str z) h k := by
  obtain ⟨h, oh, eh⟩ := part_wl h1 (by rw [List.length_take]; omega)
  obtain ⟨k, ok, ek⟩ := part_wl h2 (by rw [List.length_drop]; omega)
  refine ⟨h, k, oh, ok, congrArg PyData.str ?_⟩
  rw [textOf_join, ← eh, ← ek]
  have e : (Txt.split z " ").take j ++ ("/" : Str) :: (Txt.split z " ").drop (j + 1) = Txt.split z " " := by
    obtain ⟨q1, q2⟩ := List.getElem?_eq_some_iff.mp hj
    rw [← q2, ← List.drop_eq_getElem_cons q1, List.take_append_drop]
  rw [e]
  exact (split_back sp_tl sp_kd).symm
theorem wl_noslash {l : List Str} (h : Nm l) : ("/" : Str) ∉ wl l := fun hm => by
  rcases wl_mem hm with e | hm
  · exact absurd e (by decide +kernel)
  · have := h _ hm
    rw [slash_no] at this
    cases this
theorem cut_uniq {α : Type} {x : α} : ∀ {a b : List α} {j : Nat}, x ∉ a → x ∉ b → (a ++ x :: b)[j]? = some x → j = a.length
  | [], b, 0, _, _, _ => rfl
  | [], b, j + 1, _, hb, h => absurd (List.mem_of_getElem? (by simpa using h)) hb
  | y :: a, b, 0, ha, _, h => absurd (by simpa using h.symm) (fun e : x = y => ha (by simp [e]))
  | y :: a, b, j + 1, ha, hb, h => by
    have := cut_uniq (a := a) (b := b) (j := j) (fun m => ha (by simp [m])) hb (by simpa using h)
    rw [this]
    rfl
theorem of_isT {z : Str} {h k : List Str} (it : IsT (.str z) h k) : (Txt.split z " ").count ("/" : Str) = 1 ∧ ∀ j : Nat, (Txt.split z " ")[j]? = some ("/" : Str) → IsPart ((Txt.split z " ").take j) ∧ IsPart ((Txt.split z " ").drop (j + 1)) := by
  have ez : z = textOf h k := PyData.str.inj it.2.2
  rw [ez, textOf_words it.1.nm it.2.1.nm]
  have w1 := wl_noslash it.1.nm
  have w2 := wl_noslash it.2.1.nm
  refine ⟨by rw [List.count_append, List.count_cons_self, List.count_eq_zero.mpr w1, List.count_eq_zero.mpr w2], fun j hj => ?_⟩
  have ej := cut_uniq w1 w2 hj
  subst ej
  rw [List.take_left, show (wl h ++ ("/" : Str) :: wl k).drop ((wl h).length + 1) = wl k by rw [List.drop_append]; simp]
  exact ⟨wl_part it.1, wl_part it.2.1⟩
theorem first_at {l : List Str} {x : Str} (h : x ∈ l) : ∃ j : Nat, l[j]? = some x ∧ ∀ (m : Nat) (y : Str), m < j → l[m]? = some y → y ≠ x := by
  induction l with
  | nil => cases h
  | cons a r ih =>
    by_cases e : a = x
    · exact ⟨0, by rw [e]; rfl, fun m y hm => absurd hm (Nat.not_lt_zero _)⟩
    · obtain ⟨j, h1, h2⟩ := ih ((List.mem_cons.mp h).resolve_left fun q => e q.symm)
      refine ⟨j + 1, h1, fun m y hm hy => ?_⟩
      match m, hm with
      | 0, _ =>
        have : a = y := by simpa using hy
        rw [← this]; exact e
      | m + 1, hm => exact h2 m y (by omega) (by simpa using hy)
section
variable {P : Program} {w : World} {K : PySem.W.Frag} {mg : Str → Option Value} {base : Heap} {CE CN CB CW CS : Addr} {tL tN : Tok}
def spRR (TT : List (Addr × Str)) : Sp := fun vs H Q _ => ∃ (v : V) (d : PyData), vs = [v] ∧ TV H v d ∧ AskT d ∧ LamX.Tabs TT H ∧ ∀ H', LamX.ExtN H H' → LamX.Tabs TT H' → Q (.bl true) H'
abbrev s__law_read_right : Stmt := top 35
abbrev N__law_read_right : List Str := ["_law_thing", "_law_words", "_law_is_so", "_law_at", "_law_heard_here"]
theorem sc__law_read_right : FnScope N__law_read_right ["_law_thing"] (defScope s__law_read_right) := ⟨rfl, rfl, rfl, by decide +kernel, rfl, by decide +kernel, by decide +kernel⟩
theorem ok_rr {f fE fT g c' P1 : Addr} {fd fdh : FuncData} {TT : List (Addr × Str)} (F : Fun K "_law_read_right" "_law_read_right" s__law_read_right f fd) (T : Tx K mg CE CN CB CW CS tL tN) (C : ClS K CS fE) (hsys : (base.get? sysModules).isSome = true)
    (F__law_heard : Fun K "_law_heard" "_law_heard" s__law_heard g fdh) (m__law_heard : mg "_law_heard" = some (.ref g)) (b__law_heard : L2.Binds K fdh ["_law_ask"] [])
    (eN : ErrT K CE CN CW CB CN "value" true false false) (eW : ErrT K CE CN CW CB CW "name" false true false) (eB : ErrT K CE CN CW CB CB "value" false false true)
    (hfc : fd.code = .ref c') (TB : LamX.TabB base mg c' P1) (hmT : (P1, ("_law_read_right.<locals>.<lambda>" : Str)) ∈ TT) (huT : ∀ p ∈ TT, p.1 = P1 → p.2 = ("_law_read_right.<locals>.<lambda>" : Str))
    (aT : PySem.W.findIn K (.ref CS) "__str__" = some (some (.ref fT))) (hfs : PySem.W.isFn K (.ref fT) = true) (rStr : FnR P w K mg base CX0 3 fT (spStr CS))
    (c__law_is_part : Cal P w K mg base CX0 1 "_law_is_part" spPart) (c_Standing_read : Clm P w K mg base (L2.CX P w) 6 CS "read" (spRead CB CS)) :
    FnG P w K mg base CX0 10 f fd ["_law_thing"] (spRR TT) := by
  refine okG F sc__law_read_right (fun vs H Q E h => ?_) (fun cdv A outer s0 H vs Q E hcd hgd hr h => ?_)
  · obtain ⟨v, d, rfl, _⟩ := h
    rfl
  · obtain ⟨v, d, rfl, hv, hA, hT, kk⟩ := h
    rw [hfc] at hcd
    subst hcd
    have h4 : sizeLine = 16777216 := sizeLine_eq
    refine ⟨_, (pss_cut (ps_set (i := 1) sc__law_read_right.nd rfl (by first | exact Or.inl rfl | exact Or.inr rfl) (pe_ifExp (pt_val (pe_callB call_isi (by rfl) (T.bn _ (by decide +kernel)) (by decide +kernel) (pa_cons (pv 0) (pa_cons (pe_gty (T := "str") (by rfl) (T.bn _ (by decide +kernel)) (by decide +kernel)) pa_nil)))) (pe_split (pv 0) pe_str) (pe_lst pa_nil)))
      (pss_cons (ps_set (i := 2) sc__law_read_right.nd rfl (by first | exact Or.inl rfl | exact Or.inr rfl) (pe_cmpR op_eq (pe_bm PySem.F.plainAttrs_list PySem.F.slot_list_count PySem.F.type_list_count mt_countF (pv 1) (pa_cons pe_str pa_nil)) pe_int (nomark _)))
      (pss_cut (ps_if (pt_val (pv 2)) (pss_cons (ps_set (i := 3) sc__law_read_right.nd rfl (by first | exact Or.inl rfl | exact Or.inr rfl) (pe_bm PySem.F.plainAttrs_list PySem.F.slot_list_index PySem.F.type_list_index mt_index (pv 1) (pa_cons pe_str pa_nil)))
      (pss_one (ps_set (i := 2) sc__law_read_right.nd rfl (by first | exact Or.inl rfl | exact Or.inr rfl) (pe_and (pe_cal c__law_is_part (hr.mono (by decide)) (by rfl) pass0 (pa_cons (pe_slice sl_list (pv 1) po_none (po_some (pv 3))) pa_nil)) (pe_one (pe_cal c__law_is_part (hr.mono (by decide)) (by rfl) pass0 (pa_cons (pe_slice sl_list (pv 1) (po_some (pe_op op_add (pv 3) pe_int)) po_none) pa_nil))))))) pss_nil)
      (pss_cons (ps_set (i := 4) sc__law_read_right.nd rfl (by first | exact Or.inl rfl | exact Or.inr rfl) (pe_lamS (T := TT) (k := 7) F__law_heard (by rfl) m__law_heard b__law_heard sc__law_heard rfl (.inl rfl) (fun cdv => heard_gives T eN eW eB) TB rfl hmT huT (hr.mono (by decide)) (LamX.lamS_by (sc := defScope s__law_read_right) (by decide +kernel)) rfl (fun _ _ _ _ _ => rfl) (fun A outer s H E f c2 hr => (pe_clm c_Standing_read (hr.mono (by decide)) (pe_gref (by rfl) T.m_Standing) passLm (pa_cons (pv 0) pa_nil)))))
      (pss_cons (ps_if (pt_val (pv 2)) (pss_one (ps_ret (pe_and (pe_callB call_isi (by rfl) (T.bn _ (by decide +kernel)) (by decide +kernel) (pa_cons (pv 4) (pa_cons (pe_gty (T := "list") (by rfl) (T.bn _ (by decide +kernel)) (by decide +kernel)) pa_nil))) (pe_one (pe_cmpR op_eq (pe_callTy (call_strOwn hfs rStr (hr.mono (by decide)) pass0) (by rfl) (T.bn _ (by decide +kernel)) (by decide +kernel) (pa_cons (pe_ix ix_list (pv 4) pe_int (fun _ _ => rfl)) pa_nil)) (pv 0) (nomark _)))))) pss_nil)
      (pss_one (ps_ret (pe_and (pe_callB call_isi (by rfl) (T.bn _ (by decide +kernel)) (by decide +kernel) (pa_cons (pv 4) (pa_cons (pe_gty (T := "tuple") (by rfl) (T.bn _ (by decide +kernel)) (by decide +kernel)) pa_nil))) (pe_one (pe_cmpR op_eq (pe_callB (call_repr hgd hr hsys) (by rfl) (T.bn _ (by decide +kernel)) (by decide +kernel) (pa_cons (pv 4) pa_nil)) (pe_callB (call_repr hgd hr hsys) (by rfl) (T.bn _ (by decide +kernel)) (by decide +kernel) (pa_cons (pe_tup (pa_cons pe_str (pa_cons (pv 0) pa_nil))) pa_nil)) (nomark _))))))))))), ?_⟩
    refine ⟨fun σ H' => ∃ (Lw : Addr) (ws : List Str), σ = [some v, some (.ref Lw), none, none, none] ∧ Ext H H' ∧ H' Lw = some (.lst (ws.map V.str)) ∧ (∀ z ∈ ws, OkS 300 z) ∧ ws.length ≤ 50 ∧
      (∀ j : Nat, ws[j]? = some ("/" : Str) → IsPart (ws.take j) → IsPart (ws.drop (j + 1)) → ∃ h k, IsT d h k) ∧ (∀ h k, IsT d h k → ws.count ("/" : Str) = 1 ∧ ∀ j : Nat, ws[j]? = some ("/" : Str) → IsPart (ws.take j) ∧ IsPart (ws.drop (j + 1))), ?_, ?_⟩
    · refine ⟨_, rfl, _, _, _, _, isStrD d, rfl, .ty "str", tyX_of hv, kit_str d, _, rfl, ?_⟩
      cases hd : isStrD d with
      | false =>
        refine iteF ?_
        refine ⟨(by show 0 ≤ sizeLine; decide), fun p np => ⟨p, [], rfl, Ext.upd np, upd_same, fun z hz => absurd hz (by simp), by decide, fun j hj => by simp at hj, fun h k it => ?_⟩⟩
        rw [it.2.2] at hd; cases hd
      | true =>
      obtain ⟨z, rfl⟩ := strD hd
      cases tv_str hv
      obtain ⟨ht, hc⟩ := hA.tx z rfl
      have sc := split_count z
      refine iteT ?_
      refine ⟨_, rfl, ⟨_, rfl⟩, _, _, rfl, rfl, by decide +kernel, Nat.le_trans (Nat.add_le_add_right ht.1 2) (by decide), fun p np => ?_⟩
      exact ⟨p, Txt.split z " ", rfl, Ext.upd np, upd_same, fun y hy => ht.part sp_tl sp_kd hy, by omega, fun j hj h1 h2 => isT_of hj (by omega) h1 h2, fun h k it => of_isT it⟩
    rintro σ H1 ⟨Lw, ws, rfl, e1, fL, hok, hlw, so1, so2⟩
    refine ⟨_, rfl, .inl ⟨rfl, _, SqL.of fL⟩, Lw, _, .str "/", rfl, rfl, SqL.of fL, rfl, flat_strs _, ?_⟩
    rw [count_strs]
    refine ⟨rfl, ?_⟩
    refine ⟨fun σ H' => ∃ (b : Bool) (x3 : Option V), σ = [some v, some (.ref Lw), some (.bl b), x3, none] ∧ Ext H H' ∧ (b = true ↔ ∃ h k, IsT d h k), ?_, ?_⟩
    · by_cases hc : ws.count ("/" : Str) = 1
      case neg =>
        have : decide (V.int ((ws.count ("/" : Str) : Nat) : Int) = V.int 1) = false := decide_eq_false fun z => hc (by have := V.int.inj z; omega)
        rw [this]
        refine ⟨_, rfl, _, rfl, iteF ⟨false, _, rfl, e1, ⟨fun z => (nomatch z), fun ⟨h, k, it⟩ => absurd (so2 h k it).1 hc⟩⟩⟩
      have : decide (V.int ((ws.count ("/" : Str) : Nat) : Int) = V.int 1) = true := decide_eq_true (by rw [hc]; rfl)
      rw [this]
      refine ⟨_, rfl, _, rfl, iteT ?_⟩
      obtain ⟨j, hj, hlow⟩ := first_at (List.count_pos_iff.mp (show 0 < ws.count ("/" : Str) by omega))
      refine ⟨_, rfl, .inl ⟨rfl, _, SqL.of fL⟩, Lw, _, .str "/", j, .str "/", rfl, rfl, SqL.of fL, rfl, flat_strs _, by rw [List.getElem?_map, hj]; rfl, by rw [eqV_str]; exact decide_eq_true rfl, fun m z' hm hz' => ?_, ?_⟩
      · rw [List.getElem?_map] at hz'
        obtain ⟨y, hy, rfl⟩ := Option.map_eq_some_iff.mp hz'
        rw [eqV_str]
        exact decide_eq_false fun e => hlow m y hm hy e.symm
      refine ⟨_, rfl, _, rfl, _, rfl, Lw, _, rfl, SqL.of fL, fun s1 ns1 => ?_⟩
      rw [cutM_to _ (by omega), show ((j : Nat) : Int).toNat = j from rfl]
      have i1 := Ext.upd (o := HO.lst ((ws.take j).map V.str)) ns1
      refine ⟨s1, ws.take j, rfl, upd_same, fun z hz => hok z (List.mem_of_mem_take hz), by rw [List.length_take]; omega, fun b1 H2 e2 hb1 => ?_⟩
      have e12 := i1.trans e2
      have fL2 := e12 _ _ fL
      cases b1 with
      | false =>
        refine ⟨_, rfl, iteF ⟨false, _, rfl, e1.trans e12, ⟨fun z => (nomatch z), fun ⟨h, k, it⟩ => ?_⟩⟩⟩
        exact hb1.mpr ((so2 h k it).2 j hj).1
      | true =>
        refine ⟨_, rfl, iteT ?_⟩
        refine ⟨_, rfl, _, rfl, _, _, rfl, rfl, _, rfl, Lw, _, rfl, SqL.of fL2, fun s2 ns2 => ?_⟩
        rw [cutM_from _ (by omega), show ((j : Nat) + 1 : Int).toNat = j + 1 by omega]
        have i2 := Ext.upd (o := HO.lst ((ws.drop (j + 1)).map V.str)) ns2
        refine ⟨s2, ws.drop (j + 1), rfl, upd_same, fun z hz => hok z (List.mem_of_mem_drop hz), by rw [List.length_drop]; omega, fun b2 H3 e3 hb2 => ?_⟩
        refine ⟨b2, _, rfl, e1.trans (e12.trans (i2.trans e3)), ⟨fun h => so1 j hj (hb1.mp rfl) (hb2.mp h), fun ⟨h, k, it⟩ => hb2.mpr ((so2 h k it).2 j hj).2⟩⟩
    rintro σ H2 ⟨b, x3, rfl, e2, hb⟩
    have T2 := hT.ext e2
    have hv2 := hv.ext e2
    refine ⟨T2, fun H3 y3 T3 E' Q' hE hQ => ?_⟩
    have hv3 := tv_N hv2 y3
    have y03 : LamX.ExtN H H3 := (LamX.ExtN.of e2).trans y3
    have fin : ∀ H', Ext H3 H' → Q (.bl true) H' := fun H' e => kk H' (y03.trans (LamX.ExtN.of e)) (T3.ext e)
    refine ⟨rfl, _, rfl, _, v, d, rfl, hv3, fun z e => ⟨Nat.le_trans (hA.tx z e).1.1 (by decide), Nat.le_trans (hA.tx z e).2 (by decide)⟩, fun h k it a H4 e4 st => hQ _ _ fun p H5 e5 hp => ?_, fun no dd H4 e4 q4 => hE _ _ _ ⟨CB, dd, v, "value", "standing", rfl, rfl, nw_ext _ _ q4, .inr (.inr ⟨rfl, rfl, rfl⟩), fun p H5 e5 hp => ?_⟩⟩
    · have hp := nw_ext _ _ hp
      have hbt : b = true := hb.mpr ⟨h, k, it⟩
      subst hbt
      have st5 := st.ext e5
      obtain ⟨dx, t1, t2, q1, q2, q3⟩ := st5.ex
      have ed := it.2.2
      subst ed
      cases tv_str hv
      refine ⟨_, rfl, _, rfl, iteT ?_⟩
      refine ⟨_, rfl, _, _, _, _, true, rfl, .ty "list", .base (.lst hp), kit_ty (by decide +kernel), _, rfl, iteT ?_⟩
      refine ⟨_, rfl, p, _, 0, _, rfl, rfl, SqL.of hp, rfl, a, CS, dx, _, rfl, q1, aT, a, h, k, rfl, st5, _, rfl, _, rfl, rfl, ?_⟩
      rw [decide_eq_true rfl]
      exact fin _ (e4.trans e5)
    · have hp := nw_ext _ _ hp
      have hbf : b = false := by
        cases b with
        | false => rfl
        | true =>
          obtain ⟨h, k, it⟩ := hb.mp rfl
          exact absurd it (no h k)
      subst hbf
      have e45 := e4.trans e5
      have hv5 := hv3.ext e45
      have sw : Shw 5000 (.tuple [.str "standing", d]) := (Shw.tup2 (Shw.str (n := 10) ⟨by decide +kernel, by decide +kernel⟩) hA.sw (by show 0 < 20; decide) (Nat.lt_of_le_of_lt hA.dp (by decide))).mono (by decide)
      refine ⟨_, rfl, _, rfl, iteF ?_⟩
      refine ⟨_, rfl, _, _, _, _, true, rfl, .ty "tuple", .base (.tup hp), kit_ty (by decide +kernel), _, rfl, iteT ?_⟩
      refine ⟨_, rfl, .ref p, .tuple [.str "standing", d], rfl, .tup hp (.cons (.str _) (.cons hv5 .nil)), sw.sh, Nat.le_trans sw.dp (by decide), Nat.le_trans sw.ln (by decide), ?_⟩
      refine ⟨_, rfl, (by show 2 ≤ sizeLine; decide), fun tp ntp => ?_⟩
      have e6 := Ext.upd (o := HO.tup [V.str "standing", v]) ntp
      refine ⟨.ref tp, .tuple [.str "standing", d], rfl, .tup upd_same (.cons (.str _) (.cons (hv5.ext e6) .nil)), sw.sh, Nat.le_trans sw.dp (by decide), Nat.le_trans sw.ln (by decide), rfl, ?_⟩
      rw [decide_eq_true rfl]
      exact fin _ (e45.trans e6)
end
end K19
end
section
set_option Elab.async false
set_option autoImplicit false
set_option linter.all false
set_option maxRecDepth 100000
set_option maxHeartbeats 4000000
set_option pp.maxSteps 1500
namespace K19
open PySem PySem.Spec PyProof.Rows L2 Ls
open C8 (pss_cut tCut)
open TL
/-! ### law -/
def spSt0 (CS : Addr) : Sp := fun vs H Q _ => ∃ (x dx : Addr), vs = [.ref x] ∧ H x = some (.ins CS dx []) ∧ ∀ H', StAt CS H' x [] [] → (∀ b o, H b = some o → b ≠ x → H' b = some o) → Q .non H'
theorem okl_nil : OkL [] := ⟨⟨.nil, rfl, fun _ => Iff.rfl⟩, fun z hz => absurd hz (by simp), Nat.zero_le _⟩
section
variable {P : Program} {w : World} {K : PySem.W.Frag} {mg : Str → Option Value} {base : Heap} {CE CN CB CW CS : Addr} {tL tN : Tok}
/-- Standing(): the defaults are the module's empty tuples -/
theorem st0_of {H : Hp} {x a b : Addr} {Q : VK} {E : XK} (h : spSt0 CS [.ref x] H Q E) (sa : SqT K H a []) (sb : SqT K H b []) : spSt K CN CW CS [.ref x, .ref a, .ref b] H Q E := by
  obtain ⟨x', dx, e, hx, k⟩ := h
  cases e
  refine ⟨x, dx, a, b, [], [], [], [], rfl, hx, .inr sa, .inr sb, ⟨.nil, fun d hd => absurd hd (by simp), by decide⟩, ⟨.nil, fun d hd => absurd hd (by simp), by decide⟩, by decide, by decide, (fun d hd => by cases hd), (fun _ z hz => by cases hz), fun _ _ h k' H' ah ak st kp => ?_⟩
  have e1 : h = [] := List.eq_nil_of_length_eq_zero (Nat.le_zero.mp ah.len)
  have e2 : k' = [] := List.eq_nil_of_length_eq_zero (Nat.le_zero.mp ak.len)
  subst e1 e2
  exact k H' st kp
def spLaw (K : PySem.W.Frag) (TT : List (Addr × Str)) : Sp := fun vs H Q _ => ∃ (a : Addr) (ns : List Int), vs = [.ref a] ∧ SqL K H a (ns.map V.int) ∧ ns.length ≤ 63 ∧ LamX.Tabs TT H ∧ ∀ H', Q (.bl true) H'
abbrev s_law : Stmt := top 36
abbrev N_law : List Str := ["_law_script", "_law_pen_here", "_law_go", "_law_names_here", "_law_one", "_law_first", "_law_again", "_law_other", "_law_second"]
theorem sc_law : FnScope N_law ["_law_script"] (defScope s_law) := ⟨rfl, rfl, rfl, by decide +kernel, rfl, by decide +kernel, by decide +kernel⟩
theorem ok_law {f fE fT : Addr} {fd : FuncData} {TT : List (Addr × Str)} (F : Fun K "law" "law" s_law f fd) (T : Tx K mg CE CN CB CW CS tL tN) (C : ClS K CS fE) (hsys : (base.get? sysModules).isSome = true)
    (c_slots : Prp P w K mg base CX0 1 (· = CS) "slots" (spHeld CS)) (c_stored : Prp P w K mg base CX0 1 (· = CS) "stored" (spKept CS))
    (aT : PySem.W.findIn K (.ref CS) "__str__" = some (some (.ref fT))) (hfs : PySem.W.isFn K (.ref fT) = true) (rStr : FnR P w K mg base CX0 3 fT (spStr CS)) (hfe : PySem.W.isFn K (.ref fE) = true) (rE : FnR P w K mg base CX0 2 fE (spEq K CS))
    (c_Standing_0 : Mkc P w K mg base (L2.CX P w) 4 CS "Standing" (spSt0 CS)) (c_Standing_read : Clm P w K mg base (L2.CX P w) 6 CS "read" (spRead CB CS))
    (c__law_pen : Cal P w K mg base CX0 1 "_law_pen" (spPen K)) (c__law_names : Cal P w K mg base CX0 3 "_law_names" spLN) (c__law_drawn : Cal P w K mg base CX0 3 "_law_drawn" spDrawn) (c__law_near : Cal P w K mg base CX0 4 "_law_near" spNear) (c__law_made : Cal P w K mg base CX0 6 "_law_made" (spMade CS)) (c__law_bent : Cal P w K mg base CX0 3 "_law_bent" spBent)
    (c__law_told_right : CalG P w K mg base CX0 8 "_law_told_right" (spTR CS)) (c__law_beside_right : CalG P w K mg base CX0 9 "_law_beside_right" (spBR CS)) (c__law_refused_right : CalG P w K mg base CX0 10 "_law_refused_right" (spRF TT)) (c__law_read_right : CalG P w K mg base CX0 10 "_law_read_right" (spRR TT)) :
    FnG P w K mg base CX0 12 f fd ["_law_script"] (spLaw K TT) := by
  refine okG F sc_law (fun vs H Q E h => ?_) (fun cdv A outer s0 H vs Q E hcd hgd hr h => ?_)
  · obtain ⟨a, ns, rfl, _⟩ := h
    rfl
  · obtain ⟨a, ns, rfl, ha, hn, hT, k⟩ := h
    refine ⟨_, (pss_cons (ps_set (i := 1) sc_law.nd rfl (by first | exact Or.inl rfl | exact Or.inr rfl) (pe_cal c__law_pen (hr.mono (by decide)) (by rfl) pass0 (pa_cons (pv 0) pa_nil)))
      (pss_cons (ps_for PassesOwn.never rfl (pi_range1 rfl (T.bn _ (by decide +kernel)) (pa_cons pe_int pa_nil)) (pg_name (i := 2) sc_law.nd rfl (by first | exact Or.inl rfl | exact Or.inr rfl))
      (pss_cons (ps_set (i := 3) sc_law.nd rfl (by first | exact Or.inl rfl | exact Or.inr rfl) (pe_cal c__law_names (hr.mono (by decide)) (by rfl) pass0 (pa_cons (pv 1) pa_nil)))
      (pss_cons (ps_set (i := 4) sc_law.nd rfl (by first | exact Or.inl rfl | exact Or.inr rfl) (pe_cal c__law_drawn (hr.mono (by decide)) (by rfl) pass0 (pa_cons (pv 1) (pa_cons (pv 3) pa_nil))))
      (pss_cons (ps_set (i := 5) sc_law.nd rfl (by first | exact Or.inl rfl | exact Or.inr rfl) (pe_cal c__law_made (hr.mono (by decide)) (by rfl) pass0 (pa_cons (pv 1) (pa_cons (pv 4) pa_nil))))
      (pss_cons (ps_if (pt_not (pt_val (pe_calG hgd c__law_told_right (hr.mono (by decide)) (by rfl) pass0 (pa_cons (pv 5) (pa_cons (pv 4) pa_nil))))) (pss_one (ps_ret pe_bl)) pss_nil)
      (pss_cons (ps_for PassesOwn.never rfl (pi_range1 rfl (T.bn _ (by decide +kernel)) (pa_cons pe_int pa_nil)) (pg_name (i := 6) sc_law.nd rfl (by first | exact Or.inl rfl | exact Or.inr rfl))
      (pss_cons (ps_set (i := 7) sc_law.nd rfl (by first | exact Or.inl rfl | exact Or.inr rfl) (pe_cal c__law_near (hr.mono (by decide)) (by rfl) pass0 (pa_cons (pv 1) (pa_cons (pv 4) (pa_cons (pv 3) pa_nil)))))
      (pss_cons (ps_set (i := 8) sc_law.nd rfl (by first | exact Or.inl rfl | exact Or.inr rfl) (pe_cal c__law_made (hr.mono (by decide)) (by rfl) pass0 (pa_cons (pv 1) (pa_cons (pv 7) pa_nil))))
      (pss_cons (ps_if (pt_not (pt_val (pe_calG hgd c__law_told_right (hr.mono (by decide)) (by rfl) pass0 (pa_cons (pv 8) (pa_cons (pv 7) pa_nil))))) (pss_one (ps_ret pe_bl)) pss_nil)
      (pss_cons (ps_if (pt_not (pt_val (pe_calG hgd c__law_beside_right (hr.mono (by decide)) (by rfl) pass0 (pa_cons (pv 1) (pa_cons (pv 4) (pa_cons (pv 7) (pa_cons (pv 5) (pa_cons (pv 8) (pa_cons (pv 3) pa_nil))))))))) (pss_one (ps_ret pe_bl)) pss_nil)
      (pss_one (ps_if ((pw_or (pt_not (pt_val (pe_calG hgd c__law_refused_right (hr.mono (by decide)) (by rfl) pass0 (pa_cons (pv 1) (pa_cons (pv 7) pa_nil))))) (pw_or1 (pt_not (pt_val (pe_calG hgd c__law_read_right (hr.mono (by decide)) (by rfl) pass0 (pa_cons (pe_cal c__law_bent (hr.mono (by decide)) (by rfl) pass0 (pa_cons (pv 1) (pa_cons (pe_callTy (call_strOwn hfs rStr (hr.mono (by decide)) pass0) (by rfl) (T.bn _ (by decide +kernel)) (by decide +kernel) (pa_cons (pv 8) pa_nil)) pa_nil))) pa_nil))))))).pt (pss_one (ps_ret pe_bl)) pss_nil)))))))
      (pss_one (ps_if ((pw_or (pt_cmpR (op_eqO rE hfe (hr.mono (by decide)) pass0) (pv 5) (pe_callTy (call_strOwn hfs rStr (hr.mono (by decide)) pass0) (by rfl) (T.bn _ (by decide +kernel)) (by decide +kernel) (pa_cons (pv 5) pa_nil)) (nomark _)) (pw_or (pt_cmpR (op_eqO rE hfe (hr.mono (by decide)) pass0) (pv 5) (pe_tup (pa_cons ((pe_prp c_slots (hr.mono (by decide)) pass0) (pv 5)) (pa_cons ((pe_prp c_stored (hr.mono (by decide)) pass0) (pv 5)) pa_nil))) (nomark _)) (pw_or1 (pt_not (pt_val (pe_calG hgd c__law_told_right (hr.mono (by decide)) (by rfl) pass0 (pa_cons (pv 5) (pa_cons (pv 4) pa_nil))))))))).pt (pss_one (ps_ret pe_bl)) pss_nil))))))))
      (pss_one (ps_ret (pe_and (pe_cmpR op_eq (pe_callTy (call_strOwn hfs rStr (hr.mono (by decide)) pass0) (by rfl) (T.bn _ (by decide +kernel)) (by decide +kernel) (pa_cons (pe_mk0 c_Standing_0 (hr.mono (by decide)) (by rfl) passN) pa_nil)) pe_str (nomark _)) (pe_one (pe_cmpR (op_eqO rE hfe (hr.mono (by decide)) pass0) (pe_mk0 c_Standing_0 (hr.mono (by decide)) (by rfl) passN) (pe_clm c_Standing_read (hr.mono (by decide)) (pe_gref (by rfl) T.m_Standing) passN (pa_cons pe_str pa_nil)) (nomark _)))))))), ?_⟩
    refine ⟨_, rfl, a, ns, rfl, ha, by omega, fun p c H1 hp e1 _ _ => ?_⟩
    have T1 := hT.ext e1
    refine ⟨6, rfl, by decide, by decide, ?_⟩
    refine for_it walk_range (fun i σ H' => ∃ (x2 x3 x4 x5 x6 x7 x8 : Option V), σ = [some (.ref a), some (.ref p), x2, x3, x4, x5, x6, x7, x8] ∧ PenAt H' p c (1000 * i) ∧ LamX.Tabs TT H') ⟨_, _, _, _, _, _, _, rfl, hp, T1⟩ (fun _ _ _ _ _ => trivial) ?_ ?_
    · rintro i x σ _ H2 hi ⟨o2, o3, o4, o5, o6, o7, o8, rfl, hp2, T2⟩ ⟨rfl, rfl⟩
      have hi6 : i < 6 := hi
      refine ⟨_, rfl, p, c, _, rfl, hp2, by omega, fun q ns H3 nq fq six hp3 k3 => ?_⟩
      obtain ⟨npq, ncq⟩ := hp2.ne nq
      have T3 := hp2.tabs T2 k3
      refine ⟨_, rfl, _, rfl, p, c, q, _, ns, rfl, hp3, by omega, fq, npq.symm, ncq.symm, six, fun l la lb h k' H4 off pa o6' hp4 k4 => ?_⟩
      have T4 := hp3.tabs T3 k4
      have fq4 := k4 _ _ fq npq.symm ncq.symm
      have n1 : Nm h := fun z hz => six.nm z (o6'.hs z hz)
      have n2 : Nm k' := fun z hz => six.nm z (o6'.ks z hz)
      have l1 := sub_len six o6'.hd o6'.hs
      have l2 := sub_len six o6'.kd o6'.ks
      refine ⟨_, rfl, _, rfl, p, c, l, la, lb, _, h, k', rfl, hp4, by omega, pa, off, n1, n2, o6'.hd, o6'.kd, by omega, by omega, fun s u v H5 au av st hp5 k5 => ?_⟩
      have T5 := hp4.tabs T4 k5
      have fq5 := k5 _ _ fq4 npq.symm ncq.symm
      have pa5 := pa.keep off k5
      refine ⟨_, rfl, _, rfl, s, l, la, lb, h, k', u, v, rfl, st, pa5, au, av, n1, n2, o6'.hd, o6'.kd, l1, l2, fun H6 e6 => ⟨_, rfl, iteF ?_⟩⟩
      have T6 := T5.ext e6
      have hp6 := hp5.ext e6
      refine ⟨3, rfl, by decide, by decide, ?_⟩
      refine for_it walk_range (fun j σ H' => ∃ (x6 x7 x8 : Option V), σ = [some (.ref a), some (.ref p), some (.int (0 + (i : Int))), some (.ref q), some (.ref l), some (.ref s), x6, x7, x8] ∧ PenAt H' p c (1000 * i + 10 + 50 + 1 + 200 * j) ∧ LamX.Tabs TT H' ∧ H' q = some (.lst (ns.map V.str)) ∧ PartsAt H' l la lb h k' ∧ StAt CS H' s u v) ⟨_, _, _, rfl, hp6, T6, e6 _ _ fq5, pa5.ext e6, st.ext e6⟩ (fun _ _ _ _ _ => trivial) ?_ ?_
      · rintro j x σ _ H7 hj ⟨x6, x7, x8, rfl, hp7, T7, fq7, pa7, st7⟩ ⟨rfl, rfl⟩
        have hj3 : j < 3 := hj
        refine ⟨_, rfl, _, rfl, _, rfl, p, c, l, la, lb, q, _, h, k', ns, rfl, hp7, by omega, fq7, npq.symm, ncq.symm, six, pa7, off, o6', fun m ma mb h' k'' H8 off' pb o6'' hp8 k8 => ?_⟩
        have T8 := hp7.tabs T7 k8
        have fq8 := k8 _ _ fq7 npq.symm ncq.symm
        have pa8 := pa7.keep off k8
        have st8 := st7.keep hp7 k8
        have n1' : Nm h' := fun z hz => six.nm z (o6''.hs z hz)
        have n2' : Nm k'' := fun z hz => six.nm z (o6''.ks z hz)
        have l1' := sub_len six o6''.hd o6''.hs
        have l2' := sub_len six o6''.kd o6''.ks
        refine ⟨_, rfl, _, rfl, p, c, m, ma, mb, _, h', k'', rfl, hp8, by omega, pb, off', n1', n2', o6''.hd, o6''.kd, by omega, by omega, fun s2 u2 v2 H9 au2 av2 st9 hp9 k9 => ?_⟩
        have T9 := hp8.tabs T8 k9
        have fq9 := k9 _ _ fq8 npq.symm ncq.symm
        have pa9 := pa8.keep off k9
        have pb9 := pb.keep off' k9
        have st89 := st8.keep hp8 k9
        refine ⟨_, rfl, _, rfl, s2, m, ma, mb, h', k'', u2, v2, rfl, st9, pb9, au2, av2, n1', n2', o6''.hd, o6''.kd, l1', l2', fun H10 e10 => ⟨_, rfl, iteF ?_⟩⟩
        have T10 := T9.ext e10
        have hp10 := hp9.ext e10
        refine ⟨_, rfl, _, rfl, _, rfl, _, rfl, _, rfl, _, rfl, p, c, l, la, lb, m, ma, mb, s, s2, q, _, h, k', h', k'', u, v, u2, v2, ns, rfl, hp10, by omega, e10 _ _ fq9, npq.symm, ncq.symm, six, pa9.ext e10, off, o6', pb9.ext e10, off', o6'', st89.ext e10, au, av, st9.ext e10, au2, av2, fun H11 hp11 k11 => ⟨_, rfl, iteF ?_⟩⟩
        have T11 := hp10.tabs T10 k11
        have fq11 := k11 _ _ (e10 _ _ fq9) npq.symm ncq.symm
        have pa11 := (pa9.ext e10).keep off k11
        have pb11 := (pb9.ext e10).keep off' k11
        have st11 := (st89.ext e10).keep hp10 k11
        have st211 := (st9.ext e10).keep hp10 k11
        refine ⟨_, rfl, _, rfl, p, c, m, ma, mb, _, h', k'', ns, rfl, hp11, by omega, pb11, off', six, o6'', T11, fun H12 hp12 k12 T12 => ⟨_, rfl, iteF ?_⟩⟩
        have fq12 := k12 _ _ fq11 npq.symm ncq.symm (fun ps z => nomatch z)
        have pa12 := pa11.keepN off k12
        have st12 := st11.keepN hp11 k12
        have st212 := st211.keepN hp11 k12
        obtain ⟨dx, t1, t2, z1, z2, z3⟩ := st212.ex
        have lu2 := au2.len
        have lv2 := av2.len
        refine ⟨_, rfl, _, rfl, s2, CS, dx, _, rfl, z1, aT, s2, u2, v2, rfl, st212, _, rfl, p, c, _, u2, v2, rfl, hp12, by omega, st212.oh.nm, st212.ok.nm, by omega, by omega, fun xv d H13 tv hA hp13 k13 => ?_⟩
        have T13 := hp12.tabs T12 k13
        have fq13 := k13 _ _ fq12 npq.symm ncq.symm
        have pa13 := pa12.keep off k13
        have st13 := st12.keep hp12 k13
        refine ⟨xv, d, rfl, tv.ext vis_ext, hA, T13, fun H14 y14 T14 => ⟨_, rfl, iteF ?_⟩⟩
        exact ⟨_, _, _, rfl, (hp13.extN y14).mono (by omega), T14, y14 _ _ fq13 (fun ps z => nomatch z), pa13.keepN off (KeepN.extN y14), st13.keepN hp13 (KeepN.extN y14)⟩
      · rintro σ H7 ⟨x6, x7, x8, rfl, hp7, T7, fq7, pa7, st7⟩
        obtain ⟨dx, t1, t2, z1, z2, z3⟩ := st7.ex
        refine ⟨_, rfl, _, rfl, s, CS, dx, _, rfl, z1, aT, s, u, v, rfl, st7, _, rfl, ?_⟩
        refine ⟨s, CS, dx, _, _, rfl, z1, C.eq, .base (.str _), C.nfT, s, u, v, _, rfl, st7, .inr ⟨.type "str", .base (.str _), C.kT, _, rfl, _, rfl, iteF ?_⟩⟩
        refine ⟨_, rfl, _, rfl, s, CS, dx, _, rfl, z1, rfl, s, u, v, rfl, st7, fun ta hta => ?_⟩
        refine ⟨_, rfl, s, CS, dx, _, rfl, z1, rfl, s, u, v, rfl, st7, fun tb htb => ⟨(by show 2 ≤ sizeLine; decide), fun tp ntp => ?_⟩⟩
        have e8 := Ext.upd (o := HO.tup [V.ref ta, V.ref tb]) ntp
        have ftp := upd_same (H := H7) (a := tp) (o := HO.tup [V.ref ta, V.ref tb])
        generalize (upd H7 tp (.tup [.ref ta, .ref tb])) = H8 at e8 ftp
        refine ⟨s, CS, dx, _, _, rfl, e8 _ _ z1, C.eq, .base (.tup ftp), C.nfP, s, u, v, _, rfl, st7.ext e8, .inr ⟨.type "tuple", .base (.tup ftp), C.kP, _, rfl, _, rfl, iteF ?_⟩⟩
        refine ⟨_, rfl, _, rfl, s, l, la, lb, h, k', u, v, rfl, st7.ext e8, pa7.ext e8, au, av, n1, n2, o6'.hd, o6'.kd, l1, l2, fun H9 e9 => ⟨_, rfl, iteF ?_⟩⟩
        have hj : (Int.toNat 3) = 3 := rfl
        exact ⟨_, _, _, _, _, _, _, rfl, (hp7.ext (e8.trans e9)).mono (by omega), T7.ext (e8.trans e9)⟩
    · rintro σ H2 ⟨o2, o3, o4, o5, o6, o7, o8, rfl, hp2, T2⟩
      have tnil : textOf [] [] = ("- / -" : Str) := by decide +kernel
      intro x1 d1 nx1 nd1 ne1
      refine ⟨x1, d1, rfl, upd_same, fun H3 st3 k3 => ⟨rfl, ?_⟩⟩
      obtain ⟨dx, t1, t2, z1, z2, z3⟩ := st3.ex
      refine ⟨x1, CS, dx, _, rfl, z1, aT, x1, [], [], rfl, st3, _, rfl, rfl, ?_⟩
      rw [tnil, decide_eq_true rfl]
      refine ⟨_, rfl, iteT ?_⟩
      intro x2 d2 nx2 nd2 ne2
      refine ⟨x2, d2, rfl, upd_same, fun H4 st4 k4 => ⟨rfl, ?_⟩⟩
      have itN : IsT (.str "- / -") [] [] := ⟨okl_nil, okl_nil, by rw [tnil]⟩
      refine ⟨rfl, _, .str "- / -", .str "- / -", rfl, .str _, fun z e => by cases e; exact ⟨by decide +kernel, by decide +kernel⟩, fun h k' it x3 H5 e5 st5 => ?_, fun no => absurd itN (no _ _)⟩
      obtain ⟨r1, r2⟩ := it.uniq itN
      subst r1 r2
      have st45 := st4.ext e5
      obtain ⟨dy, t3, t4, y1, y2, y3⟩ := st45.ex
      refine ⟨x2, CS, dy, _, _, rfl, y1, C.eq, st5.tyX C, C.nfS, x2, [], [], .ref x3, rfl, st45, .inl ⟨x3, [], [], rfl, st5, _, rfl, ?_⟩⟩
      rw [decide_eq_true ⟨rfl, rfl⟩]
      exact k H5
/-! ### the ways to make a standing -/
abbrev FSt (K : PySem.W.Frag) (a b : Addr) (f : Addr) (fd : FuncData) : Prop := FunD K "__init__" "Standing.__init__" (defArgs s_Standing_init) (defBody s_Standing_init) (defScope s_Standing_init) [V.ref a, V.ref b] [] f fd
theorem st_all {a b f : Addr} {fd : FuncData} (F : FSt K a b f fd) : Binds K fd ["self", "slots", "stored"] [] := by
  obtain ⟨ds, hv, hb⟩ := F.binds1 (ps := ["self", "slots", "stored"]) 3 2 (by simp) rfl fun T kV doc pm an cdv ct us its h1 h2 => match us, its, h1, h2 with | [_, _, _], [_, _], _, _ => ⟨_, rfl, rfl⟩
  cases hv
  exact hb
theorem st_none {a b f : Addr} {fd : FuncData} (F : FSt K a b f fd) : ∃ ds, Vals [V.ref a, V.ref b] ds ∧ Binds K fd ["self", "slots", "stored"] ds :=
  F.binds1 (ps := ["self", "slots", "stored"]) 1 0 (by simp) rfl fun T kV doc pm an cdv ct us its h1 h2 => match us, its, h1, h2 with | [_], [_, _], _, _ => ⟨_, rfl, rfl⟩
theorem st_kw1 {a b f : Addr} {fd : FuncData} (F : FSt K a b f fd) : KBn K fd ["self", "slots", "stored"] 2 ["stored"] (fun us ws => us ++ ws) (fun vs zs => vs ++ zs) := by
  obtain ⟨its, hb⟩ := F.kbindsD (ps := ["self", "slots", "stored"]) 2 ["stored"] (fun us _ ws => us ++ ws) (by simp) (fun r _ s => r.append s) fun T kV doc pm an cdv ct us its ws h1 h2 h3 => match us, its, ws, h1, h2, h3 with | [_, _], [_, _], [_], _, _, _ => ⟨_, rfl, rfl⟩
  exact hb
theorem vals_rev {vs : List V} {us : List Value} (r : Vals vs us) : Vals vs.reverse us.reverse := by
  induction r with
  | nil => exact .nil
  | cons a _ ih => rw [List.reverse_cons, List.reverse_cons]; exact ih.append (.cons a .nil)
theorem st_kw2 {a b f : Addr} {fd : FuncData} (F : FSt K a b f fd) : KBn K fd ["self", "slots", "stored"] 1 ["stored", "slots"] (fun us ws => us ++ ws.reverse) (fun vs zs => vs ++ zs.reverse) := by
  obtain ⟨its, hb⟩ := F.kbindsD (ps := ["self", "slots", "stored"]) 1 ["stored", "slots"] (fun us _ ws => us ++ ws.reverse) (by simp) (fun r _ s => r.append (vals_rev s)) fun T kV doc pm an cdv ct us its ws h1 h2 h3 => match us, its, ws, h1, h2, h3 with | [_], [_, _], [_, _], _, _, _ => ⟨_, rfl, rfl⟩
  exact hb
end
end K19
end
section
set_option Elab.async false
set_option linter.all false
set_option maxRecDepth 100000
set_option maxHeartbeats 8000000
namespace K19
open PySem PySem.Spec PyProof.Rows L2 Ls
theorem all_mk {l : PySem.W.OpenLaw} {w : World} {K : PySem.W.Frag} {q : Program} {h : Heap} {mg : Str → Option Value} {fa : Addr} (X : K.In h) (G : h.Ns mainGlobals mg) (hfa : mg "law" = some (.ref fa))
    (ow : ∀ (x : Str) (fx : Addr), ((recsOf q).any fun e => e.name == x) = true → mg x = some (.ref fx) → LamX.OwnTab K fx h)
    {tL tN : Tok} {zL : Str}
    {CE : Addr}
    {CN : Addr}
    {CW : Addr}
    {CB : Addr}
    {fN_ ccN cdaN : Addr} {clN cclN : Value} {cldN cddN : Option Addr} {cslN ccsN : Array (Option Value)} {vsN : Array Value} {fileN : Str} {tfN : Tok} {cdatN : ClassData}
    {xnmN xqN : Str} {xNN : Addr} {xbsN xbmN xsubN : List Value} {xsnN : List Str} {xabN : Bool} {xcolN : Option Bool} {xddN : Option Addr} {xaN xbN xcN xdN xeN : Option Value}
    {odIN anIN : Option Addr} {slIN : Array (Option Value)} {ocIN kVIN dcIN pmIN ctIN : Value}
    {fW_ ccW cdaW : Addr} {clW cclW : Value} {cldW cddW : Option Addr} {cslW ccsW : Array (Option Value)} {vsW : Array Value} {fileW : Str} {tfW : Tok} {cdatW : ClassData}
    {xnmW xqW : Str} {xNW : Addr} {xbsW xbmW xsubW : List Value} {xsnW : List Str} {xabW : Bool} {xcolW : Option Bool} {xddW : Option Addr} {xaW xbW xcW xdW xeW : Option Value}
    {odIW anIW : Option Addr} {slIW : Array (Option Value)} {ocIW kVIW dcIW pmIW ctIW : Value}
    {fB_ ccB cdaB : Addr} {clB cclB : Value} {cldB cddB : Option Addr} {cslB ccsB : Array (Option Value)} {vsB : Array Value} {fileB : Str} {tfB : Tok} {cdatB : ClassData}
    {xnmB xqB : Str} {xNB : Addr} {xbsB xbmB xsubB : List Value} {xsnB : List Str} {xabB : Bool} {xcolB : Option Bool} {xddB : Option Addr} {xaB xbB xcB xdB xeB : Option Value}
    {odIB anIB : Option Addr} {slIB : Array (Option Value)} {ocIB kVIB dcIB pmIB ctIB : Value}
    {CS fS_ : Addr}
    {odSI anSI : Option Addr} {slSI : Array (Option Value)} {ocSI kVSI dcSI pmSI ctSI : Value}
    {cdSI : Value}
    {DT aD1 aD2 : Addr} {cT_ : Value} {dT_ dD1 dD2 : Option Addr} {nT_ nD1 nD2 : Nat} {slT_ slD1 slD2 : Array (Option Value)}
    {fmE : Addr}
    {odmE anmE : Option Addr} {slmE : Array (Option Value)} {ocmE kVmE dcmE pmmE ctmE : Value}
    {cdmE : Value}
    {fmT : Addr}
    {odmT anmT : Option Addr} {slmT : Array (Option Value)} {ocmT kVmT dcmT pmmT ctmT : Value}
    {cdmT : Value}
    {fmL : Addr}
    {odmL anmL : Option Addr} {slmL : Array (Option Value)} {ocmL kVmL dcmL pmmL ctmL : Value}
    {cdmL : Value}
    {fmG : Addr}
    {odmG anmG : Option Addr} {slmG : Array (Option Value)} {ocmG kVmG dcmG pmmG ctmG : Value}
    {cdmG : Value}
    {fmO : Addr}
    {odmO anmO : Option Addr} {slmO : Array (Option Value)} {ocmO kVmO dcmO pmmO ctmO : Value}
    {cdmO : Value}
    {fmH : Addr}
    {odmH anmH : Option Addr} {slmH : Array (Option Value)} {ocmH kVmH dcmH pmmH ctmH : Value}
    {cdmH : Value}
    {fmI : Addr}
    {odmI anmI : Option Addr} {slmI : Array (Option Value)} {ocmI kVmI dcmI pmmI ctmI : Value}
    {cdmI : Value}
    {fmY : Addr}
    {odmY anmY : Option Addr} {slmY : Array (Option Value)} {ocmY kVmY dcmY pmmY ctmY : Value}
    {cdmY : Value}
    {p_slots g_slots : Addr} {rest_slots : List Value}
    {odPslots anPslots : Option Addr} {slPslots : Array (Option Value)} {ocPslots kVPslots dcPslots pmPslots ctPslots : Value}
    {cdPslots : Value}
    {p_stored g_stored : Addr} {rest_stored : List Value}
    {odPstored anPstored : Option Addr} {slPstored : Array (Option Value)} {ocPstored kVPstored dcPstored pmPstored ctPstored : Value}
    {cdPstored : Value}
    {p_names g_names : Addr} {rest_names : List Value}
    {odPnames anPnames : Option Addr} {slPnames : Array (Option Value)} {ocPnames kVPnames dcPnames pmPnames ctPnames : Value}
    {cdPnames : Value}
    {fR pR : Addr} {mcV : Value} {restR : List Value}
    {odR anR : Option Addr} {slR : Array (Option Value)} {ocR kVR dcR pmR ctR : Value}
    {cdR : Value}
    {f_is_name : Addr}
    {od_is_name an_is_name : Option Addr} {sl_is_name : Array (Option Value)} {oc_is_name kV_is_name dc_is_name pm_is_name ct_is_name : Value}
    {cd_is_name : Value}
    {f_ascending : Addr}
    {od_ascending an_ascending : Option Addr} {sl_ascending : Array (Option Value)} {oc_ascending kV_ascending dc_ascending pm_ascending ct_ascending : Value}
    {cd_ascending : Value}
    {f_part_text : Addr}
    {od_part_text an_part_text : Option Addr} {sl_part_text : Array (Option Value)} {oc_part_text kV_part_text dc_part_text pm_part_text ct_part_text : Value}
    {cd_part_text : Value}
    {f_text_of : Addr}
    {od_text_of an_text_of : Option Addr} {sl_text_of : Array (Option Value)} {oc_text_of kV_text_of dc_text_of pm_text_of ct_text_of : Value}
    {cd_text_of : Value}
    {f_part_names : Addr}
    {od_part_names an_part_names : Option Addr} {sl_part_names : Array (Option Value)} {oc_part_names kV_part_names dc_part_names pm_part_names ct_part_names : Value}
    {cd_part_names : Value}
    {f_need_all_names : Addr}
    {od_need_all_names an_need_all_names : Option Addr} {sl_need_all_names : Array (Option Value)} {oc_need_all_names kV_need_all_names dc_need_all_names pm_need_all_names ct_need_all_names : Value}
    {cd_need_all_names : Value}
    {f_need_unlike : Addr}
    {od_need_unlike an_need_unlike : Option Addr} {sl_need_unlike : Array (Option Value)} {oc_need_unlike kV_need_unlike dc_need_unlike pm_need_unlike ct_need_unlike : Value}
    {cd_need_unlike : Value}
    {f__law_pen : Addr}
    {od__law_pen an__law_pen : Option Addr} {sl__law_pen : Array (Option Value)} {oc__law_pen kV__law_pen dc__law_pen pm__law_pen ct__law_pen : Value}
    {cd__law_pen : Value}
    {f__law_draw : Addr}
    {od__law_draw an__law_draw : Option Addr} {sl__law_draw : Array (Option Value)} {oc__law_draw kV__law_draw dc__law_draw pm__law_draw ct__law_draw : Value}
    {cd__law_draw : Value}
    {f__law_pick : Addr}
    {od__law_pick an__law_pick : Option Addr} {sl__law_pick : Array (Option Value)} {oc__law_pick kV__law_pick dc__law_pick pm__law_pick ct__law_pick : Value}
    {cd__law_pick : Value}
    {f__law_heard : Addr}
    {od__law_heard an__law_heard : Option Addr} {sl__law_heard : Array (Option Value)} {oc__law_heard kV__law_heard dc__law_heard pm__law_heard ct__law_heard : Value}
    {cd__law_heard : Value}
    {f__law_mixed : Addr}
    {od__law_mixed an__law_mixed : Option Addr} {sl__law_mixed : Array (Option Value)} {oc__law_mixed kV__law_mixed dc__law_mixed pm__law_mixed ct__law_mixed : Value}
    {cd__law_mixed : Value}
    {f__law_names : Addr}
    {od__law_names an__law_names : Option Addr} {sl__law_names : Array (Option Value)} {oc__law_names kV__law_names dc__law_names pm__law_names ct__law_names : Value}
    {cd__law_names : Value}
    {f__law_drawn : Addr}
    {od__law_drawn an__law_drawn : Option Addr} {sl__law_drawn : Array (Option Value)} {oc__law_drawn kV__law_drawn dc__law_drawn pm__law_drawn ct__law_drawn : Value}
    {cd__law_drawn : Value}
    {f__law_near : Addr}
    {od__law_near an__law_near : Option Addr} {sl__law_near : Array (Option Value)} {oc__law_near kV__law_near dc__law_near pm__law_near ct__law_near : Value}
    {cd__law_near : Value}
    {f__law_made : Addr}
    {od__law_made an__law_made : Option Addr} {sl__law_made : Array (Option Value)} {oc__law_made kV__law_made dc__law_made pm__law_made ct__law_made : Value}
    {cd__law_made : Value}
    {f__law_word : Addr}
    {od__law_word an__law_word : Option Addr} {sl__law_word : Array (Option Value)} {oc__law_word kV__law_word dc__law_word pm__law_word ct__law_word : Value}
    {cd__law_word : Value}
    {f__law_text : Addr}
    {od__law_text an__law_text : Option Addr} {sl__law_text : Array (Option Value)} {oc__law_text kV__law_text dc__law_text pm__law_text ct__law_text : Value}
    {cd__law_text : Value}
    {f__law_told_right : Addr}
    {od__law_told_right an__law_told_right : Option Addr} {sl__law_told_right : Array (Option Value)} {oc__law_told_right kV__law_told_right dc__law_told_right pm__law_told_right ct__law_told_right : Value}
    {cd__law_told_right : Value}
    {f__law_is_under : Addr}
    {od__law_is_under an__law_is_under : Option Addr} {sl__law_is_under : Array (Option Value)} {oc__law_is_under kV__law_is_under dc__law_is_under pm__law_is_under ct__law_is_under : Value}
    {cd__law_is_under : Value}
    {f__law_beside_right : Addr}
    {od__law_beside_right an__law_beside_right : Option Addr} {sl__law_beside_right : Array (Option Value)} {oc__law_beside_right kV__law_beside_right dc__law_beside_right pm__law_beside_right ct__law_beside_right : Value}
    {cd__law_beside_right : Value}
    {f__law_refused_right : Addr}
    {q1 P1 : Addr} {qd1 : Option Addr} {qv1 : Array Value} {qs1 : Array (Option Value)} {qf1 : Str} {qt1 qg1 qh1 : Tok} {qi1 qj1 : Int} {qb1 : Bool}
    {od__law_refused_right an__law_refused_right : Option Addr} {sl__law_refused_right : Array (Option Value)} {oc__law_refused_right kV__law_refused_right dc__law_refused_right pm__law_refused_right ct__law_refused_right : Value}
    {f__law_bent : Addr}
    {od__law_bent an__law_bent : Option Addr} {sl__law_bent : Array (Option Value)} {oc__law_bent kV__law_bent dc__law_bent pm__law_bent ct__law_bent : Value}
    {cd__law_bent : Value}
    {f__law_is_part : Addr}
    {od__law_is_part an__law_is_part : Option Addr} {sl__law_is_part : Array (Option Value)} {oc__law_is_part kV__law_is_part dc__law_is_part pm__law_is_part ct__law_is_part : Value}
    {cd__law_is_part : Value}
    {f__law_read_right : Addr}
    {q2 P2 : Addr} {qd2 : Option Addr} {qv2 : Array Value} {qs2 : Array (Option Value)} {qf2 : Str} {qt2 qg2 qh2 : Tok} {qi2 qj2 : Int} {qb2 : Bool}
    {od__law_read_right an__law_read_right : Option Addr} {sl__law_read_right : Array (Option Value)} {oc__law_read_right kV__law_read_right dc__law_read_right pm__law_read_right ct__law_read_right : Value}
    {f_law : Addr}
    {od_law an_law : Option Addr} {sl_law : Array (Option Value)} {oc_law kV_law dc_law pm_law ct_law : Value}
    {cd_law : Value}
    (b0 : PySem.W.nsIn K mainGlobals "len" = some none)
    (b1 : PySem.W.nsIn K mainGlobals "int" = some none)
    (b2 : PySem.W.nsIn K mainGlobals "abs" = some none)
    (b3 : PySem.W.nsIn K mainGlobals "list" = some none)
    (b4 : PySem.W.nsIn K mainGlobals "str" = some none)
    (b5 : PySem.W.nsIn K mainGlobals "isinstance" = some none)
    (b6 : PySem.W.nsIn K mainGlobals "all" = some none)
    (b7 : PySem.W.nsIn K mainGlobals "range" = some none)
    (b8 : PySem.W.nsIn K mainGlobals "tuple" = some none)
    (b9 : PySem.W.nsIn K mainGlobals "super" = some none)
    (b10 : PySem.W.nsIn K mainGlobals "repr" = some none)
    (b11 : PySem.W.nsIn K mainGlobals "set" = some none)
    (b12 : PySem.W.nsIn K mainGlobals "sorted" = some none)
    (b13 : PySem.W.nsIn K mainGlobals "enumerate" = some none)
    (b14 : PySem.W.nsIn K mainGlobals "ValueError" = some none)
    (gL : PySem.W.nsIn K mainGlobals "LETTERS" = some (some (.str zL tL)))
    (eL : zL = lettersS)
    (gN : PySem.W.nsIn K mainGlobals "LONGEST_NAME" = some (some (.int 6 tN)))
    (hn : PySem.W.specialIn K (.builtin "object.__class__") "__get__" = some (some (.builtin "getset_descriptor.__get__")))
    (htk : PySem.W.takesIn K (.builtin "object.__class__") = some true)
    (any_ : PySem.W.nsIn K cStatics "thirdparty.any" = some none)
    (top_ : (l.prog.main.scope.names.lookup ("super" : Str)).isSome = false)
    (gCE : PySem.W.nsIn K mainGlobals "StowError" = some (some (.ref CE)))
    (eE1 : PySem.W.subIn K (.ref CE) (.type "BaseException") = some true)
    (eE2 : PySem.W.hasDictIn K CE = true)
    (eE3 : PySem.W.typeIn K (.ref CE) = some (.type "type"))
    (gN_ : PySem.W.nsIn K mainGlobals "BadName" = some (some (.ref CN)))
    (xoN : K.lookup CN = some (excClassObj xnmN xqN CN xNN xbsN xbmN true xsnN xsubN xabN xcolN xddN xaN xbN xcN xdN xeN "ValueError.__new__"))
    (xrN : PySem.HandSPX.refsVE xbmN = true)
    (saN : PySem.W.findIn K (.ref CN) "__setattr__" = some (some (.builtin "object.__setattr__")))
    (beN : PySem.W.subIn K (.ref CN) (.type "BaseException") = some true)
    (tyN : PySem.W.typeIn K (.ref CN) = some (.type "type"))
    (kpN : PySem.W.keepIn K (.ref CN) = true)
    (inN : PySem.W.findIn K (.ref CN) "__init__" = some (some (.ref fN_)))
    (tf_N : PySem.W.typeIn K (.ref fN_) = some (.type "function"))
    (lIN : K.lookup fN_ = some ⟨ocIN, odIN, .func (PySem.W.ksFn "__init__" "BadName.__init__" (defArgs s_BadName_init) (defBody s_BadName_init) (defScope s_BadName_init) .none kVIN dcIN pmIN anIN (.ref cdaN) ctIN ccN), slIN⟩)
    (cIN : PySem.W.codeIn K (.ref cdaN) "BadName.__init__" = true)
    (kIN : PySem.W.keepIn K (.ref fN_) = true)
    (ceN : K.lookup ccN = some ⟨clN, cldN, .cell (some (.ref CN)), cslN⟩)
    (coN : K.lookup cdaN = some ⟨cclN, cddN, .fields vsN, ccsN⟩)
    (v2N : vsN[2]? = some (.str fileN tfN))
    (flN : ((l.prog.main.file : Str) == fileN) = true)
    (cd_N : PySem.W.clsIn K CN = some cdatN)
    (sbN : PySem.W.mroIn K CN (.ref CN) = some true)
    (svN : PySem.W.mroIn K CN (.type "ValueError") = some true)
    (fd_N : PySem.W.ks_superIn K CN CN "__init__" = some (some (.builtin "ValueError.__init__")))
    (noN_value : PySem.W.findIn K (.ref CN) "value" = some none)
    (suN : PySem.W.subIn K (.ref CN) (.ref CE) = some true)
    (xgN : PySem.W.findIn K (.ref CN) "__getattribute__" = some (some (.builtin "BaseException.__getattribute__")))
    (xkN : PySem.W.findIn K (.ref CN) "__getattr__" = some none)
    (hdN : PySem.W.hasDictIn K CN = true)
    (haN : PySem.W.findIn K (.ref CN) "__class__" = some (some (.builtin "object.__class__")))
    (hmN : PySem.W.mroIn K CN (.type "object") = some true)
    (gW_ : PySem.W.nsIn K mainGlobals "Twice" = some (some (.ref CW)))
    (xoW : K.lookup CW = some (excClassObj xnmW xqW CW xNW xbsW xbmW true xsnW xsubW xabW xcolW xddW xaW xbW xcW xdW xeW "ValueError.__new__"))
    (xrW : PySem.HandSPX.refsVE xbmW = true)
    (saW : PySem.W.findIn K (.ref CW) "__setattr__" = some (some (.builtin "object.__setattr__")))
    (beW : PySem.W.subIn K (.ref CW) (.type "BaseException") = some true)
    (tyW : PySem.W.typeIn K (.ref CW) = some (.type "type"))
    (kpW : PySem.W.keepIn K (.ref CW) = true)
    (inW : PySem.W.findIn K (.ref CW) "__init__" = some (some (.ref fW_)))
    (tf_W : PySem.W.typeIn K (.ref fW_) = some (.type "function"))
    (lIW : K.lookup fW_ = some ⟨ocIW, odIW, .func (PySem.W.ksFn "__init__" "Twice.__init__" (defArgs s_Twice_init) (defBody s_Twice_init) (defScope s_Twice_init) .none kVIW dcIW pmIW anIW (.ref cdaW) ctIW ccW), slIW⟩)
    (cIW : PySem.W.codeIn K (.ref cdaW) "Twice.__init__" = true)
    (kIW : PySem.W.keepIn K (.ref fW_) = true)
    (ceW : K.lookup ccW = some ⟨clW, cldW, .cell (some (.ref CW)), cslW⟩)
    (coW : K.lookup cdaW = some ⟨cclW, cddW, .fields vsW, ccsW⟩)
    (v2W : vsW[2]? = some (.str fileW tfW))
    (flW : ((l.prog.main.file : Str) == fileW) = true)
    (cd_W : PySem.W.clsIn K CW = some cdatW)
    (sbW : PySem.W.mroIn K CW (.ref CW) = some true)
    (svW : PySem.W.mroIn K CW (.type "ValueError") = some true)
    (fd_W : PySem.W.ks_superIn K CW CW "__init__" = some (some (.builtin "ValueError.__init__")))
    (noW_name : PySem.W.findIn K (.ref CW) "name" = some none)
    (suW : PySem.W.subIn K (.ref CW) (.ref CE) = some true)
    (xgW : PySem.W.findIn K (.ref CW) "__getattribute__" = some (some (.builtin "BaseException.__getattribute__")))
    (xkW : PySem.W.findIn K (.ref CW) "__getattr__" = some none)
    (hdW : PySem.W.hasDictIn K CW = true)
    (haW : PySem.W.findIn K (.ref CW) "__class__" = some (some (.builtin "object.__class__")))
    (hmW : PySem.W.mroIn K CW (.type "object") = some true)
    (gB_ : PySem.W.nsIn K mainGlobals "BadStanding" = some (some (.ref CB)))
    (xoB : K.lookup CB = some (excClassObj xnmB xqB CB xNB xbsB xbmB true xsnB xsubB xabB xcolB xddB xaB xbB xcB xdB xeB "ValueError.__new__"))
    (xrB : PySem.HandSPX.refsVE xbmB = true)
    (saB : PySem.W.findIn K (.ref CB) "__setattr__" = some (some (.builtin "object.__setattr__")))
    (beB : PySem.W.subIn K (.ref CB) (.type "BaseException") = some true)
    (tyB : PySem.W.typeIn K (.ref CB) = some (.type "type"))
    (kpB : PySem.W.keepIn K (.ref CB) = true)
    (inB : PySem.W.findIn K (.ref CB) "__init__" = some (some (.ref fB_)))
    (tf_B : PySem.W.typeIn K (.ref fB_) = some (.type "function"))
    (lIB : K.lookup fB_ = some ⟨ocIB, odIB, .func (PySem.W.ksFn "__init__" "BadStanding.__init__" (defArgs s_BadStanding_init) (defBody s_BadStanding_init) (defScope s_BadStanding_init) .none kVIB dcIB pmIB anIB (.ref cdaB) ctIB ccB), slIB⟩)
    (cIB : PySem.W.codeIn K (.ref cdaB) "BadStanding.__init__" = true)
    (kIB : PySem.W.keepIn K (.ref fB_) = true)
    (ceB : K.lookup ccB = some ⟨clB, cldB, .cell (some (.ref CB)), cslB⟩)
    (coB : K.lookup cdaB = some ⟨cclB, cddB, .fields vsB, ccsB⟩)
    (v2B : vsB[2]? = some (.str fileB tfB))
    (flB : ((l.prog.main.file : Str) == fileB) = true)
    (cd_B : PySem.W.clsIn K CB = some cdatB)
    (sbB : PySem.W.mroIn K CB (.ref CB) = some true)
    (svB : PySem.W.mroIn K CB (.type "ValueError") = some true)
    (fd_B : PySem.W.ks_superIn K CB CB "__init__" = some (some (.builtin "ValueError.__init__")))
    (noB_value : PySem.W.findIn K (.ref CB) "value" = some none)
    (suB : PySem.W.subIn K (.ref CB) (.ref CE) = some true)
    (xgB : PySem.W.findIn K (.ref CB) "__getattribute__" = some (some (.builtin "BaseException.__getattribute__")))
    (xkB : PySem.W.findIn K (.ref CB) "__getattr__" = some none)
    (hdB : PySem.W.hasDictIn K CB = true)
    (haB : PySem.W.findIn K (.ref CB) "__class__" = some (some (.builtin "object.__class__")))
    (hmB : PySem.W.mroIn K CB (.type "object") = some true)
    (kvN : PySem.W.kitOne K (.ref CN) (.type "ValueError") = some true)
    (kNN_ : PySem.W.kitOne K (.ref CN) (.ref CN) = some true)
    (kNW_ : PySem.W.kitOne K (.ref CN) (.ref CW) = some false)
    (kNB_ : PySem.W.kitOne K (.ref CN) (.ref CB) = some false)
    (kvW : PySem.W.kitOne K (.ref CW) (.type "ValueError") = some true)
    (kWN_ : PySem.W.kitOne K (.ref CW) (.ref CN) = some false)
    (kWW_ : PySem.W.kitOne K (.ref CW) (.ref CW) = some true)
    (kWB_ : PySem.W.kitOne K (.ref CW) (.ref CB) = some false)
    (kvB : PySem.W.kitOne K (.ref CB) (.type "ValueError") = some true)
    (kBN_ : PySem.W.kitOne K (.ref CB) (.ref CN) = some false)
    (kBW_ : PySem.W.kitOne K (.ref CB) (.ref CW) = some false)
    (kBB_ : PySem.W.kitOne K (.ref CB) (.ref CB) = some true)
    (gS_ : PySem.W.nsIn K mainGlobals "Standing" = some (some (.ref CS)))
    (pgS : PySem.W.plainGet K CS Str.empty = true)
    (hdS : PySem.W.hasDictIn K CS = true)
    (poS : PySem.W.plainOver K CS = true)
    (saS : PySem.W.findIn K (.ref CS) "__setattr__" = some (some (.builtin "object.__setattr__")))
    (nS_held : PySem.W.findIn K (.ref CS) "held" = some none)
    (nS_kept : PySem.W.findIn K (.ref CS) "kept" = some none)
    (haS : PySem.W.findIn K (.ref CS) "__class__" = some (some (.builtin "object.__class__")))
    (hmS : PySem.W.mroIn K CS (.type "object") = some true)
    (mkS : PySem.W.makesIn K CS = true)
    (inS : PySem.W.findIn K (.ref CS) "__init__" = some (some (.ref fS_)))
    (fnS : PySem.W.isFn K (.ref fS_) = true)
    (kpS : PySem.W.keepIn K (.ref CS) = true)
    (lSI : K.lookup fS_ = some ⟨ocSI, odSI, .func (PySem.W.fnOf "__init__" "Standing.__init__" (defArgs s_Standing_init) (defBody s_Standing_init) (defScope s_Standing_init) (.ref DT) kVSI dcSI pmSI anSI cdSI ctSI), slSI⟩)
    (cSI : PySem.W.codeIn K cdSI "Standing.__init__" = true)
    (kSI : PySem.W.keepIn K (.ref fS_) = true)
    (lDT : K.lookup DT = some ⟨cT_, dT_, .seq #[.ref aD1, .ref aD2] nT_, slT_⟩)
    (lD1 : K.lookup aD1 = some ⟨.type "tuple", dD1, .seq #[] nD1, slD1⟩)
    (lD2 : K.lookup aD2 = some ⟨.type "tuple", dD2, .seq #[] nD2, slD2⟩)
    (kSS : PySem.W.kitOne K (.ref CS) (.ref CS) = some true)
    (kST : PySem.W.kitOne K (.type "str") (.ref CS) = some false)
    (kSP : PySem.W.kitOne K (.type "tuple") (.ref CS) = some false)
    (neS : PySem.W.findIn K (.ref CS) "__ne__" = some (some (.builtin "object.__ne__")))
    (nfS : PySem.W.notFirst K CS (.ref CS) = true)
    (nfT : PySem.W.notFirst K CS (.type "str") = true)
    (nfP : PySem.W.notFirst K CS (.type "tuple") = true)
    (sfS : PySem.W.selfFirst K CS = true)
    (amE : PySem.W.findIn K (.ref CS) "__eq__" = some (some (.ref fmE)))
    (imE : PySem.W.isFn K (.ref fmE) = true)
    (lmE : K.lookup fmE = some ⟨ocmE, odmE, .func (PySem.W.fnOf "__eq__" "Standing.__eq__" (defArgs s_Standing_eq) (defBody s_Standing_eq) (defScope s_Standing_eq) .none kVmE dcmE pmmE anmE cdmE ctmE), slmE⟩)
    (cmE : PySem.W.codeIn K cdmE "Standing.__eq__" = true)
    (kmE : PySem.W.keepIn K (.ref fmE) = true)
    (amT : PySem.W.findIn K (.ref CS) "__str__" = some (some (.ref fmT)))
    (imT : PySem.W.isFn K (.ref fmT) = true)
    (lmT : K.lookup fmT = some ⟨ocmT, odmT, .func (PySem.W.fnOf "__str__" "Standing.__str__" (defArgs s_Standing_str) (defBody s_Standing_str) (defScope s_Standing_str) .none kVmT dcmT pmmT anmT cdmT ctmT), slmT⟩)
    (cmT : PySem.W.codeIn K cdmT "Standing.__str__" = true)
    (kmT : PySem.W.keepIn K (.ref fmT) = true)
    (amL : PySem.W.findIn K (.ref CS) "__le__" = some (some (.ref fmL)))
    (imL : PySem.W.isFn K (.ref fmL) = true)
    (lmL : K.lookup fmL = some ⟨ocmL, odmL, .func (PySem.W.fnOf "__le__" "Standing.__le__" (defArgs s_Standing_le) (defBody s_Standing_le) (defScope s_Standing_le) .none kVmL dcmL pmmL anmL cdmL ctmL), slmL⟩)
    (cmL : PySem.W.codeIn K cdmL "Standing.__le__" = true)
    (kmL : PySem.W.keepIn K (.ref fmL) = true)
    (amG : PySem.W.findIn K (.ref CS) "__ge__" = some (some (.ref fmG)))
    (imG : PySem.W.isFn K (.ref fmG) = true)
    (lmG : K.lookup fmG = some ⟨ocmG, odmG, .func (PySem.W.fnOf "__ge__" "Standing.__ge__" (defArgs s_Standing_ge) (defBody s_Standing_ge) (defScope s_Standing_ge) .none kVmG dcmG pmmG anmG cdmG ctmG), slmG⟩)
    (cmG : PySem.W.codeIn K cdmG "Standing.__ge__" = true)
    (kmG : PySem.W.keepIn K (.ref fmG) = true)
    (amO : PySem.W.findIn K (.ref CS) "__or__" = some (some (.ref fmO)))
    (imO : PySem.W.isFn K (.ref fmO) = true)
    (lmO : K.lookup fmO = some ⟨ocmO, odmO, .func (PySem.W.fnOf "__or__" "Standing.__or__" (defArgs s_Standing_or) (defBody s_Standing_or) (defScope s_Standing_or) .none kVmO dcmO pmmO anmO cdmO ctmO), slmO⟩)
    (cmO : PySem.W.codeIn K cdmO "Standing.__or__" = true)
    (kmO : PySem.W.keepIn K (.ref fmO) = true)
    (amH : PySem.W.findIn K (.ref CS) "__contains__" = some (some (.ref fmH)))
    (imH : PySem.W.isFn K (.ref fmH) = true)
    (lmH : K.lookup fmH = some ⟨ocmH, odmH, .func (PySem.W.fnOf "__contains__" "Standing.__contains__" (defArgs s_Standing_contains) (defBody s_Standing_contains) (defScope s_Standing_contains) .none kVmH dcmH pmmH anmH cdmH ctmH), slmH⟩)
    (cmH : PySem.W.codeIn K cdmH "Standing.__contains__" = true)
    (kmH : PySem.W.keepIn K (.ref fmH) = true)
    (amI : PySem.W.findIn K (.ref CS) "is_within" = some (some (.ref fmI)))
    (imI : PySem.W.isFn K (.ref fmI) = true)
    (lmI : K.lookup fmI = some ⟨ocmI, odmI, .func (PySem.W.fnOf "is_within" "Standing.is_within" (defArgs s_Standing_is_within) (defBody s_Standing_is_within) (defScope s_Standing_is_within) .none kVmI dcmI pmmI anmI cdmI ctmI), slmI⟩)
    (cmI : PySem.W.codeIn K cdmI "Standing.is_within" = true)
    (kmI : PySem.W.keepIn K (.ref fmI) = true)
    (amY : PySem.W.findIn K (.ref CS) "only" = some (some (.ref fmY)))
    (imY : PySem.W.isFn K (.ref fmY) = true)
    (lmY : K.lookup fmY = some ⟨ocmY, odmY, .func (PySem.W.fnOf "only" "Standing.only" (defArgs s_Standing_only) (defBody s_Standing_only) (defScope s_Standing_only) .none kVmY dcmY pmmY anmY cdmY ctmY), slmY⟩)
    (cmY : PySem.W.codeIn K cdmY "Standing.only" = true)
    (kmY : PySem.W.keepIn K (.ref fmY) = true)
    (tmO : PySem.W.findIn K (.ref CS) "__ror__" = some none)
    (pa_slots : PySem.W.findIn K (.ref CS) "slots" = some (some (.ref p_slots)))
    (pg_slots : PySem.W.specialIn K (.ref p_slots) "__get__" = some (some (.builtin "property.__get__")))
    (pt_slots : PySem.W.takesIn K (.ref p_slots) = some true)
    (pr_slots : PySem.W.recIn K p_slots "property" = some (.ref g_slots :: rest_slots))
    (lPslots : K.lookup g_slots = some ⟨ocPslots, odPslots, .func (PySem.W.fnOf "slots" "Standing.slots" (defArgs s_Standing_slots) (defBody s_Standing_slots) (defScope s_Standing_slots) .none kVPslots dcPslots pmPslots anPslots cdPslots ctPslots), slPslots⟩)
    (cPslots : PySem.W.codeIn K cdPslots "Standing.slots" = true)
    (kPslots : PySem.W.keepIn K (.ref g_slots) = true)
    (pa_stored : PySem.W.findIn K (.ref CS) "stored" = some (some (.ref p_stored)))
    (pg_stored : PySem.W.specialIn K (.ref p_stored) "__get__" = some (some (.builtin "property.__get__")))
    (pt_stored : PySem.W.takesIn K (.ref p_stored) = some true)
    (pr_stored : PySem.W.recIn K p_stored "property" = some (.ref g_stored :: rest_stored))
    (lPstored : K.lookup g_stored = some ⟨ocPstored, odPstored, .func (PySem.W.fnOf "stored" "Standing.stored" (defArgs s_Standing_stored) (defBody s_Standing_stored) (defScope s_Standing_stored) .none kVPstored dcPstored pmPstored anPstored cdPstored ctPstored), slPstored⟩)
    (cPstored : PySem.W.codeIn K cdPstored "Standing.stored" = true)
    (kPstored : PySem.W.keepIn K (.ref g_stored) = true)
    (pa_names : PySem.W.findIn K (.ref CS) "names" = some (some (.ref p_names)))
    (pg_names : PySem.W.specialIn K (.ref p_names) "__get__" = some (some (.builtin "property.__get__")))
    (pt_names : PySem.W.takesIn K (.ref p_names) = some true)
    (pr_names : PySem.W.recIn K p_names "property" = some (.ref g_names :: rest_names))
    (lPnames : K.lookup g_names = some ⟨ocPnames, odPnames, .func (PySem.W.fnOf "names" "Standing.names" (defArgs s_Standing_names) (defBody s_Standing_names) (defScope s_Standing_names) .none kVPnames dcPnames pmPnames anPnames cdPnames ctPnames), slPnames⟩)
    (cPnames : PySem.W.codeIn K cdPnames "Standing.names" = true)
    (kPnames : PySem.W.keepIn K (.ref g_names) = true)
    (tyS : PySem.W.typeIn K (.ref CS) = some mcV)
    (rdS : PySem.W.readsIn K CS mcV = true)
    (gaS : PySem.W.specialIn K (.ref CS) "__getattribute__" = some (some (.builtin "type.__getattribute__")))
    (atR : PySem.W.findCls K (.ref CS) mcV "read" = some (.get (.builtin "classmethod.__get__") (.ref pR) .none (.ref CS)))
    (rcR : PySem.W.recIn K pR "classmethod" = some (.ref fR :: restR))
    (fiR : PySem.W.fnIn K fR = true)
    (lR : K.lookup fR = some ⟨ocR, odR, .func (PySem.W.fnOf "read" "Standing.read" (defArgs s_Standing_read) (defBody s_Standing_read) (defScope s_Standing_read) .none kVR dcR pmR anR cdR ctR), slR⟩)
    (cR : PySem.W.codeIn K cdR "Standing.read" = true)
    (kR : PySem.W.keepIn K (.ref fR) = true)
    (a_is_name : PySem.W.nsIn K mainGlobals "is_name" = some (some (.ref f_is_name)))
    (l_is_name : K.lookup f_is_name = some ⟨oc_is_name, od_is_name, .func (PySem.W.fnOf "is_name" "is_name" (defArgs s_is_name) (defBody s_is_name) (defScope s_is_name) .none kV_is_name dc_is_name pm_is_name an_is_name cd_is_name ct_is_name), sl_is_name⟩)
    (c_is_name : PySem.W.codeIn K cd_is_name "is_name" = true)
    (k_is_name : PySem.W.keepIn K (.ref f_is_name) = true)
    (a_ascending : PySem.W.nsIn K mainGlobals "ascending" = some (some (.ref f_ascending)))
    (l_ascending : K.lookup f_ascending = some ⟨oc_ascending, od_ascending, .func (PySem.W.fnOf "ascending" "ascending" (defArgs s_ascending) (defBody s_ascending) (defScope s_ascending) .none kV_ascending dc_ascending pm_ascending an_ascending cd_ascending ct_ascending), sl_ascending⟩)
    (c_ascending : PySem.W.codeIn K cd_ascending "ascending" = true)
    (k_ascending : PySem.W.keepIn K (.ref f_ascending) = true)
    (a_part_text : PySem.W.nsIn K mainGlobals "part_text" = some (some (.ref f_part_text)))
    (l_part_text : K.lookup f_part_text = some ⟨oc_part_text, od_part_text, .func (PySem.W.fnOf "part_text" "part_text" (defArgs s_part_text) (defBody s_part_text) (defScope s_part_text) .none kV_part_text dc_part_text pm_part_text an_part_text cd_part_text ct_part_text), sl_part_text⟩)
    (c_part_text : PySem.W.codeIn K cd_part_text "part_text" = true)
    (k_part_text : PySem.W.keepIn K (.ref f_part_text) = true)
    (a_text_of : PySem.W.nsIn K mainGlobals "text_of" = some (some (.ref f_text_of)))
    (l_text_of : K.lookup f_text_of = some ⟨oc_text_of, od_text_of, .func (PySem.W.fnOf "text_of" "text_of" (defArgs s_text_of) (defBody s_text_of) (defScope s_text_of) .none kV_text_of dc_text_of pm_text_of an_text_of cd_text_of ct_text_of), sl_text_of⟩)
    (c_text_of : PySem.W.codeIn K cd_text_of "text_of" = true)
    (k_text_of : PySem.W.keepIn K (.ref f_text_of) = true)
    (a_part_names : PySem.W.nsIn K mainGlobals "part_names" = some (some (.ref f_part_names)))
    (l_part_names : K.lookup f_part_names = some ⟨oc_part_names, od_part_names, .func (PySem.W.fnOf "part_names" "part_names" (defArgs s_part_names) (defBody s_part_names) (defScope s_part_names) .none kV_part_names dc_part_names pm_part_names an_part_names cd_part_names ct_part_names), sl_part_names⟩)
    (c_part_names : PySem.W.codeIn K cd_part_names "part_names" = true)
    (k_part_names : PySem.W.keepIn K (.ref f_part_names) = true)
    (a_need_all_names : PySem.W.nsIn K mainGlobals "need_all_names" = some (some (.ref f_need_all_names)))
    (l_need_all_names : K.lookup f_need_all_names = some ⟨oc_need_all_names, od_need_all_names, .func (PySem.W.fnOf "need_all_names" "need_all_names" (defArgs s_need_all_names) (defBody s_need_all_names) (defScope s_need_all_names) .none kV_need_all_names dc_need_all_names pm_need_all_names an_need_all_names cd_need_all_names ct_need_all_names), sl_need_all_names⟩)
    (c_need_all_names : PySem.W.codeIn K cd_need_all_names "need_all_names" = true)
    (k_need_all_names : PySem.W.keepIn K (.ref f_need_all_names) = true)
    (a_need_unlike : PySem.W.nsIn K mainGlobals "need_unlike" = some (some (.ref f_need_unlike)))
    (l_need_unlike : K.lookup f_need_unlike = some ⟨oc_need_unlike, od_need_unlike, .func (PySem.W.fnOf "need_unlike" "need_unlike" (defArgs s_need_unlike) (defBody s_need_unlike) (defScope s_need_unlike) .none kV_need_unlike dc_need_unlike pm_need_unlike an_need_unlike cd_need_unlike ct_need_unlike), sl_need_unlike⟩)
    (c_need_unlike : PySem.W.codeIn K cd_need_unlike "need_unlike" = true)
    (k_need_unlike : PySem.W.keepIn K (.ref f_need_unlike) = true)
    (a__law_pen : PySem.W.nsIn K mainGlobals "_law_pen" = some (some (.ref f__law_pen)))
    (l__law_pen : K.lookup f__law_pen = some ⟨oc__law_pen, od__law_pen, .func (PySem.W.fnOf "_law_pen" "_law_pen" (defArgs s__law_pen) (defBody s__law_pen) (defScope s__law_pen) .none kV__law_pen dc__law_pen pm__law_pen an__law_pen cd__law_pen ct__law_pen), sl__law_pen⟩)
    (c__law_pen : PySem.W.codeIn K cd__law_pen "_law_pen" = true)
    (k__law_pen : PySem.W.keepIn K (.ref f__law_pen) = true)
    (a__law_draw : PySem.W.nsIn K mainGlobals "_law_draw" = some (some (.ref f__law_draw)))
    (l__law_draw : K.lookup f__law_draw = some ⟨oc__law_draw, od__law_draw, .func (PySem.W.fnOf "_law_draw" "_law_draw" (defArgs s__law_draw) (defBody s__law_draw) (defScope s__law_draw) .none kV__law_draw dc__law_draw pm__law_draw an__law_draw cd__law_draw ct__law_draw), sl__law_draw⟩)
    (c__law_draw : PySem.W.codeIn K cd__law_draw "_law_draw" = true)
    (k__law_draw : PySem.W.keepIn K (.ref f__law_draw) = true)
    (a__law_pick : PySem.W.nsIn K mainGlobals "_law_pick" = some (some (.ref f__law_pick)))
    (l__law_pick : K.lookup f__law_pick = some ⟨oc__law_pick, od__law_pick, .func (PySem.W.fnOf "_law_pick" "_law_pick" (defArgs s__law_pick) (defBody s__law_pick) (defScope s__law_pick) .none kV__law_pick dc__law_pick pm__law_pick an__law_pick cd__law_pick ct__law_pick), sl__law_pick⟩)
    (c__law_pick : PySem.W.codeIn K cd__law_pick "_law_pick" = true)
    (k__law_pick : PySem.W.keepIn K (.ref f__law_pick) = true)
    (a__law_heard : PySem.W.nsIn K mainGlobals "_law_heard" = some (some (.ref f__law_heard)))
    (l__law_heard : K.lookup f__law_heard = some ⟨oc__law_heard, od__law_heard, .func (PySem.W.fnOf "_law_heard" "_law_heard" (defArgs s__law_heard) (defBody s__law_heard) (defScope s__law_heard) .none kV__law_heard dc__law_heard pm__law_heard an__law_heard cd__law_heard ct__law_heard), sl__law_heard⟩)
    (c__law_heard : PySem.W.codeIn K cd__law_heard "_law_heard" = true)
    (k__law_heard : PySem.W.keepIn K (.ref f__law_heard) = true)
    (a__law_mixed : PySem.W.nsIn K mainGlobals "_law_mixed" = some (some (.ref f__law_mixed)))
    (l__law_mixed : K.lookup f__law_mixed = some ⟨oc__law_mixed, od__law_mixed, .func (PySem.W.fnOf "_law_mixed" "_law_mixed" (defArgs s__law_mixed) (defBody s__law_mixed) (defScope s__law_mixed) .none kV__law_mixed dc__law_mixed pm__law_mixed an__law_mixed cd__law_mixed ct__law_mixed), sl__law_mixed⟩)
    (c__law_mixed : PySem.W.codeIn K cd__law_mixed "_law_mixed" = true)
    (k__law_mixed : PySem.W.keepIn K (.ref f__law_mixed) = true)
    (a__law_names : PySem.W.nsIn K mainGlobals "_law_names" = some (some (.ref f__law_names)))
    (l__law_names : K.lookup f__law_names = some ⟨oc__law_names, od__law_names, .func (PySem.W.fnOf "_law_names" "_law_names" (defArgs s__law_names) (defBody s__law_names) (defScope s__law_names) .none kV__law_names dc__law_names pm__law_names an__law_names cd__law_names ct__law_names), sl__law_names⟩)
    (c__law_names : PySem.W.codeIn K cd__law_names "_law_names" = true)
    (k__law_names : PySem.W.keepIn K (.ref f__law_names) = true)
    (a__law_drawn : PySem.W.nsIn K mainGlobals "_law_drawn" = some (some (.ref f__law_drawn)))
    (l__law_drawn : K.lookup f__law_drawn = some ⟨oc__law_drawn, od__law_drawn, .func (PySem.W.fnOf "_law_drawn" "_law_drawn" (defArgs s__law_drawn) (defBody s__law_drawn) (defScope s__law_drawn) .none kV__law_drawn dc__law_drawn pm__law_drawn an__law_drawn cd__law_drawn ct__law_drawn), sl__law_drawn⟩)
    (c__law_drawn : PySem.W.codeIn K cd__law_drawn "_law_drawn" = true)
    (k__law_drawn : PySem.W.keepIn K (.ref f__law_drawn) = true)
    (a__law_near : PySem.W.nsIn K mainGlobals "_law_near" = some (some (.ref f__law_near)))
    (l__law_near : K.lookup f__law_near = some ⟨oc__law_near, od__law_near, .func (PySem.W.fnOf "_law_near" "_law_near" (defArgs s__law_near) (defBody s__law_near) (defScope s__law_near) .none kV__law_near dc__law_near pm__law_near an__law_near cd__law_near ct__law_near), sl__law_near⟩)
    (c__law_near : PySem.W.codeIn K cd__law_near "_law_near" = true)
    (k__law_near : PySem.W.keepIn K (.ref f__law_near) = true)
    (a__law_made : PySem.W.nsIn K mainGlobals "_law_made" = some (some (.ref f__law_made)))
    (l__law_made : K.lookup f__law_made = some ⟨oc__law_made, od__law_made, .func (PySem.W.fnOf "_law_made" "_law_made" (defArgs s__law_made) (defBody s__law_made) (defScope s__law_made) .none kV__law_made dc__law_made pm__law_made an__law_made cd__law_made ct__law_made), sl__law_made⟩)
    (c__law_made : PySem.W.codeIn K cd__law_made "_law_made" = true)
    (k__law_made : PySem.W.keepIn K (.ref f__law_made) = true)
    (a__law_word : PySem.W.nsIn K mainGlobals "_law_word" = some (some (.ref f__law_word)))
    (l__law_word : K.lookup f__law_word = some ⟨oc__law_word, od__law_word, .func (PySem.W.fnOf "_law_word" "_law_word" (defArgs s__law_word) (defBody s__law_word) (defScope s__law_word) .none kV__law_word dc__law_word pm__law_word an__law_word cd__law_word ct__law_word), sl__law_word⟩)
    (c__law_word : PySem.W.codeIn K cd__law_word "_law_word" = true)
    (k__law_word : PySem.W.keepIn K (.ref f__law_word) = true)
    (a__law_text : PySem.W.nsIn K mainGlobals "_law_text" = some (some (.ref f__law_text)))
    (l__law_text : K.lookup f__law_text = some ⟨oc__law_text, od__law_text, .func (PySem.W.fnOf "_law_text" "_law_text" (defArgs s__law_text) (defBody s__law_text) (defScope s__law_text) .none kV__law_text dc__law_text pm__law_text an__law_text cd__law_text ct__law_text), sl__law_text⟩)
    (c__law_text : PySem.W.codeIn K cd__law_text "_law_text" = true)
    (k__law_text : PySem.W.keepIn K (.ref f__law_text) = true)
    (a__law_told_right : PySem.W.nsIn K mainGlobals "_law_told_right" = some (some (.ref f__law_told_right)))
    (l__law_told_right : K.lookup f__law_told_right = some ⟨oc__law_told_right, od__law_told_right, .func (PySem.W.fnOf "_law_told_right" "_law_told_right" (defArgs s__law_told_right) (defBody s__law_told_right) (defScope s__law_told_right) .none kV__law_told_right dc__law_told_right pm__law_told_right an__law_told_right cd__law_told_right ct__law_told_right), sl__law_told_right⟩)
    (c__law_told_right : PySem.W.codeIn K cd__law_told_right "_law_told_right" = true)
    (k__law_told_right : PySem.W.keepIn K (.ref f__law_told_right) = true)
    (a__law_is_under : PySem.W.nsIn K mainGlobals "_law_is_under" = some (some (.ref f__law_is_under)))
    (l__law_is_under : K.lookup f__law_is_under = some ⟨oc__law_is_under, od__law_is_under, .func (PySem.W.fnOf "_law_is_under" "_law_is_under" (defArgs s__law_is_under) (defBody s__law_is_under) (defScope s__law_is_under) .none kV__law_is_under dc__law_is_under pm__law_is_under an__law_is_under cd__law_is_under ct__law_is_under), sl__law_is_under⟩)
    (c__law_is_under : PySem.W.codeIn K cd__law_is_under "_law_is_under" = true)
    (k__law_is_under : PySem.W.keepIn K (.ref f__law_is_under) = true)
    (a__law_beside_right : PySem.W.nsIn K mainGlobals "_law_beside_right" = some (some (.ref f__law_beside_right)))
    (l__law_beside_right : K.lookup f__law_beside_right = some ⟨oc__law_beside_right, od__law_beside_right, .func (PySem.W.fnOf "_law_beside_right" "_law_beside_right" (defArgs s__law_beside_right) (defBody s__law_beside_right) (defScope s__law_beside_right) .none kV__law_beside_right dc__law_beside_right pm__law_beside_right an__law_beside_right cd__law_beside_right ct__law_beside_right), sl__law_beside_right⟩)
    (c__law_beside_right : PySem.W.codeIn K cd__law_beside_right "_law_beside_right" = true)
    (k__law_beside_right : PySem.W.keepIn K (.ref f__law_beside_right) = true)
    (a__law_refused_right : PySem.W.nsIn K mainGlobals "_law_refused_right" = some (some (.ref f__law_refused_right)))
    (l__law_refused_right : K.lookup f__law_refused_right = some ⟨oc__law_refused_right, od__law_refused_right, .func (PySem.W.fnOf "_law_refused_right" "_law_refused_right" (defArgs s__law_refused_right) (defBody s__law_refused_right) (defScope s__law_refused_right) .none kV__law_refused_right dc__law_refused_right pm__law_refused_right an__law_refused_right (.ref q1) ct__law_refused_right), sl__law_refused_right⟩)
    (c__law_refused_right : PySem.W.codeIn K (.ref q1) "_law_refused_right" = true)
    (k__law_refused_right : PySem.W.keepIn K (.ref f__law_refused_right) = true)
    (qo1 : K.lookup q1 = some ⟨.type "code", qd1, .fields qv1, qs1⟩)
    (qp1 : qv1[11]? = some (.ref P1))
    (qr1 : qv1.getD 11 .none = .ref P1)
    (qs_1 : qv1.getD 18 .none = .str qf1 qt1)
    (qu1 : qv1.getD 7 .none = .int qi1 qg1)
    (qv_1 : qv1.getD 9 .none = .bool qb1)
    (qw1 : qv1.getD 10 .none = .int qj1 qh1)
    (qx1 : q1 ≠ P1)
    (qn1 : K.lookup P1 = none)
    (rc1 : ((recsOf q).any fun e => e.name == "_law_refused_right") = true)
    (a__law_bent : PySem.W.nsIn K mainGlobals "_law_bent" = some (some (.ref f__law_bent)))
    (l__law_bent : K.lookup f__law_bent = some ⟨oc__law_bent, od__law_bent, .func (PySem.W.fnOf "_law_bent" "_law_bent" (defArgs s__law_bent) (defBody s__law_bent) (defScope s__law_bent) .none kV__law_bent dc__law_bent pm__law_bent an__law_bent cd__law_bent ct__law_bent), sl__law_bent⟩)
    (c__law_bent : PySem.W.codeIn K cd__law_bent "_law_bent" = true)
    (k__law_bent : PySem.W.keepIn K (.ref f__law_bent) = true)
    (a__law_is_part : PySem.W.nsIn K mainGlobals "_law_is_part" = some (some (.ref f__law_is_part)))
    (l__law_is_part : K.lookup f__law_is_part = some ⟨oc__law_is_part, od__law_is_part, .func (PySem.W.fnOf "_law_is_part" "_law_is_part" (defArgs s__law_is_part) (defBody s__law_is_part) (defScope s__law_is_part) .none kV__law_is_part dc__law_is_part pm__law_is_part an__law_is_part cd__law_is_part ct__law_is_part), sl__law_is_part⟩)
    (c__law_is_part : PySem.W.codeIn K cd__law_is_part "_law_is_part" = true)
    (k__law_is_part : PySem.W.keepIn K (.ref f__law_is_part) = true)
    (a__law_read_right : PySem.W.nsIn K mainGlobals "_law_read_right" = some (some (.ref f__law_read_right)))
    (l__law_read_right : K.lookup f__law_read_right = some ⟨oc__law_read_right, od__law_read_right, .func (PySem.W.fnOf "_law_read_right" "_law_read_right" (defArgs s__law_read_right) (defBody s__law_read_right) (defScope s__law_read_right) .none kV__law_read_right dc__law_read_right pm__law_read_right an__law_read_right (.ref q2) ct__law_read_right), sl__law_read_right⟩)
    (c__law_read_right : PySem.W.codeIn K (.ref q2) "_law_read_right" = true)
    (k__law_read_right : PySem.W.keepIn K (.ref f__law_read_right) = true)
    (qo2 : K.lookup q2 = some ⟨.type "code", qd2, .fields qv2, qs2⟩)
    (qp2 : qv2[11]? = some (.ref P2))
    (qr2 : qv2.getD 11 .none = .ref P2)
    (qs_2 : qv2.getD 18 .none = .str qf2 qt2)
    (qu2 : qv2.getD 7 .none = .int qi2 qg2)
    (qv_2 : qv2.getD 9 .none = .bool qb2)
    (qw2 : qv2.getD 10 .none = .int qj2 qh2)
    (qx2 : q2 ≠ P2)
    (qn2 : K.lookup P2 = none)
    (rc2 : ((recsOf q).any fun e => e.name == "_law_read_right") = true)
    (a_law : PySem.W.nsIn K mainGlobals "law" = some (some (.ref f_law)))
    (l_law : K.lookup f_law = some ⟨oc_law, od_law, .func (PySem.W.fnOf "law" "law" (defArgs s_law) (defBody s_law) (defScope s_law) .none kV_law dc_law pm_law an_law cd_law ct_law), sl_law⟩)
    (c_law : PySem.W.codeIn K cd_law "law" = true)
    (k_law : PySem.W.keepIn K (.ref f_law) = true)
    (qne12 : P1 ≠ P2) :
    LawG l w K CX0 12 63 "_law_script" mg fa h := by
  have e := hfa.symm.trans (PySem.W.mg_of X G a_law)
  cases e
  subst eL
  have T : Tx K mg CE CN CB CW CS tL tN := ⟨by
    intro x hx
    simp only [bns, List.mem_cons, List.not_mem_nil, or_false] at hx
    rcases hx with rfl | rfl | rfl | rfl | rfl | rfl | rfl | rfl | rfl | rfl | rfl | rfl | rfl | rfl | rfl
    · exact PySem.W.mg_none_of X G b0
    · exact PySem.W.mg_none_of X G b1
    · exact PySem.W.mg_none_of X G b2
    · exact PySem.W.mg_none_of X G b3
    · exact PySem.W.mg_none_of X G b4
    · exact PySem.W.mg_none_of X G b5
    · exact PySem.W.mg_none_of X G b6
    · exact PySem.W.mg_none_of X G b7
    · exact PySem.W.mg_none_of X G b8
    · exact PySem.W.mg_none_of X G b9
    · exact PySem.W.mg_none_of X G b10
    · exact PySem.W.mg_none_of X G b11
    · exact PySem.W.mg_none_of X G b12
    · exact PySem.W.mg_none_of X G b13
    · exact PySem.W.mg_none_of X G b14, PySem.W.mg_of X G gL, PySem.W.mg_of X G gN, PySem.W.mg_of X G gCE, PySem.W.mg_of X G gN_, PySem.W.mg_of X G gB_, PySem.W.mg_of X G gW_, PySem.W.mg_of X G gS_⟩
  have FSN : Ls.FunS K "__init__" "BadName.__init__" s_BadName_init fN_ _ cdaN ccN := ⟨⟨_, _, _, _, _, _, _, _, rfl, lIN, cIN⟩, kIN⟩
  have OXN : OexC K CN := ⟨⟨_, _, _, _, _, _, _, _, _, _, _, _, _, _, _, xoN, xrN⟩, saN, beN, tyN, kpN⟩
  have SEN : SupE l.prog K mg CN CN ccN cdaN := ⟨⟨_, _, _, ceN⟩, ⟨_, _, _, _, _, _, coN, v2N, flN⟩, ⟨_, cd_N⟩, sbN, svN, T.bn _ (by decide +kernel), top_, any_, fd_N, OXN⟩
  have exmN := PySem.W.exm_ref eE1 eE2 eE3 suN
  have ecN : ExcC K CN := ⟨xgN, xkN, beN, hdN, haN, hn, htk, hmN⟩
  have xfN : XfC K CN := ⟨xgN, xkN, beN, hdN⟩
  have FSW : Ls.FunS K "__init__" "Twice.__init__" s_Twice_init fW_ _ cdaW ccW := ⟨⟨_, _, _, _, _, _, _, _, rfl, lIW, cIW⟩, kIW⟩
  have OXW : OexC K CW := ⟨⟨_, _, _, _, _, _, _, _, _, _, _, _, _, _, _, xoW, xrW⟩, saW, beW, tyW, kpW⟩
  have SEW : SupE l.prog K mg CW CW ccW cdaW := ⟨⟨_, _, _, ceW⟩, ⟨_, _, _, _, _, _, coW, v2W, flW⟩, ⟨_, cd_W⟩, sbW, svW, T.bn _ (by decide +kernel), top_, any_, fd_W, OXW⟩
  have exmW := PySem.W.exm_ref eE1 eE2 eE3 suW
  have ecW : ExcC K CW := ⟨xgW, xkW, beW, hdW, haW, hn, htk, hmW⟩
  have xfW : XfC K CW := ⟨xgW, xkW, beW, hdW⟩
  have FSB : Ls.FunS K "__init__" "BadStanding.__init__" s_BadStanding_init fB_ _ cdaB ccB := ⟨⟨_, _, _, _, _, _, _, _, rfl, lIB, cIB⟩, kIB⟩
  have OXB : OexC K CB := ⟨⟨_, _, _, _, _, _, _, _, _, _, _, _, _, _, _, xoB, xrB⟩, saB, beB, tyB, kpB⟩
  have SEB : SupE l.prog K mg CB CB ccB cdaB := ⟨⟨_, _, _, ceB⟩, ⟨_, _, _, _, _, _, coB, v2B, flB⟩, ⟨_, cd_B⟩, sbB, svB, T.bn _ (by decide +kernel), top_, any_, fd_B, OXB⟩
  have exmB := PySem.W.exm_ref eE1 eE2 eE3 suB
  have ecB : ExcC K CB := ⟨xgB, xkB, beB, hdB, haB, hn, htk, hmB⟩
  have xfB : XfC K CB := ⟨xgB, xkB, beB, hdB⟩
  have eTN : ErrT K CE CN CW CB CN "value" true false false := ⟨exmN, ecN, kvN, kNN_, kNW_, kNB_, xfN, noN_value⟩
  have eTW : ErrT K CE CN CW CB CW "name" false true false := ⟨exmW, ecW, kvW, kWN_, kWW_, kWB_, xfW, noW_name⟩
  have eTB : ErrT K CE CN CW CB CB "value" false false true := ⟨exmB, ecB, kvB, kBN_, kBW_, kBB_, xfB, noB_value⟩
  have CL_S : Cls K CS := ⟨pgS, hdS, poS, saS⟩
  have hC : ClS K CS fmE := ⟨CL_S, nS_held, nS_kept, haS, hn, htk, hmS, kSS, kST, kSP, amE, neS, nfS, nfT, nfP, imE⟩
  have FSI : FSt K aD1 aD2 fS_ _ := ⟨⟨_, _, _, _, _, _, _, _, _, _, rfl, lSI, cSI, .inr ⟨by simp, _, _, [.ref aD1, .ref aD2], _, rfl, lDT, rfl, .cons rfl (.cons rfl .nil)⟩, .inl rfl⟩, kSI⟩
  have sD1 : ∀ H, SqT K H aD1 [] := fun H => .inr ⟨_, _, _, lD1, rfl, rfl, by show 0 ≤ sizeLine; decide, .nil⟩
  have sD2 : ∀ H, SqT K H aD2 [] := fun H => .inr ⟨_, _, _, lD2, rfl, rfl, by show 0 ≤ sizeLine; decide, .nil⟩
  have MS : Mk K CS fS_ := ⟨mkS, inS, fnS, kpS⟩
  have FmE := fun_mk (st := s_Standing_eq) lmE cmE kmE
  have BmE := FmE.binds (ps := ["self", "other"]) fun _ _ _ _ _ _ us hl => match us, hl with | [_, _], _ => rfl
  have FmT := fun_mk (st := s_Standing_str) lmT cmT kmT
  have BmT := FmT.binds (ps := ["self"]) fun _ _ _ _ _ _ us hl => match us, hl with | [_], _ => rfl
  have FmL := fun_mk (st := s_Standing_le) lmL cmL kmL
  have BmL := FmL.binds (ps := ["self", "other"]) fun _ _ _ _ _ _ us hl => match us, hl with | [_, _], _ => rfl
  have FmG := fun_mk (st := s_Standing_ge) lmG cmG kmG
  have BmG := FmG.binds (ps := ["self", "other"]) fun _ _ _ _ _ _ us hl => match us, hl with | [_, _], _ => rfl
  have FmO := fun_mk (st := s_Standing_or) lmO cmO kmO
  have BmO := FmO.binds (ps := ["self", "other"]) fun _ _ _ _ _ _ us hl => match us, hl with | [_, _], _ => rfl
  have FmH := fun_mk (st := s_Standing_contains) lmH cmH kmH
  have BmH := FmH.binds (ps := ["self", "value"]) fun _ _ _ _ _ _ us hl => match us, hl with | [_, _], _ => rfl
  have FmI := fun_mk (st := s_Standing_is_within) lmI cmI kmI
  have BmI := FmI.binds (ps := ["self", "other"]) fun _ _ _ _ _ _ us hl => match us, hl with | [_, _], _ => rfl
  have FmY := fun_mk (st := s_Standing_only) lmY cmY kmY
  have BmY := FmY.binds (ps := ["self", "names"]) fun _ _ _ _ _ _ us hl => match us, hl with | [_, _], _ => rfl
  have FPslots := fun_mk (st := s_Standing_slots) lPslots cPslots kPslots
  have BPslots := FPslots.binds (ps := ["self"]) fun _ _ _ _ _ _ us hl => match us, hl with | [_], _ => rfl
  have FPstored := fun_mk (st := s_Standing_stored) lPstored cPstored kPstored
  have BPstored := FPstored.binds (ps := ["self"]) fun _ _ _ _ _ _ us hl => match us, hl with | [_], _ => rfl
  have FPnames := fun_mk (st := s_Standing_names) lPnames cPnames kPnames
  have BPnames := FPnames.binds (ps := ["self"]) fun _ _ _ _ _ _ us hl => match us, hl with | [_], _ => rfl
  have FR := fun_mk (st := s_Standing_read) lR cR kR
  have BR := FR.binds (ps := ["cls", "text"]) fun _ _ _ _ _ _ us hl => match us, hl with | [_, _], _ => rfl
  have F_is_name := fun_mk (st := s_is_name) l_is_name c_is_name k_is_name
  have B_is_name := F_is_name.binds (ps := ["value"]) fun _ _ _ _ _ _ us hl => match us, hl with | [_], _ => rfl
  have F_ascending := fun_mk (st := s_ascending) l_ascending c_ascending k_ascending
  have B_ascending := F_ascending.binds (ps := ["names"]) fun _ _ _ _ _ _ us hl => match us, hl with | [_], _ => rfl
  have F_part_text := fun_mk (st := s_part_text) l_part_text c_part_text k_part_text
  have B_part_text := F_part_text.binds (ps := ["names"]) fun _ _ _ _ _ _ us hl => match us, hl with | [_], _ => rfl
  have F_text_of := fun_mk (st := s_text_of) l_text_of c_text_of k_text_of
  have B_text_of := F_text_of.binds (ps := ["slots", "stored"]) fun _ _ _ _ _ _ us hl => match us, hl with | [_, _], _ => rfl
  have F_part_names := fun_mk (st := s_part_names) l_part_names c_part_names k_part_names
  have B_part_names := F_part_names.binds (ps := ["text"]) fun _ _ _ _ _ _ us hl => match us, hl with | [_], _ => rfl
  have F_need_all_names := fun_mk (st := s_need_all_names) l_need_all_names c_need_all_names k_need_all_names
  have B_need_all_names := F_need_all_names.binds (ps := ["values"]) fun _ _ _ _ _ _ us hl => match us, hl with | [_], _ => rfl
  have F_need_unlike := fun_mk (st := s_need_unlike) l_need_unlike c_need_unlike k_need_unlike
  have B_need_unlike := F_need_unlike.binds (ps := ["names"]) fun _ _ _ _ _ _ us hl => match us, hl with | [_], _ => rfl
  have F__law_pen := fun_mk (st := s__law_pen) l__law_pen c__law_pen k__law_pen
  have B__law_pen := F__law_pen.binds (ps := ["_law_script"]) fun _ _ _ _ _ _ us hl => match us, hl with | [_], _ => rfl
  have F__law_draw := fun_mk (st := s__law_draw) l__law_draw c__law_draw k__law_draw
  have B__law_draw := F__law_draw.binds (ps := ["_law_pen_here", "_law_many"]) fun _ _ _ _ _ _ us hl => match us, hl with | [_, _], _ => rfl
  have F__law_pick := fun_mk (st := s__law_pick) l__law_pick c__law_pick k__law_pick
  have B__law_pick := F__law_pick.binds (ps := ["_law_pen_here", "_law_some"]) fun _ _ _ _ _ _ us hl => match us, hl with | [_, _], _ => rfl
  have F__law_heard := fun_mk (st := s__law_heard) l__law_heard c__law_heard k__law_heard
  have B__law_heard := F__law_heard.binds (ps := ["_law_ask"]) fun _ _ _ _ _ _ us hl => match us, hl with | [_], _ => rfl
  have F__law_mixed := fun_mk (st := s__law_mixed) l__law_mixed c__law_mixed k__law_mixed
  have B__law_mixed := F__law_mixed.binds (ps := ["_law_pen_here", "_law_some"]) fun _ _ _ _ _ _ us hl => match us, hl with | [_, _], _ => rfl
  have F__law_names := fun_mk (st := s__law_names) l__law_names c__law_names k__law_names
  have B__law_names := F__law_names.binds (ps := ["_law_pen_here"]) fun _ _ _ _ _ _ us hl => match us, hl with | [_], _ => rfl
  have F__law_drawn := fun_mk (st := s__law_drawn) l__law_drawn c__law_drawn k__law_drawn
  have B__law_drawn := F__law_drawn.binds (ps := ["_law_pen_here", "_law_names_here"]) fun _ _ _ _ _ _ us hl => match us, hl with | [_, _], _ => rfl
  have F__law_near := fun_mk (st := s__law_near) l__law_near c__law_near k__law_near
  have B__law_near := F__law_near.binds (ps := ["_law_pen_here", "_law_parts", "_law_names_here"]) fun _ _ _ _ _ _ us hl => match us, hl with | [_, _, _], _ => rfl
  have F__law_made := fun_mk (st := s__law_made) l__law_made c__law_made k__law_made
  have B__law_made := F__law_made.binds (ps := ["_law_pen_here", "_law_parts"]) fun _ _ _ _ _ _ us hl => match us, hl with | [_, _], _ => rfl
  have F__law_word := fun_mk (st := s__law_word) l__law_word c__law_word k__law_word
  have B__law_word := F__law_word.binds (ps := ["_law_part"]) fun _ _ _ _ _ _ us hl => match us, hl with | [_], _ => rfl
  have F__law_text := fun_mk (st := s__law_text) l__law_text c__law_text k__law_text
  have B__law_text := F__law_text.binds (ps := ["_law_parts"]) fun _ _ _ _ _ _ us hl => match us, hl with | [_], _ => rfl
  have F__law_told_right := fun_mk (st := s__law_told_right) l__law_told_right c__law_told_right k__law_told_right
  have B__law_told_right := F__law_told_right.binds (ps := ["_law_standing", "_law_parts"]) fun _ _ _ _ _ _ us hl => match us, hl with | [_, _], _ => rfl
  have F__law_is_under := fun_mk (st := s__law_is_under) l__law_is_under c__law_is_under k__law_is_under
  have B__law_is_under := F__law_is_under.binds (ps := ["_law_one", "_law_other"]) fun _ _ _ _ _ _ us hl => match us, hl with | [_, _], _ => rfl
  have F__law_beside_right := fun_mk (st := s__law_beside_right) l__law_beside_right c__law_beside_right k__law_beside_right
  have B__law_beside_right := F__law_beside_right.binds (ps := ["_law_pen_here", "_law_one", "_law_other", "_law_first", "_law_second", "_law_names_here"]) fun _ _ _ _ _ _ us hl => match us, hl with | [_, _, _, _, _, _], _ => rfl
  have F__law_refused_right := fun_mk (st := s__law_refused_right) l__law_refused_right c__law_refused_right k__law_refused_right
  have B__law_refused_right := F__law_refused_right.binds (ps := ["_law_pen_here", "_law_parts"]) fun _ _ _ _ _ _ us hl => match us, hl with | [_, _], _ => rfl
  have F__law_bent := fun_mk (st := s__law_bent) l__law_bent c__law_bent k__law_bent
  have B__law_bent := F__law_bent.binds (ps := ["_law_pen_here", "_law_text_here"]) fun _ _ _ _ _ _ us hl => match us, hl with | [_, _], _ => rfl
  have F__law_is_part := fun_mk (st := s__law_is_part) l__law_is_part c__law_is_part k__law_is_part
  have B__law_is_part := F__law_is_part.binds (ps := ["_law_words"]) fun _ _ _ _ _ _ us hl => match us, hl with | [_], _ => rfl
  have F__law_read_right := fun_mk (st := s__law_read_right) l__law_read_right c__law_read_right k__law_read_right
  have B__law_read_right := F__law_read_right.binds (ps := ["_law_thing"]) fun _ _ _ _ _ _ us hl => match us, hl with | [_], _ => rfl
  have F_law := fun_mk (st := s_law) l_law c_law k_law
  refine ⟨_, [(q1, P1), (q2, P2)], spLaw K [(P1, ("_law_refused_right.<locals>.<lambda>" : Str)), (P2, ("_law_read_right.<locals>.<lambda>" : Str))], ?_, ?_, ?_, fun s u => .of_eq (fd := PySem.W.fnOf "law" "law" (defArgs s_law) (defBody s_law) (defScope s_law) .none kV_law dc_law pm_law an_law cd_law ct_law) rfl, ?_, ?_⟩
  · intro p hp
    simp only [List.mem_cons, List.not_mem_nil, or_false] at hp
    rcases hp with rfl | rfl
    · exact ow "_law_refused_right" _ rc1 (PySem.W.mg_of X G a__law_refused_right) q1 P1 _ _ _ _ _ _ l__law_refused_right rfl rfl qo1 qp1
    · exact ow "_law_read_right" _ rc2 (PySem.W.mg_of X G a__law_read_right) q2 P2 _ _ _ _ _ _ l__law_read_right rfl rfl qo2 qp2
  · intro p hp
    simp only [List.mem_cons, List.not_mem_nil, or_false] at hp
    rcases hp with rfl | rfl
    · exact qn1
    · exact qn2
  · intro p hp
    simp only [List.mem_cons, List.not_mem_nil, or_false] at hp
    rcases hp with rfl | rfl
    · exact ⟨_, _, _, _, _, _, _, _, _, X _ _ qo1, rfl, rfl, qp1, qr1, qs_1, qu1, qv_1, qw1, qx1⟩
    · exact ⟨_, _, _, _, _, _, _, _, _, X _ _ qo2, rfl, rfl, qp2, qr2, qs_2, qu2, qv_2, qw2, qx2⟩
  · intro H a ns hl _ hH hS
    refine ⟨a, ns, rfl, hS, hl, fun p hp => ?_, fun _ => rfl⟩
    simp only [List.mem_cons, List.not_mem_nil, or_false] at hp
    rcases hp with rfl | rfl
    · exact LamX.TabS.nil (hH (q1, P1) (by simp))
    · exact LamX.TabS.nil (hH (q2, P2) (by simp))
  intro base _ _ TBs hsys
  have TB1 := TBs (q1, P1) (by simp)
  have TB2 := TBs (q2, P2) (by simp)
  have hu1 : ∀ p ∈ [(P1, ("_law_refused_right.<locals>.<lambda>" : Str)), (P2, ("_law_read_right.<locals>.<lambda>" : Str))], p.1 = P1 → p.2 = ("_law_refused_right.<locals>.<lambda>" : Str) := fun p hp e => by
    simp only [List.mem_cons, List.not_mem_nil, or_false] at hp
    rcases hp with rfl | rfl
    · rfl
    · exact absurd e.symm qne12
  have hu2 : ∀ p ∈ [(P1, ("_law_refused_right.<locals>.<lambda>" : Str)), (P2, ("_law_read_right.<locals>.<lambda>" : Str))], p.1 = P2 → p.2 = ("_law_read_right.<locals>.<lambda>" : Str) := fun p hp e => by
    simp only [List.mem_cons, List.not_mem_nil, or_false] at hp
    rcases hp with rfl | rfl
    · exact absurd e qne12
    · rfl
  have raw : ∀ {CX : CXT} {k : Nat} {f : Addr} {fd : FuncData} {ps : List Str} {sp : Sp}, FnOk l.prog w K mg base CX k f fd ps sp → Binds K fd ps [] → FnR l.prog w K mg base CX k f sp := fun {CX k f fd ps sp} F b => (F.raw b .nil).imp fun vs H Q E h => by rw [List.append_nil]; exact h
  have x_BadName : Xer l.prog w K mg base CN "BadName" ["value"] := ⟨T.m_BadName, OXN, _, _, _, inN, tf_N, ok_BadName_init FSN SEN noN_value, Binds.all fun us hl => match us, hl with | [_, _], _ => rfl⟩
  have x_Twice : Xer l.prog w K mg base CW "Twice" ["name"] := ⟨T.m_Twice, OXW, _, _, _, inW, tf_W, ok_Twice_init FSW SEW noW_name, Binds.all fun us hl => match us, hl with | [_, _], _ => rfl⟩
  have x_BadStanding : Xer l.prog w K mg base CB "BadStanding" ["value"] := ⟨T.m_BadStanding, OXB, _, _, _, inB, tf_B, ok_BadStanding_init FSB SEB noB_value, Binds.all fun us hl => match us, hl with | [_, _], _ => rfl⟩
  have c_is_name : Cal l.prog w K mg base CX0 1 "is_name" spName := ⟨_, PySem.W.mg_of X G a_is_name, k_is_name, raw (ok_name F_is_name T) B_is_name⟩
  have c_ascending : Cal l.prog w K mg base CX0 1 "ascending" (spAsc K) := ⟨_, PySem.W.mg_of X G a_ascending, k_ascending, raw (ok_asc F_ascending T) B_ascending⟩
  have c_part_text : Cal l.prog w K mg base CX0 1 "part_text" (spPT K) := ⟨_, PySem.W.mg_of X G a_part_text, k_part_text, raw (ok_pt F_part_text T) B_part_text⟩
  have c_text_of : Cal l.prog w K mg base CX0 2 "text_of" (spTx K) := ⟨_, PySem.W.mg_of X G a_text_of, k_text_of, raw (ok_tx F_text_of T c_part_text) B_text_of⟩
  have c_part_names : Cal l.prog w K mg base CX0 1 "part_names" spPN := ⟨_, PySem.W.mg_of X G a_part_names, k_part_names, raw (ok_pn F_part_names T) B_part_names⟩
  have c_need_all_names : Cal l.prog w K mg base (L2.CX l.prog w) 3 "need_all_names" (spNA K CN) := ⟨_, PySem.W.mg_of X G a_need_all_names, k_need_all_names, raw (ok_na F_need_all_names T c_is_name x_BadName) B_need_all_names⟩
  have c_need_unlike : Cal l.prog w K mg base (L2.CX l.prog w) 3 "need_unlike" (spUn K CW) := ⟨_, PySem.W.mg_of X G a_need_unlike, k_need_unlike, raw (ok_un F_need_unlike T x_Twice) B_need_unlike⟩
  have good := ok_init (P := l.prog) (w := w) (base := base) FSI T hC c_need_all_names c_need_unlike c_ascending
  have c_Standing : Mkc l.prog w K mg base (L2.CX l.prog w) 4 CS "Standing" (spSt K CN CW CS) := ⟨fS_, T.m_Standing, MS, raw good (st_all FSI)⟩
  obtain ⟨ds0, v0, b0⟩ := st_none FSI
  have c_Standing_0 : Mkc l.prog w K mg base (L2.CX l.prog w) 4 CS "Standing" (spSt0 CS) := ⟨fS_, T.m_Standing, MS, (good.raw b0 v0).imp fun vs H Q E h => by
    obtain ⟨x, dx, rfl, h1, h2⟩ := h
    exact st0_of ⟨x, dx, rfl, h1, h2⟩ (sD1 H) (sD2 H)⟩
  have c_Standing_stored : MkcN l.prog w K mg base (L2.CX l.prog w) 4 CS "Standing" 1 ["stored"] (fun vs zs => vs ++ zs) (spSt K CN CW CS) := ⟨fS_, _, _, _, T.m_Standing, MS, good, st_kw1 FSI⟩
  have c_Standing_stored_slots : MkcN l.prog w K mg base (L2.CX l.prog w) 4 CS "Standing" 0 ["stored", "slots"] (fun vs zs => vs ++ zs.reverse) (spSt K CN CW CS) := ⟨fS_, _, _, _, T.m_Standing, MS, good, st_kw2 FSI⟩
  have c_slots : Prp l.prog w K mg base CX0 1 (· = CS) "slots" (spHeld CS) := ⟨p_slots, g_slots, _, fun C h => by
    cases h
    exact ⟨CL_S, pa_slots, pg_slots, pt_slots, _, pr_slots⟩, ok_slots FPslots T hC, BPslots⟩
  have c_stored : Prp l.prog w K mg base CX0 1 (· = CS) "stored" (spKept CS) := ⟨p_stored, g_stored, _, fun C h => by
    cases h
    exact ⟨CL_S, pa_stored, pg_stored, pt_stored, _, pr_stored⟩, ok_stored FPstored T hC, BPstored⟩
  have c_names : Prp l.prog w K mg base CX0 2 (· = CS) "names" (spNames CS) := ⟨p_names, g_names, _, fun C h => by
    cases h
    exact ⟨CL_S, pa_names, pg_names, pt_names, _, pr_names⟩, ok_names FPnames T hC c_ascending, BPnames⟩
  have o_is_within : OwnM l.prog w K mg base CX0 1 CS "is_within" (spWithin CS) := ⟨fmI, CL_S, ⟨amI, imI, kmI⟩, raw (ok_within FmI T hC) BmI⟩
  have rE : FnR l.prog w K mg base CX0 2 fmE (spEq K CS) := raw (ok_eq FmE T hC) BmE
  have rStr : FnR l.prog w K mg base CX0 3 fmT (spStr CS) := raw (ok_str FmT T hC c_text_of) BmT
  have rLe : FnR l.prog w K mg base CX0 2 fmL (spWithin CS) := raw (ok_le FmL T hC o_is_within) BmL
  have rGe : FnR l.prog w K mg base CX0 2 fmG (spGe CS) := raw (ok_ge FmG T hC o_is_within) BmG
  have rOr : FnR l.prog w K mg base (L2.CX l.prog w) 6 fmO (spOr K CS) := raw (ok_or FmO T hC c_ascending c_Standing) BmO
  have rHas : FnR l.prog w K mg base CX0 4 fmH (spHas CS) := raw (ok_has FmH T hC c_is_name c_names) BmH
  have o_only : OwnM l.prog w K mg base (L2.CX l.prog w) 6 CS "only" (spOnly K CS) := ⟨fmY, CL_S, ⟨amY, imY, kmY⟩, raw (ok_only FmY T hC c_Standing) BmY⟩
  have OOr : OwnOp K CS fmO "or" := ⟨sfS, (by rw [show dunder "or" = ("__or__" : Str) by decide +kernel]; exact amO), imO, ⟨_, (by rw [show dunderR "or" = ("__ror__" : Str) by decide +kernel]; exact tmO), .inl rfl⟩⟩
  have c_Standing_read : Clm l.prog w K mg base (L2.CX l.prog w) 6 CS "read" (spRead CB CS) := ⟨mcV, pR, fR, ⟨rdS, gaS⟩, ⟨atR, ⟨_, rcR⟩, fiR⟩, raw (ok_read FR T hC c_part_names c_is_name c_text_of c_ascending c_Standing x_BadStanding) BR⟩
  have c__law_pen : Cal l.prog w K mg base CX0 1 "_law_pen" (spPen K) := ⟨_, PySem.W.mg_of X G a__law_pen, k__law_pen, raw (ok_pen F__law_pen T) B__law_pen⟩
  have c__law_draw : Cal l.prog w K mg base CX0 1 "_law_draw" spDraw := ⟨_, PySem.W.mg_of X G a__law_draw, k__law_draw, raw (ok_draw F__law_draw T) B__law_draw⟩
  have c__law_pick : Cal l.prog w K mg base CX0 2 "_law_pick" (spPick K) := ⟨_, PySem.W.mg_of X G a__law_pick, k__law_pick, raw (ok_pick F__law_pick T c__law_draw) B__law_pick⟩
  have c__law_mixed : Cal l.prog w K mg base CX0 2 "_law_mixed" spMixed := ⟨_, PySem.W.mg_of X G a__law_mixed, k__law_mixed, raw (ok_mixed F__law_mixed T c__law_draw) B__law_mixed⟩
  have c__law_names : Cal l.prog w K mg base CX0 3 "_law_names" spLN := ⟨_, PySem.W.mg_of X G a__law_names, k__law_names, raw (ok_lnames F__law_names T c__law_draw c__law_pick) B__law_names⟩
  have c__law_drawn : Cal l.prog w K mg base CX0 3 "_law_drawn" spDrawn := ⟨_, PySem.W.mg_of X G a__law_drawn, k__law_drawn, raw (ok_drawn F__law_drawn T c__law_draw c__law_mixed) B__law_drawn⟩
  have c__law_near : Cal l.prog w K mg base CX0 4 "_law_near" spNear := ⟨_, PySem.W.mg_of X G a__law_near, k__law_near, raw (ok_near F__law_near T c__law_draw c__law_pick c__law_drawn) B__law_near⟩
  have c__law_made : Cal l.prog w K mg base CX0 6 "_law_made" (spMade CS) := ⟨_, PySem.W.mg_of X G a__law_made, k__law_made, raw (ok_made F__law_made T c__law_draw c_Standing c_Standing_stored c_Standing_stored_slots) B__law_made⟩
  have c__law_word : Cal l.prog w K mg base CX0 1 "_law_word" spWord := ⟨_, PySem.W.mg_of X G a__law_word, k__law_word, raw (ok_word F__law_word T) B__law_word⟩
  have c__law_text : Cal l.prog w K mg base CX0 2 "_law_text" spText := ⟨_, PySem.W.mg_of X G a__law_text, k__law_text, raw (ok_text F__law_text T c__law_word) B__law_text⟩
  have c__law_is_under : Cal l.prog w K mg base CX0 1 "_law_is_under" spUnder := ⟨_, PySem.W.mg_of X G a__law_is_under, k__law_is_under, raw (ok_under F__law_is_under T) B__law_is_under⟩
  have c__law_bent : Cal l.prog w K mg base CX0 3 "_law_bent" spBent := ⟨_, PySem.W.mg_of X G a__law_bent, k__law_bent, raw (ok_bent F__law_bent T c__law_draw c__law_pick) B__law_bent⟩
  have c__law_is_part : Cal l.prog w K mg base CX0 1 "_law_is_part" spPart := ⟨_, PySem.W.mg_of X G a__law_is_part, k__law_is_part, raw (ok_part F__law_is_part T) B__law_is_part⟩
  have mh := PySem.W.mg_of X G a__law_heard
  have c__law_told_right : CalG l.prog w K mg base CX0 8 "_law_told_right" (spTR CS) := ⟨_, _, _, PySem.W.mg_of X G a__law_told_right, k__law_told_right, B__law_told_right, ok_tr F__law_told_right T hC hsys c_slots c_stored c_names amT imT rStr imE rE amH imH rHas c__law_text c_Standing_read⟩
  have c__law_beside_right : CalG l.prog w K mg base CX0 9 "_law_beside_right" (spBR CS) := ⟨_, _, _, PySem.W.mg_of X G a__law_beside_right, k__law_beside_right, B__law_beside_right, ok_br F__law_beside_right T hC hsys amT imT rStr imE rE amL imL rLe amG imG rGe rOr OOr o_only c__law_draw c__law_word c__law_text c__law_is_under⟩
  have c__law_refused_right : CalG l.prog w K mg base CX0 10 "_law_refused_right" (spRF [(P1, ("_law_refused_right.<locals>.<lambda>" : Str)), (P2, ("_law_read_right.<locals>.<lambda>" : Str))]) := ⟨_, _, _, PySem.W.mg_of X G a__law_refused_right, k__law_refused_right, B__law_refused_right, ok_rf F__law_refused_right T hsys F__law_heard mh B__law_heard eTN eTW eTB rfl TB1 (by simp) hu1 c__law_draw c__law_pick c_Standing⟩
  have c__law_read_right : CalG l.prog w K mg base CX0 10 "_law_read_right" (spRR [(P1, ("_law_refused_right.<locals>.<lambda>" : Str)), (P2, ("_law_read_right.<locals>.<lambda>" : Str))]) := ⟨_, _, _, PySem.W.mg_of X G a__law_read_right, k__law_read_right, B__law_read_right, ok_rr F__law_read_right T hC hsys F__law_heard mh B__law_heard eTN eTW eTB rfl TB2 (by simp) hu2 amT imT rStr c__law_is_part c_Standing_read⟩
  exact ok_law F_law T hC hsys c_slots c_stored amT imT rStr imE rE c_Standing_0 c_Standing_read c__law_pen c__law_names c__law_drawn c__law_near c__law_made c__law_bent c__law_told_right c__law_beside_right c__law_refused_right c__law_read_right
theorem walk {l : PySem.W.OpenLaw} {q : Program} {loose : List Str} {XP : (Str → Option Value) → Heap → Prop} {YP : World → Heap → Prop} {d : DefRec} {K : Params → PySem.W.Frag} (hn : l.most = some 63) (hdf : d.params.defaults = []) (him : importsNone q = true)
    (hY : ∀ (w : World) (h : Heap), YP w h → (K w.params).In h)
    (F : ∀ (w : World) (mg : Str → Option Value) (fa : Addr) (h : Heap), (K w.params).In h → h.Ns mainGlobals mg → mg d.name = some (.ref fa) → (∀ (x : Str) (fx : Addr), ((recsOf q).any fun e => e.name == x) = true → mg x = some (.ref fx) → LamX.OwnTab (K w.params) fx h) → LawG l w (K w.params) CX0 12 63 "_law_script" mg fa h) :
    PySem.W.WalkO q loose XP YP l.row.toRowW d [] (fun f vs => PySem.call f vs) :=
  walk_G (n := 63) (k := 12) (x := "_law_script") (CX := fun _ => CX0) hn (by decide) hdf ⟨rfl, by decide, by decide⟩ him hY (fun w mg fa h _ => F w mg fa h) fun _ _ _ _ _ z => z
end K19
end
section
set_option Elab.async false
set_option linter.all false
set_option maxRecDepth 100000
set_option maxHeartbeats 8000000
namespace HeadH
open PySem PySem.W PySem.Calls PyProof.Rows
def nms0 : List PySem.Str := ["StowError", "BadName", "BadStanding", "Twice", "LETTERS", "LONGEST_NAME", "is_name", "ascending", "part_text", "text_of", "part_names", "need_all_names", "need_unlike", "Standing", "_law_pen", "_law_draw", "_law_pick", "_law_heard", "_law_mixed", "_law_names", "_law_drawn", "_law_near", "_law_made", "_law_word", "_law_text", "_law_told_right", "_law_is_under", "_law_beside_right", "_law_bent", "_law_is_part"]
def nms : List PySem.Str := nms0
end HeadH
open PySem PySem.W PySem.Calls PyProof.Rows
local macro_rules
  | `(tactic| o_head $H) => do
    let a := H.raw[1][1]
    let as : Lean.TSyntax `term := ⟨a[1]⟩
    let ob ← `(fun s => (List.map (HandSHeadRun.getT s) $as, List.map (HandSHeadRun.getT s) $(⟨a[3]⟩)))
    let (ho, run, hw, hc) := (Lean.mkIdent `ho, Lean.mkIdent `run, Lean.mkIdent `hw, Lean.mkIdent `hc)
    `(tactic| refine HandSHeadRun.head_any (r := OpenLaw.row PySem.Challenge.rw_loopstow_k19_standings) (q := view (OpenLaw.row PySem.Challenge.rw_loopstow_k19_standings).prog [32, 35, 36]) (H := $H) (ob := $ob) (M := 12000) (loose := HeadH.nms) (d := HandSHeadRun.topDef (OpenLaw.row PySem.Challenge.rw_loopstow_k19_standings).prog 36) (kwd := []) ?$ho (by kernel_rfl) (fun s => by kernel_rfl) ?$run (by kernel_rfl) (by kernel_rfl) (by kernel_rfl) (by rfl) (by first | assumption | decide +kernel) (by decide +kernel) ⟨rfl, rfl, rfl, rfl, rfl, by decide +kernel⟩ ?$hw ?$hc)
set_option maxRecDepth 100000 in
set_option maxHeartbeats 0 in
theorem PySem.Challenge.cw_loopstow_k19_standings_holds : PySem.Challenge.rw_loopstow_k19_standings.Holds := by
  w_on; o_law; k_head; (case ho => intro s; exact Prod.ext (congrArg (fun f => List.map f _) (funext fun a => HandSHeadRun.getT_eq s a)) (congrArg (fun f => List.map f _) (funext fun a => HandSHeadRun.getT_eq s a))); (case run => intro w os; kernel_rfl); (case hw => w_witness2)
  k_fill
  refine K19.walk (l := PySem.Challenge.rw_loopstow_k19_standings) rfl rfl (by decide +kernel) (fun w h Y => PySem.W.km_in_of Y) ?F
  case F =>
    intro w mg fa h KX G hmg ow
    refine' K19.all_mk KX G hmg ow ?b0 ?b1 ?b2 ?b3 ?b4 ?b5 ?b6 ?b7 ?b8 ?b9 ?b10 ?b11 ?b12 ?b13 ?b14 ?gL ?eL ?gN ?hn ?htk ?any_ ?top_ ?gCE ?eE1 ?eE2 ?eE3 ?gN_ ?xoN ?xrN ?saN ?beN ?tyN ?kpN ?inN ?tf_N ?lIN ?cIN ?kIN ?ceN ?coN ?v2N ?flN ?cd_N ?sbN ?svN ?fd_N ?noN_value ?suN ?xgN ?xkN ?hdN ?haN ?hmN ?gW_ ?xoW ?xrW ?saW ?beW ?tyW ?kpW ?inW ?tf_W ?lIW ?cIW ?kIW ?ceW ?coW ?v2W ?flW ?cd_W ?sbW ?svW ?fd_W ?noW_name ?suW ?xgW ?xkW ?hdW ?haW ?hmW ?gB_ ?xoB ?xrB ?saB ?beB ?tyB ?kpB ?inB ?tf_B ?lIB ?cIB ?kIB ?ceB ?coB ?v2B ?flB ?cd_B ?sbB ?svB ?fd_B ?noB_value ?suB ?xgB ?xkB ?hdB ?haB ?hmB ?kvN ?kNN_ ?kNW_ ?kNB_ ?kvW ?kWN_ ?kWW_ ?kWB_ ?kvB ?kBN_ ?kBW_ ?kBB_ ?gS_ ?pgS ?hdS ?poS ?saS ?nS_held ?nS_kept ?haS ?hmS ?mkS ?inS ?fnS ?kpS ?lSI ?cSI ?kSI ?lDT ?lD1 ?lD2 ?kSS ?kST ?kSP ?neS ?nfS ?nfT ?nfP ?sfS ?amE ?imE ?lmE ?cmE ?kmE ?amT ?imT ?lmT ?cmT ?kmT ?amL ?imL ?lmL ?cmL ?kmL ?amG ?imG ?lmG ?cmG ?kmG ?amO ?imO ?lmO ?cmO ?kmO ?amH ?imH ?lmH ?cmH ?kmH ?amI ?imI ?lmI ?cmI ?kmI ?amY ?imY ?lmY ?cmY ?kmY ?tmO ?pa_slots ?pg_slots ?pt_slots ?pr_slots ?lPslots ?cPslots ?kPslots ?pa_stored ?pg_stored ?pt_stored ?pr_stored ?lPstored ?cPstored ?kPstored ?pa_names ?pg_names ?pt_names ?pr_names ?lPnames ?cPnames ?kPnames ?tyS ?rdS ?gaS ?atR ?rcR ?fiR ?lR ?cR ?kR ?a_is_name ?l_is_name ?c_is_name ?k_is_name ?a_ascending ?l_ascending ?c_ascending ?k_ascending ?a_part_text ?l_part_text ?c_part_text ?k_part_text ?a_text_of ?l_text_of ?c_text_of ?k_text_of ?a_part_names ?l_part_names ?c_part_names ?k_part_names ?a_need_all_names ?l_need_all_names ?c_need_all_names ?k_need_all_names ?a_need_unlike ?l_need_unlike ?c_need_unlike ?k_need_unlike ?a__law_pen ?l__law_pen ?c__law_pen ?k__law_pen ?a__law_draw ?l__law_draw ?c__law_draw ?k__law_draw ?a__law_pick ?l__law_pick ?c__law_pick ?k__law_pick ?a__law_heard ?l__law_heard ?c__law_heard ?k__law_heard ?a__law_mixed ?l__law_mixed ?c__law_mixed ?k__law_mixed ?a__law_names ?l__law_names ?c__law_names ?k__law_names ?a__law_drawn ?l__law_drawn ?c__law_drawn ?k__law_drawn ?a__law_near ?l__law_near ?c__law_near ?k__law_near ?a__law_made ?l__law_made ?c__law_made ?k__law_made ?a__law_word ?l__law_word ?c__law_word ?k__law_word ?a__law_text ?l__law_text ?c__law_text ?k__law_text ?a__law_told_right ?l__law_told_right ?c__law_told_right ?k__law_told_right ?a__law_is_under ?l__law_is_under ?c__law_is_under ?k__law_is_under ?a__law_beside_right ?l__law_beside_right ?c__law_beside_right ?k__law_beside_right ?a__law_refused_right ?l__law_refused_right ?c__law_refused_right ?k__law_refused_right ?qo1 ?qp1 ?qr1 ?qs_1 ?qu1 ?qv_1 ?qw1 ?qx1 ?qn1 ?rc1 ?a__law_bent ?l__law_bent ?c__law_bent ?k__law_bent ?a__law_is_part ?l__law_is_part ?c__law_is_part ?k__law_is_part ?a__law_read_right ?l__law_read_right ?c__law_read_right ?k__law_read_right ?qo2 ?qp2 ?qr2 ?qs_2 ?qu2 ?qv_2 ?qw2 ?qx2 ?qn2 ?rc2 ?a_law ?l_law ?c_law ?k_law ?qne12
    (case b0 => k_is)
    (case b1 => k_is)
    (case b2 => k_is)
    (case b3 => k_is)
    (case b4 => k_is)
    (case b5 => k_is)
    (case b6 => k_is)
    (case b7 => k_is)
    (case b8 => k_is)
    (case b9 => k_is)
    (case b10 => k_is)
    (case b11 => k_is)
    (case b12 => k_is)
    (case b13 => k_is)
    (case b14 => k_is)
    (case gL => k_is)
    (case eL => decide +kernel)
    (case gN => k_is)
    (case hn => k_is)
    (case htk => k_is)
    (case any_ => k_is)
    (case top_ => decide +kernel)
    (case gCE => k_is)
    (case eE1 => k_is)
    (case eE2 => k_is)
    (case eE3 => k_is)
    (case gN_ => k_is)
    (case xoN => k_is)
    (case xrN => rfl)
    (case saN => k_is)
    (case beN => k_is)
    (case tyN => k_is)
    (case kpN => k_is)
    (case inN => k_is)
    (case tf_N => k_is)
    (case lIN => k_is)
    (case cIN => k_is)
    (case kIN => k_is)
    (case ceN => k_is)
    (case coN => k_is)
    (case v2N => rfl)
    (case flN => decide +kernel)
    (case cd_N => k_is)
    (case sbN => k_is)
    (case svN => k_is)
    (case fd_N => ks_is)
    (case noN_value => k_is)
    (case suN => k_is)
    (case xgN => k_is)
    (case xkN => k_is)
    (case hdN => k_is)
    (case haN => k_is)
    (case hmN => k_is)
    (case gW_ => k_is)
    (case xoW => k_is)
    (case xrW => rfl)
    (case saW => k_is)
    (case beW => k_is)
    (case tyW => k_is)
    (case kpW => k_is)
    (case inW => k_is)
    (case tf_W => k_is)
    (case lIW => k_is)
    (case cIW => k_is)
    (case kIW => k_is)
    (case ceW => k_is)
    (case coW => k_is)
    (case v2W => rfl)
    (case flW => decide +kernel)
    (case cd_W => k_is)
    (case sbW => k_is)
    (case svW => k_is)
    (case fd_W => ks_is)
    (case noW_name => k_is)
    (case suW => k_is)
    (case xgW => k_is)
    (case xkW => k_is)
    (case hdW => k_is)
    (case haW => k_is)
    (case hmW => k_is)
    (case gB_ => k_is)
    (case xoB => k_is)
    (case xrB => rfl)
    (case saB => k_is)
    (case beB => k_is)
    (case tyB => k_is)
    (case kpB => k_is)
    (case inB => k_is)
    (case tf_B => k_is)
    (case lIB => k_is)
    (case cIB => k_is)
    (case kIB => k_is)
    (case ceB => k_is)
    (case coB => k_is)
    (case v2B => rfl)
    (case flB => decide +kernel)
    (case cd_B => k_is)
    (case sbB => k_is)
    (case svB => k_is)
    (case fd_B => ks_is)
    (case noB_value => k_is)
    (case suB => k_is)
    (case xgB => k_is)
    (case xkB => k_is)
    (case hdB => k_is)
    (case haB => k_is)
    (case hmB => k_is)
    (case kvN => kit_is)
    (case kNN_ => kit_is)
    (case kNW_ => kit_is)
    (case kNB_ => kit_is)
    (case kvW => kit_is)
    (case kWN_ => kit_is)
    (case kWW_ => kit_is)
    (case kWB_ => kit_is)
    (case kvB => kit_is)
    (case kBN_ => kit_is)
    (case kBW_ => kit_is)
    (case kBB_ => kit_is)
    (case gS_ => k_is)
    (case pgS => k_is)
    (case hdS => k_is)
    (case poS => k_is)
    (case saS => k_is)
    (case nS_held => k_is)
    (case nS_kept => k_is)
    (case haS => k_is)
    (case hmS => k_is)
    (case mkS => k_is)
    (case inS => k_is)
    (case fnS => k_is)
    (case kpS => k_is)
    (case lSI => k_is)
    (case cSI => k_is)
    (case kSI => k_is)
    (case lDT => k_is)
    (case lD1 => k_is)
    (case lD2 => k_is)
    (case kSS => kit_is)
    (case kST => kit_is)
    (case kSP => kit_is)
    (case neS => k_is)
    (case nfS => k_is)
    (case nfT => k_is)
    (case nfP => k_is)
    (case sfS => k_is)
    (case amE => k_is)
    (case imE => k_is)
    (case lmE => k_is)
    (case cmE => k_is)
    (case kmE => k_is)
    (case amT => k_is)
    (case imT => k_is)
    (case lmT => k_is)
    (case cmT => k_is)
    (case kmT => k_is)
    (case amL => k_is)
    (case imL => k_is)
    (case lmL => k_is)
    (case cmL => k_is)
    (case kmL => k_is)
    (case amG => k_is)
    (case imG => k_is)
    (case lmG => k_is)
    (case cmG => k_is)
    (case kmG => k_is)
    (case amO => k_is)
    (case imO => k_is)
    (case lmO => k_is)
    (case cmO => k_is)
    (case kmO => k_is)
    (case amH => k_is)
    (case imH => k_is)
    (case lmH => k_is)
    (case cmH => k_is)
    (case kmH => k_is)
    (case amI => k_is)
    (case imI => k_is)
    (case lmI => k_is)
    (case cmI => k_is)
    (case kmI => k_is)
    (case amY => k_is)
    (case imY => k_is)
    (case lmY => k_is)
    (case cmY => k_is)
    (case kmY => k_is)
    (case tmO => k_is)
    (case pa_slots => k_is)
    (case pg_slots => k_is)
    (case pt_slots => k_is)
    (case pr_slots => k_is)
    (case lPslots => k_is)
    (case cPslots => k_is)
    (case kPslots => k_is)
    (case pa_stored => k_is)
    (case pg_stored => k_is)
    (case pt_stored => k_is)
    (case pr_stored => k_is)
    (case lPstored => k_is)
    (case cPstored => k_is)
    (case kPstored => k_is)
    (case pa_names => k_is)
    (case pg_names => k_is)
    (case pt_names => k_is)
    (case pr_names => k_is)
    (case lPnames => k_is)
    (case cPnames => k_is)
    (case kPnames => k_is)
    (case tyS => k_is)
    (case rdS => k_is)
    (case gaS => k_is)
    (case atR => k_is)
    (case rcR => k_is)
    (case fiR => k_is)
    (case lR => k_is)
    (case cR => k_is)
    (case kR => k_is)
    (case a_is_name => k_is)
    (case l_is_name => k_is)
    (case c_is_name => k_is)
    (case k_is_name => k_is)
    (case a_ascending => k_is)
    (case l_ascending => k_is)
    (case c_ascending => k_is)
    (case k_ascending => k_is)
    (case a_part_text => k_is)
    (case l_part_text => k_is)
    (case c_part_text => k_is)
    (case k_part_text => k_is)
    (case a_text_of => k_is)
    (case l_text_of => k_is)
    (case c_text_of => k_is)
    (case k_text_of => k_is)
    (case a_part_names => k_is)
    (case l_part_names => k_is)
    (case c_part_names => k_is)
    (case k_part_names => k_is)
    (case a_need_all_names => k_is)
    (case l_need_all_names => k_is)
    (case c_need_all_names => k_is)
    (case k_need_all_names => k_is)
    (case a_need_unlike => k_is)
    (case l_need_unlike => k_is)
    (case c_need_unlike => k_is)
    (case k_need_unlike => k_is)
    (case a__law_pen => k_is)
    (case l__law_pen => k_is)
    (case c__law_pen => k_is)
    (case k__law_pen => k_is)
    (case a__law_draw => k_is)
    (case l__law_draw => k_is)
    (case c__law_draw => k_is)
    (case k__law_draw => k_is)
    (case a__law_pick => k_is)
    (case l__law_pick => k_is)
    (case c__law_pick => k_is)
    (case k__law_pick => k_is)
    (case a__law_heard => k_is)
    (case l__law_heard => k_is)
    (case c__law_heard => k_is)
    (case k__law_heard => k_is)
    (case a__law_mixed => k_is)
    (case l__law_mixed => k_is)
    (case c__law_mixed => k_is)
    (case k__law_mixed => k_is)
    (case a__law_names => k_is)
    (case l__law_names => k_is)
    (case c__law_names => k_is)
    (case k__law_names => k_is)
    (case a__law_drawn => k_is)
    (case l__law_drawn => k_is)
    (case c__law_drawn => k_is)
    (case k__law_drawn => k_is)
    (case a__law_near => k_is)
    (case l__law_near => k_is)
    (case c__law_near => k_is)
    (case k__law_near => k_is)
    (case a__law_made => k_is)
    (case l__law_made => k_is)
    (case c__law_made => k_is)
    (case k__law_made => k_is)
    (case a__law_word => k_is)
    (case l__law_word => k_is)
    (case c__law_word => k_is)
    (case k__law_word => k_is)
    (case a__law_text => k_is)
    (case l__law_text => k_is)
    (case c__law_text => k_is)
    (case k__law_text => k_is)
    (case a__law_told_right => k_is)
    (case l__law_told_right => k_is)
    (case c__law_told_right => k_is)
    (case k__law_told_right => k_is)
    (case a__law_is_under => k_is)
    (case l__law_is_under => k_is)
    (case c__law_is_under => k_is)
    (case k__law_is_under => k_is)
    (case a__law_beside_right => k_is)
    (case l__law_beside_right => k_is)
    (case c__law_beside_right => k_is)
    (case k__law_beside_right => k_is)
    (case a__law_refused_right => k_is)
    (case l__law_refused_right => k_is)
    (case c__law_refused_right => k_is)
    (case k__law_refused_right => k_is)
    (case qo1 => k_is)
    (case qp1 => rfl)
    (case qr1 => rfl)
    (case qs_1 => rfl)
    (case qu1 => rfl)
    (case qv_1 => rfl)
    (case qw1 => rfl)
    (case qx1 => decide)
    (case qn1 => first | rfl | kernel_rfl)
    (case rc1 => decide +kernel)
    (case a__law_bent => k_is)
    (case l__law_bent => k_is)
    (case c__law_bent => k_is)
    (case k__law_bent => k_is)
    (case a__law_is_part => k_is)
    (case l__law_is_part => k_is)
    (case c__law_is_part => k_is)
    (case k__law_is_part => k_is)
    (case a__law_read_right => k_is)
    (case l__law_read_right => k_is)
    (case c__law_read_right => k_is)
    (case k__law_read_right => k_is)
    (case qo2 => k_is)
    (case qp2 => rfl)
    (case qr2 => rfl)
    (case qs_2 => rfl)
    (case qu2 => rfl)
    (case qv_2 => rfl)
    (case qw2 => rfl)
    (case qx2 => decide)
    (case qn2 => first | rfl | kernel_rfl)
    (case rc2 => decide +kernel)
    (case a_law => k_is)
    (case l_law => k_is)
    (case c_law => k_is)
    (case k_law => k_is)
    (case qne12 => decide)
end
