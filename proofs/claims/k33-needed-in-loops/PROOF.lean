import PyProof.Rows.All
import Wide.All
import OpenK.AllK
import Wide.FinOn
import KE.KSuper
import KE.KCallOwn
import HandS.ForMost
import HandS.ClsMeth
import HandS.OwnEq
import HandS.FStr
import HandS.IsInst
import HandS.Star
import HandS.SlotsOwn
import HandS.Defaults
import HandS.RaiseMore
import PyProof.NeKinds
import HandS.Walk
import KE.KFromBytes
import HandS.Exc
import HandS.ExcInit
import HandS.ExcSuper
import HandS.ExcIs
import KE.KExcIs
import HandS.ExcField
import HandS.ExcValue
import HandS.Lambda
import HandS.EndTab
import HandS.EndOwn
import HandS.Words
import HandS.WordsExc
import HandS.Dict
import HandS.Text
import PyProof.InstNe
import PyProof.ReprLen
import KE.KRevSl
import HandS.SetFor
import HandS.Style
import HandS.Set
import HandS.Strs
import HandS.SetKeys
import HandS.More
import HandS.Property
import HandS.List
import PyProof.P3Eq
import PyProof.FitsInt
import HandS.MakeKw
import KE.GoesMore
import KE.GoesEnum
import PyProof.EnumMake
import HandS.Iter
import HandS.Deep
import KE.KOpsOwn
import HandS.GenBody
import HandS.GenYield
import HandS.GenCall
import HandS.GenList
import HandS.Codes
import HandS.Zip
import HandS.Conv
import KE.KDictSum
import HandS.Flow
import HandS.TupAny
import HandS.DictComp
import HandS.WordsDict
import HandS.MakeKwOnly
import PySem.Challenge.RW_loopstow_k33_needed_in_loops
import KE.RegKSuper
import KE.RegKIsAll
import KE.KStateDown
import HandS.Head0
import HandS.Head1
import HandS.Head2
section
set_option Elab.async false
set_option linter.all false
set_option maxRecDepth 100000
set_option maxHeartbeats 4000000
/-! Own rules over the hand layer. -/
namespace Ls
open PySem PySem.Spec PyProof.Rows L2

/-! ### what a for walks: one of two kinds -/
theorem PI.or {X : Cx} {tg iter : Expr} {w1 w2 : TI} (h1 : PI X tg iter w1) (h2 : PI X tg iter w2) : PI X tg iter (fun σ H R => w1 σ H R ∨ w2 σ H R) :=
  ⟨fun pins s σ H R I h => h.elim (fun h => h1.run pins s σ H R I h) (fun h => h2.run pins s σ H R I h)⟩
/-- a list or a tuple -/
theorem pi_seq {X : Cx} {tg l : Expr} {tl : TE} (hl : PE X l tl) : PI X tg l (fun σ H R => iList X.K tl σ H R ∨ iTup X.K tl σ H R) := PI.or (pi_list hl) (pi_tup hl)

/-! ### f(k = v, ..), no positional argument -/
section
variable {X : Cx} {CX : CXT} {k : Nat} {f : Addr} {fd : FuncData} {ps ks : List Str} {sp : Sp} {E : XK} {x : Str} {p pos : Pos} {kws : List Keyword} {tk : TA} {g : List Value → List Value → List Value} {gV : List V → List V → List V}
theorem pe_callK0 (F : FnOk X.prog X.w X.K X.mg X.base CX k f fd ps sp) (hr : Room k X.A) (hg : Gl X x) (hm : X.mg x = some (.ref f)) (hk : PySem.W.keepIn X.K (.ref f) = true) (hb : KBn X.K fd ps 0 ks g gV) (hx : Passes CX X E)
    (hkw : PK X kws tk) (hall : (backToKw pos (keywordEach kws X.env)).all (·.1.isSome) = true := by rfl) (hks : (backToKw pos (keywordEach kws X.env)).filterMap (·.1) = ks := by rfl)
    (hdb : (x == ("__debug__" : Str)) = false := by decide)
    (hpl : ((backTo pos (starEach [] X.env)).any (·.1) || (backToKw pos (keywordEach kws X.env)).any (·.1.isNone)) = false := by rfl) :
    PE X (.Call (.Name x p) [] kws pos) (tCallN 0 ks.length sp gV E tNil tk) := by
  refine ⟨fun pins s σ H Q I h => ?_⟩
  refine wpAny_Call_Name_kw (ld_glob I hg hm ?_ hdb)
  refine PySem.W.callWith_KW0 (h₀ := X.base) I.ok.mod.kin hk hall ?_ hpl
  refine thn (hkw.run pos pins s σ H _ I h) fun ws s2 ⟨zs, H2, I2, rz, l1, l2, q2⟩ => ⟨I2.kIn, ?_⟩
  rw [hks]
  exact run_fnN (us := []) (vs := []) F hr hb hx I2 .nil rz l1 l2 q2
/-- one parameter, given by its name -/
theorem kbn_one {K : PySem.W.Frag} {x qual : Str} {st : Stmt} {f : Addr} {fd : FuncData} {a : Str} (F : Fun K x qual st f fd)
    (h : ∀ (kV doc pm : Value) (an : Option Addr) (cdv ct u : Value), bindArgs (PySem.W.fnOf x qual (defArgs st) (defBody st) (defScope st) .none kV doc pm an cdv ct) ⟨[], [(a, u)]⟩ = pure [(a, u)]) :
    KBn K fd [a] 0 [a] (fun _ ws => ws) (fun _ zs => zs) := by
  obtain ⟨oc, od, kV, doc, pm, an, cdv, ct, osl, rfl, lk, hcd⟩ := F.ex
  refine ⟨fun s us ws _ l1 l2 => ?_, fun _ r => r⟩
  match us, ws, l1, l2 with
  | [], [u], _, _ => exact .of_eq (h kV doc pm an cdv ct u)
end

/-! ### str(x), x an instance whose class has the text's own __str__ -/
def rStrOwn (K : PySem.W.Frag) (g : Addr) (sp : Sp) (E : XK) : List V → Hp → VK → Prop := fun xs H Q => ∃ a C dx fs, xs = [V.ref a] ∧ H a = some (.ins C dx fs) ∧ PySem.W.findIn K (.ref C) "__str__" = some (some (.ref g)) ∧ sp [.ref a] H (fun z H' => ∃ y, z = .str y ∧ Q z H') E
section
variable {X : Cx} {CX : CXT} {g : Addr} {n : Nat} {sp : Sp} {E : XK}
theorem call_strOwn (hf : PySem.W.isFn X.K (.ref g) = true) (F : FnR X.prog X.w X.K X.mg X.base CX n g sp) (hr : Room (n + 2) X.A) (hx : Passes CX X E) : CallR X (.type "str") (rStrOwn X.K g sp E) := by
  intro pins s σ H xs us Q I r h
  obtain ⟨a, C, dx, fs, rfl, ha, hs, q⟩ := h
  obtain ⟨u, rfl, ru⟩ := r.one
  cases (show u = Value.ref a from ru)
  obtain ⟨mA, O, _⟩ := ins_get I.hok ha
  obtain ⟨od, J, _⟩ := O.look
  have hr2 : Room n X.A.in1.in1 := (show Room (n + 1) X.A.in1 from Room.in1 hr).in1
  refine PySem.W.kso_call hr2.units0 I.kIn J hs hf (wpAny_mono (wpAny_call (SlX.run_at (us := [.ref a]) (ws := [.ref a]) F hr2 I.env0.in1.in1 hx I (.cons rfl .nil) q)) (fun w s' z => ?_) fun _ _ x => x)
  obtain ⟨z', H', I', rz, y, ey, qz⟩ := z
  subst ey
  obtain ⟨t, e⟩ := (show ∃ t, w = Value.str y t from rz)
  cases e
  exact ⟨.str y, H', I', ⟨t, rfl⟩, qz⟩
/-- .. the written part by its own name (for a block) -/
theorem call_strOwnK {P : Program} {w : World} {K : PySem.W.Frag} {mg : Str → Option Value} {base : Heap} (hf : PySem.W.isFn K (.ref g) = true) (F : FnR P w K mg base CX n g sp) {A : Around} (hr : Room (n + 2) A) (hP : X.prog = P) (hw : X.w = w) (hK : X.K = K) (hmg : X.mg = mg) (hb : X.base = base) (hA : X.A = A) (hx : Passes CX X E) :
    CallR X (.type "str") (rStrOwn K g sp E) := by
  subst hP hw hK hmg hb hA
  exact call_strOwn hf F hr hx
end
end Ls
end
section
set_option Elab.async false
set_option linter.all false
set_option maxRecDepth 100000
set_option maxHeartbeats 4000000
namespace Ls
open PySem PySem.Spec PyProof.Rows L2

/-! ### a def that closes over __class__, its first statement super().__init__(..) -/
structure ScS (N ps : List Str) (sc : Scope) : Prop where
  kind : sc.kind = .function
  co : sc.isCoroutine = false
  gen : sc.isGenerator = false
  nd : N.Nodup
  pre : N.take ps.length = ps
  par : ∀ x ∈ ps, sc.names.lookup x = some .local
  nocell : ∀ y ∈ sc.names, y.2 ≠ .cell
  free : ∀ y ∈ sc.names, y.2 = .free → y.1 = "__class__"

def cxS (CX : CXT) (P : Program) (w : World) (K : PySem.W.Frag) (mg : Str → Option Value) (base : Heap) (N : List Str) (qual : Str) (scope : Scope) (f : Addr) (cd : Value) (cc : Addr) (A : Around) (outer : List Env) (s : Shared) (H : Hp) (E : XK) : Cx where
  prog := P
  w := w
  K := K
  mg := mg
  base := base
  A := A.deeper (PySem.W.ksEnv qual scope s.heap.objs.size f cd cc)
  N := N
  s_0 := s
  H_0 := H
  env := PySem.W.ksEnv qual scope s.heap.objs.size f cd cc
  outer := outer
  stack := PySem.W.ksEnv qual scope s.heap.objs.size f cd cc :: outer
  ex := []
  calm := true
  fn := fun x => !(x == ("__class__" : Str))
  pn := []
  xe := fun e s' => wpAny (model P w) (A.deeper (PySem.W.ksEnv qual scope s.heap.objs.size f cd cc)) (leaving (PySem.W.ksEnv qual scope s.heap.objs.size f cd cc) e) (fun _ s'' => CX outer H s E e s'') (fun e' s'' => CX outer H s E e' s'') s'

theorem rev_lookup {x : Str} {v : Value} : ∀ {ps : List Str} {us : List Value} {i : Nat}, ps.Nodup → ps[i]? = some x → us[i]? = some v → (ps.zip us).reverse.lookup x = some v
  | [], _, _, _, h, _ => by simp at h
  | _ :: _, [], _, _, _, h => by simp at h
  | p :: ps, u :: us, 0, nd, h1, h2 => by
    simp at h1 h2
    subst h1; subst h2
    rw [List.zip_cons_cons, List.reverse_cons, List.lookup_append]
    have : (ps.zip us).reverse.lookup p = none := by
      rw [List.lookup_eq_none_iff]
      rintro ⟨a, b⟩ hm
      have hm' := List.mem_reverse.mp hm
      have ha := (List.of_mem_zip hm').1
      have : p ≠ a := fun e => (List.nodup_cons.mp nd).1 (e ▸ ha)
      simpa using this
    rw [this]
    simp [List.lookup]
  | p :: ps, u :: us, i + 1, nd, h1, h2 => by
    rw [List.zip_cons_cons, List.reverse_cons, List.lookup_append, rev_lookup (i := i) (List.nodup_cons.mp nd).2 (by simpa using h1) (by simpa using h2)]
    rfl

section
variable {CX : CXT} {P : Program} {w : World} {K : PySem.W.Frag} {mg : Str → Option Value} {base : Heap} {N ps : List Str} {qual : Str} {scope : Scope} {f cc : Addr} {cd : Value} {A : Around} {outer : List Env} {s : Shared} {H : Hp} {E : XK} {us : List Value} {vs : List V}

theorem inv_startS {h1 : Heap} {tk : Nat} {ocell : Obj} {vc : Option Value} (S : ScS N ps scope) (hd : A.handled = none) (e0 : Env0 P w K mg base A outer s H) (hl : vs.length = ps.length) (r : Vals vs us)
    (hcell : K.lookup cc = some ocell) (hcd : ocell.data = .cell vc)
    (hns : h1.Ns s.heap.objs.size (fun x => (ps.zip us).reverse.lookup x)) (hk : ∀ b o, s.heap.get? b = some o → h1.get? b = some o) :
    Inv (cxS CX P w K mg base N qual scope f cd cc A outer s H E) [] (start N vs) H { s with heap := h1, toks := tk } := by
  have hpl : ps.length ≤ N.length := by have := congrArg List.length S.pre; rw [List.length_take] at this; omega
  have hccb : base.get? cc = some ocell := e0.mod.kin _ _ hcell
  have lkc : ∀ x c, List.lookup x [(("__class__" : Str), cc)] = some c → x = "__class__" ∧ c = cc := fun x c e => by
    by_cases hx : x = "__class__"
    · subst hx
      simp [List.lookup] at e
      exact ⟨rfl, e.symm⟩
    · have : (x == ("__class__" : Str)) = false := by simpa using hx
      simp [List.lookup, this] at e
  have noA : ∀ b : Addr, b ∉ (cxS CX P w K mg base N qual scope f cd cc A outer s H E).ex := fun b z => absurd (show b ∈ ([] : List Addr) from z) (by simp)
  refine ⟨⟨e0.mod, S.kind, rfl, rfl, Nat.le_refl _, fun y z c q1 q2 => ?_, fun y hy => ?_, fun y c hfn h => ?_, fun _ => hd, Around.frames_deeper e0.frames, .inr ⟨rfl, rfl⟩, fun b z => absurd z (noA b), e0.bs, e0.bsz, fun b _ _ => noA b, fun b z => absurd z (noA b), e0.funs, e0.frf⟩,
    rfl, e0.bare, Un.kept hk, ⟨_, hns, fun i y v q1 q2 q3 => ?_⟩, fun y c h => ?_, e0.hok.fresh (Nat.le_refl _), fun y c h => ?_, fun p hp => absurd (show p ∈ ([] : List (Addr × Obj)) from hp) (by simp), e0.hok.kept hk, ?_⟩
  · rw [(lkc y c q1).1, (lkc z c q2).1]
  · have hy : scope.names.lookup y = some .cell ∨ scope.names.lookup y = some .free := hy
    rcases hy with hy | hy
    · exact absurd rfl (S.nocell _ (PySem.mem_of_lookup hy))
    · have e := S.free _ (PySem.mem_of_lookup hy) rfl
      have e' : y = "__class__" := e
      subst e'
      exact ⟨cc, by show List.lookup _ [_] = _; simp [List.lookup]⟩
  · have e := (lkc y c h).1
    subst e
    exact absurd (show (!(("__class__" : Str) == ("__class__" : Str))) = true from hfn) (by simp)
  · have hi : i < vs.length := by
      unfold L2.start at q2
      by_cases hi : i < vs.length
      · exact hi
      · rw [List.getElem?_append_right (by simpa using hi)] at q2
        rw [List.getElem?_replicate] at q2
        split at q2 <;> cases q2
    have ha : vs[i]? = some v := by
      unfold L2.start at q2
      rw [List.getElem?_append_left (by simpa using hi), List.getElem?_map] at q2
      cases e : vs[i]? with
      | none => rw [e] at q2; cases q2
      | some a => rw [e] at q2; cases q2; rfl
    obtain ⟨u, hu, rv⟩ := r.get ha
    have hp : ps[i]? = some y := by
      rw [← S.pre, List.getElem?_take_of_lt (by omega)]; exact q1
    have ndP : ps.Nodup := by rw [← S.pre]; exact S.nd.sublist (List.take_sublist _ _)
    exact ⟨u, rv, .inl ⟨S.par y (List.mem_of_getElem? hp), rev_lookup ndP hp hu⟩⟩
  · obtain ⟨_, e⟩ := lkc y c h
    subst e
    exact ⟨vc, ocell, hk _ _ (e0.bs _ _ hccb).1, hcd⟩
  · obtain ⟨_, e⟩ := lkc y c h
    subst e
    exact (e0.bs _ _ hccb).2
  · unfold L2.start
    show _ = N.length
    rw [List.length_append, List.length_map, List.length_replicate]
    omega
end

/-- what the written part says for super().__init__ in a def of the class at D, of an instance of the class at C -/
structure SupT (P : Program) (K : PySem.W.Frag) (mg : Str → Option Value) (C D cc cda : Addr) (m : Str) (f2 : Addr) : Prop where
  cell : ∃ cl cld csl, K.lookup cc = some ⟨cl, cld, .cell (some (.ref D)), csl⟩
  code : ∃ ccl cdd vs ccs file tf, K.lookup cda = some ⟨ccl, cdd, .fields vs, ccs⟩ ∧ vs[2]? = some (.str file tf) ∧ ((P.main.file : Str) == file) = true
  clD : ∃ cdD, PySem.W.clsIn K D = some cdD
  sub : PySem.W.mroIn K C (.ref D) = some true
  sup : mg "super" = none
  top : (P.main.scope.names.lookup ("super" : Str)).isSome = false
  any : PySem.W.nsIn K cStatics "thirdparty.any" = some none
  fnd : PySem.W.ks_superIn K C D m = some (some (.ref f2))
  ty : PySem.W.typeIn K (.ref f2) = some (.type "function")
  fi : PySem.W.fnIn K f2 = true

section
variable {CX : CXT} {P : Program} {w : World} {K : PySem.W.Frag} {mg : Str → Option Value} {base : Heap} {k : Nat} {f cc cda : Addr} {name qual : Str} {params : Arguments} {scope : Scope} {dV kV doc pm ct oc : Value} {an od : Option Addr}
    {osl : Array (Option Value)} {N ps : List Str} {sp : Sp} {e : PySem.Expr} {es : List PySem.Expr} {rest : List Stmt} {m : Str} {p0 p1 apos pos epos : Pos} {pl : Sem Bool}
theorem fn_super (lk : K.lookup f = some ⟨oc, od, .func (PySem.W.ksFn name qual params (.Expr (.Call (.Attribute (.Call (.Name "super" p0) [] [] p1) m apos) (e :: es) [] pos) epos :: rest) scope dV kV doc pm an (.ref cda) ct cc), osl⟩)
    (hcd : PySem.W.codeIn K (.ref cda) qual = true) (S : ScS N ps scope)
    {ar : Arg} (hp0 : (params.posonlyargs ++ params.args).head? = some ar) (hps : ps.head? = some ar.arg) (hN0 : N.head? = some ar.arg) (har : scope.names.lookup ar.arg = some .local)
    (hks : scope.names.lookup ("super" : Str) = some .globalImplicit) (hkc : scope.names.lookup ("__class__" : Str) = some .free) (hmc : (m == ("__class__" : Str)) = false)
    (len : ∀ vs H Q E, sp vs H Q E → vs.length = ps.length)
    (hbody : ∀ (A : Around) (outer : List Env) (s : Shared) (H : Hp) (vs : List V) (Q : VK) (E : XK), Room k (A.deeper (PySem.W.ksEnv qual scope s.heap.objs.size f (.ref cda) cc)) → sp vs H Q E →
      ∃ (x C D dx f2 : Addr) (fs : List (Str × V)) (vs' : List V) (ta : TA) (u : TS) (spM : Sp) (CX' : CXT) (E' : XK), vs = .ref x :: vs' ∧ H x = some (.ins C dx fs) ∧ SupT P K mg C D cc cda m f2 ∧
        PA (cxS CX P w K mg base N qual scope f (.ref cda) cc A outer s H E) (e :: es) ta ∧ FnR P w K mg base CX' k f2 spM ∧ Passes CX' (cxS CX P w K mg base N qual scope f (.ref cda) cc A outer s H E) E' ∧
        PSs (cxS CX P w K mg base N qual scope f (.ref cda) cc A outer s H E) rest u ∧
        ta (start N vs) H (fun ws H1 => spM (.ref x :: ws) H1 (fun _ H2 => u { nx := fun _ H' => Q .non H', rt := Q } (start N vs) H2) E'))
    (hi : ∀ L, interactive (PySem.W.ksEnv qual scope L f (.ref cda) cc) = false) (hsw : ∀ L, swapsWith (.Call (.Attribute (.Call (.Name "super" p0) [] [] p1) m apos) (e :: es) [] pos) none epos.line (PySem.W.ksEnv qual scope L f (.ref cda) cc) = pure false)
    (he : ∀ L, eval (.Call (.Attribute (.Call (.Name "super" p0) [] [] p1) m apos) (e :: es) [] pos) (PySem.W.ksEnv qual scope L f (.ref cda) cc) = (do
      let ov ← attributeBase (.Call (.Name "super" p0) [] [] p1) m (PySem.W.ksEnv qual scope L f (.ref cda) cc) (eval (.Call (.Name "super" p0) [] [] p1) (PySem.W.ksEnv qual scope L f (.ref cda) cc))
      standAt apos.atName
      let (fn, first) ← holding [ov] (getMethod ov m pl)
      callWith pos fn first (backTo pos (starEach (e :: es) (PySem.W.ksEnv qual scope L f (.ref cda) cc))) []))
    (hst : ∀ L, starEach (e :: es) (PySem.W.ksEnv qual scope L f (.ref cda) cc) = (false, eval e (PySem.W.ksEnv qual scope L f (.ref cda) cc)) :: starEach es (PySem.W.ksEnv qual scope L f (.ref cda) cc))
    (hpl : ∀ L, (backTo pos (starEach es (PySem.W.ksEnv qual scope L f (.ref cda) cc))).any (·.1) = false) :
    FnOk P w K mg base CX (k + 1) f (PySem.W.ksFn name qual params (.Expr (.Call (.Attribute (.Call (.Name "super" p0) [] [] p1) m apos) (e :: es) [] pos) epos :: rest) scope dV kV doc pm an (.ref cda) ct cc) ps sp := by
  refine ⟨len, fun A outer s H args us vs Q E hr e0 hb r hsp => ?_⟩
  have hl := len _ _ _ _ hsp
  have KX : K.In s.heap := e0.mod.kin.keeps fun b o e => (e0.bs b o e).1
  have lim : s.heap.NoLimit := e0.mod.nolimit.keeps fun b o e => (e0.bs b o e).1
  obtain ⟨x, C, D, dx, f2, fs, vs', ta, u, spM, CX', E', rfl, hx, T, hta, FM, hpx, hrest, hq⟩ := hbody A outer s H vs Q E (hr.deeper _) hsp
  obtain ⟨cl, cld, csl, hcell⟩ := T.cell
  obtain ⟨ccl, cdd, cvs, ccs, file, tf, hcode, hvs, hfile⟩ := T.code
  obtain ⟨cdD, hD⟩ := T.clD
  refine PySem.ks_codeAny_call_defAt (binds := ps.zip us) hr.depth (KX _ _ lk) rfl lim (PySem.W.codeRec_of KX hcd) rfl hb S.nocell (fun y hy => S.par y.1 (List.of_mem_zip hy).1) (fun h1 hns hk => ?_) S.co S.gen S.kind
  have I : Inv (cxS CX P w K mg base N qual scope f (.ref cda) cc A outer s H E) [] (start N (.ref x :: vs')) H { s with heap := h1, toks := s.toks + (ps.zip us).length } :=
    inv_startS (vs := .ref x :: vs') S hr.hd e0 hl r hcell rfl hns hk
  have hX : K.In h1 := I.kIn
  obtain ⟨mA, O, _⟩ := ins_get I.hok hx
  obtain ⟨odx, J, _⟩ := O.look
  obtain ⟨oD, hD1, hD2⟩ : ∃ oD, h1.get? D = some oD ∧ oD.data = .cls cdD := by
    unfold PySem.W.clsIn at hD
    split at hD
    · rename_i c d cd' sl ho
      cases hD
      exact ⟨_, hX _ _ ho, rfl⟩
    · cases hD
  have hbase : ∀ b o, s.heap.get? b = some o → h1.get? b = some o := hk
  refine PySem.ks_wpAt_execs_cons (PySem.ks_wpAt_Expr_any (PySem.ks_wpAt_MethodCall (pl := pl) ?_ (he _)) (hi _) (hsw _))
  refine PySem.ks_wpAt_super_base (env := PySem.W.ksEnv qual scope s.heap.objs.size f (.ref cda) cc) hks hkc hmc rfl (hX _ _ lk) rfl hp0 rfl (hX _ _ hcode) rfl hvs hfile T.top ?_
  obtain ⟨mb, hb1, hb2⟩ := I.mod.blt
  refine PySem.W.ks_loadName_global S.kind hks (Calls.loadGlobal_builtin (env := PySem.W.ksEnv qual scope s.heap.objs.size f (.ref cda) cc) (I.mod.glob.keeps I.bk) T.sup (hb1.keeps I.bk) ((hb2 _ (by decide +kernel)).trans (show bootBuiltins "super" = some (.type "super") by first | rfl | kernel_rfl)) ⟨rfl, ?_⟩)
  refine wpAny_loadName_free S.kind hkc (by show List.lookup _ [_] = _; simp [List.lookup]) ⟨_, hX _ _ hcell, rfl⟩ ?_
  have hself : (ps.zip us).reverse.lookup ar.arg = some (.ref x) := by
    match ps, us, hps, r with
    | p :: ps', u' :: us', hp', .cons ru _ =>
      have hp'' : p = ar.arg := by simpa using hp'
      subst hp''
      cases (show u' = Value.ref x from ru)
      have ndP : (ar.arg :: ps').Nodup := by
        have := S.pre
        rw [← this]
        exact S.nd.sublist (List.take_sublist _ _)
      exact rev_lookup (i := 0) ndP rfl rfl
  refine wpAny_loadName_local S.kind har hns hself ?_
  refine PySem.ks_wpAny_isType_cls hD1 hD2 ⟨rfl, ?_⟩
  refine PySem.ks_wpAny_call_super hD1 hD2 J.at_ J.cls (fun c e => ?_) (PySem.W.looks_mroIn hX T.sub) (fun h' hso k' => ?_)
  · have := J.no
    unfold PySem.W.notCls at this
    rw [e] at this
    exact Bool.noConfusion this
  -- the super object is pinned
  have I1 : Inv (cxS CX P w K mg base N qual scope f (.ref cda) cc A outer s H E) [(h1.objs.size, PySem.W.ks_superObj D x C)] (start N (.ref x :: vs')) H { s with heap := h', toks := s.toks + (ps.zip us).length } :=
    ClX.pin_new (s := { s with heap := h1, toks := s.toks + (ps.zip us).length }) (t' := s.toks + (ps.zip us).length) I k' (Nat.le_refl _) hso (fun v z => nomatch z)
  have hX' : K.In h' := I1.kIn
  have fnd := T.fnd
  cases hc : PySem.W.clsIn K C with
  | none => unfold PySem.W.ks_superIn at fnd; rw [hc] at fnd; cases fnd
  | some cdC =>
    unfold PySem.W.ks_superIn at fnd
    rw [hc] at fnd
    obtain ⟨of, hof, hofc⟩ : ∃ of, h'.get? f2 = some of ∧ of.cls = .type "function" := by
      have ht' : (K.lookup f2).map (·.cls) = some (.type "function") := T.ty
      cases z : K.lookup f2 with
      | none => rw [z] at ht'; cases ht'
      | some of => rw [z] at ht'; exact ⟨of, hX' _ _ z, Option.some.inj ht'⟩
    refine PySem.ks_wpAny_getMethod_super (h := h') hso (PySem.W.looks_opaque hX' T.any) (l₀ := cdC.mro) ?_ rfl hX' fnd hof hofc (PySem.W.ks_ne hX J hc) hmc ?_
    · exact fun A Q E s k q => wpAny_bind ((PySem.W.looks_clsIn hX' hc) A _ E s k (wpAny_pure q))
    · have I2 := ClX.pin_new (s := { s with heap := h', toks := s.toks + (ps.zip us).length }) (o := PySem.W.methodObj (.ref f2) (.ref x)) (t' := s.toks + (ps.zip us).length + 1) I1 (fun _ _ z => Heap.get?_push_of_some _ z) (Nat.le_refl _) (Heap.get?_push_size h' rfl) (fun v z => nomatch z)
      refine ClX.callwith_cm (X := cxS CX P w K mg base N qual scope f (.ref cda) cc A outer s H E) I2 (ClX.base_none I1 (Nat.le_refl _)) T.fi (thn (hta.run pos _ _ _ H _ I2 hq) fun us2 s3 ⟨ws, H2, I3, rv, q2⟩ => ⟨⟨ClX.pin_at I3, I3.kIn⟩, ?_⟩) (hst _) (hpl _)
      refine thn (ClX.run_cm FM (hr.deeper _) hpx I3 rv q2) fun v s4 h4 => ?_
      obtain ⟨v4, H4, I4, _, q4⟩ := ClX.unpinE h4
      refine wpAt_of_wpAny (wpAny_mono (hrest.run [] s4 _ H4 _ I4 q4) (fun fl s' hs => ?_) fun e s' hs => hs)
      have fin : ∀ {σ' : L2.St} {H' : Hp} {v : V} {u : Value}, Inv (cxS CX P w K mg base N qual scope f (.ref cda) cc A outer s H E) [] σ' H' s' → RelV v u → Q v H' → CE outer P w H s Q u s' :=
        fun {σ' H' v u} J rv q => ⟨v, H', J.os, J.bare, J.base, J.hok, rv, q⟩
      cases fl with
      | ret u =>
        obtain ⟨v, σ', H', J, rv, q⟩ := hs
        exact fin J rv q
      | next =>
        obtain ⟨σ', H', J, q⟩ := hs
        exact fin (v := V.non) (u := Value.none) J rfl q
      | brk =>
        obtain ⟨_, _, _, q⟩ := hs
        exact False.elim q
      | cont =>
        obtain ⟨_, _, _, q⟩ := hs
        exact False.elim q
end
end Ls
end
section
set_option Elab.async false
set_option linter.all false
set_option maxRecDepth 100000
set_option maxHeartbeats 4000000
namespace LsN
open PySem PySem.SeqAt
open AutoSeq1 (wpAny_loadPart')
open MeetsSeq MeetsSeq2 MeetsSeq3 SeqRoads2
section
variable {prog : Program} {w : World} {A : Around} {R : Result → Shared → Prop}
theorem ne_loopG (l b : Addr) (N : Nat) (I : Nat → Shared → Prop) (hl : GQ.ListI prog w A (fun e s' => R (.error e) s') l b N I)
    (fin : ∀ s, I N s → R (.ok (.ret (.bool false))) s) (k : Nat) :
    ∀ i : Nat, N - i = k → i ≤ N → ∀ s, I i s →
      wpAny (model prog w) A.in1 (Builtin.«list.__eq__.loop» ⟨[.ref l, .ref b, rawInt i, rawInt 3], []⟩) (GQ.FinOf prog w A R) (fun e s' => R (.error e) s') s := by
  induction k with
  | zero =>
    intro i hk hi s h
    obtain ⟨items, items2, n, n2, hl1, hb1, hs1, hs2, _⟩ := hl _ _ h
    have hi' : i = N := by omega
    have hR : R (.ok (.ret (.bool false))) s := fin s (hi' ▸ h)
    obtain ⟨hp, g, d, tk, os⟩ := s
    wp_walk using wpAny_loadPart' hl1, wpAny_loadPart' hb1
    have hi1 : items[((i : Nat) : Int).toNat]? = none := by simp; omega
    have hi2 : items2[((i : Nat) : Int).toNat]? = none := by simp; omega
    rw [hi1, hi2]
    wp_walk using wpAny_loadPart' hl1, wpAny_loadPart' hb1
    show R (.ok (.ret (.bool (items.size != items2.size)))) _
    rw [hs1, hs2]
    simpa using hR
  | succ k ih =>
    intro i hk hi s h
    obtain ⟨items, items2, n, n2, hl1, hb1, hs1, hs2, turn⟩ := hl _ _ h
    have hlt : i < items.size := by omega
    have hlt2 : i < items2.size := by omega
    have ht := turn hlt hlt2
    obtain ⟨hp, g, d, tk, os⟩ := s
    wp_walk using wpAny_loadPart' hl1, wpAny_loadPart' hb1
    have hi1 : items[((i : Nat) : Int).toNat]? = some items[i] := by simp [hlt]
    have hi2 : items2[((i : Nat) : Int).toNat]? = some items2[i] := by simp [hlt2]
    have hc : ((i : Int) + 1) = ((i + 1 : Nat) : Int) := by omega
    rw [hi1, hi2]
    refine wpAny_bind (wpAny_mono ht (fun r s2 h2 => ?_) fun _ _ x => x)
    obtain ⟨hr, h2⟩ := h2
    subst hr
    have hrec := ih (i + 1) (by omega) (by omega) s2 h2
    obtain ⟨hp2, g2, d2, tk2, os2⟩ := s2
    wp_walk
    rw [hc]
    exact ⟨plainId_quiet plain_eq_loop _, codeAny_builtin entry_eq_loop (by
      rw [Around.under_plainId plain_eq_loop _]
      exact hrec)⟩
theorem list_neG (l b : Addr) (N : Nat) (I : Nat → Shared → Prop) (hl : GQ.ListI prog w A (fun e s' => R (.error e) s') l b N I)
    (fin : ∀ s, I N s → R (.ok (.ret (.bool false))) s) {s : Shared} (h : I 0 s) :
    wpAny (model prog w) A.in1 (Builtin.«list.__ne__» ⟨[.ref l, .ref b], []⟩) (GQ.FinOf prog w A R) (fun e s' => R (.error e) s') s := by
  obtain ⟨items, items2, n, n2, hl1, hb1, hs1, hs2, _⟩ := hl _ _ h
  have hrec := ne_loopG (A := A) (R := R) l b N I hl fin _ 0 rfl (Nat.zero_le _) s h
  obtain ⟨hp, g, d, tk, os⟩ := s
  have f3 := AutoSeq1.sub_list_list
  have hne : ¬ (items.size != items2.size) = true := by simp [hs1, hs2]
  wp_walk using wpAny_loadPart' hl1, wpAny_loadPart' hb1
  exact ⟨plainId_quiet plain_eq_loop _, codeAny_builtin entry_eq_loop (by
    rw [Around.under_plainId plain_eq_loop _]
    exact hrec)⟩
end
section
variable {prog : Program} {w : World} {A : Around} {E : Value → Shared → Prop} {s : Shared}
theorem rc_listNe {l b : Addr} {N : Nat} {Q : Value → Shared → Prop} (hu : A.units < cLine) (I : Nat → Shared → Prop) (hl : GQ.ListI prog w A E l b N I)
    (fin : ∀ s, I N s → Q (.bool false) s) (h : I 0 s) : wpAny (model prog w) A (richCompare .NotEq (.ref l) (.ref b)) Q E s := by
  obtain ⟨items, items2, n, n2, hl1, hb1, _, _, _⟩ := hl _ _ h
  refine wpAny_richCompare_same_room (op := .NotEq) ⟨_, hl1, rfl⟩ ⟨_, hb1, rfl⟩ F.slot_list_ne (GQ.call_here F.slot_list_ne ⟨_, hl1, rfl⟩ F.entry_list_ne (F.args_list_ne_2 _ _) ?_) hu
  exact list_neG (R := wants (fun v s' => v ≠ .notImplemented ∧ Q v s') E) l b N I hl (fun s' q => ⟨(fun x => nomatch x), fin s' q⟩) h
end
end LsN
namespace Ls
open PySem PySem.Spec PyProof.Rows L2
section
variable {X : Cx} {n : Nat} {D : Eqv}
/-- x != y of two lists whose items are equal (by ==, which only makes objects): False -/
def rNeG (D : Eqv) : R2 := fun x y H Q => DList D x y H ∧ ∀ H', Ext H H' → Q (.bl false) H'
theorem op_neG (hD : Mon D) (h : EqG X n D) (hr : Room (n + 1) X.A) : OpR X (compareOp .NotEq) (rNeG D) := by
  intro pins s σ H x y v u Q I rx ry hq
  obtain ⟨⟨a, b, xs, ys, rfl, rfl, ha, hb, p⟩, q⟩ := hq
  cases (show v = Value.ref a from rx)
  cases (show u = Value.ref b from ry)
  show wpAny (model X.prog X.w) X.A (richCompare .NotEq (.ref a) (.ref b)) (EP X pins σ Q) X.xe s
  have sb : L2.Sub X (n + 1) X.A := ⟨hr, rfl⟩
  refine LsN.rc_listNe (N := xs.length) hr.units0 (fun _ s' => LoopI X pins σ H s') (fun i s' q => ?_) (fun s' q' => ?_) ⟨H, I, Ext.rfl'⟩
  · obtain ⟨H1, I1, e1⟩ := id q
    obtain ⟨z, its, k, r, e⟩ := I1.hok a _ (e1 _ _ ha)
    obtain ⟨z2, its2, k2, r2, e2⟩ := I1.hok b _ (e1 _ _ hb)
    refine ⟨its.toArray, its2.toArray, k, k2, e, e2, by rw [List.size_toArray, ← r.length], by rw [List.size_toArray, ← r2.length, ← p.1], fun h1 h2 => ?_⟩
    exact turnG hD h sb p r r2 i h1 h2 s' q
  · obtain ⟨H', I', e'⟩ := q'
    exact ⟨.bl false, H', I', rfl, q H' e'⟩
end
end Ls
end
section
set_option Elab.async false
set_option linter.all false
set_option maxRecDepth 100000
set_option maxHeartbeats 4000000
namespace Ls
open PySem PySem.Spec PyProof.Rows L2

/-! ### callees in one word -/
section
variable (P : Program) (w : World) (K : PySem.W.Frag) (mg : Str → Option Value) (base : Heap) (CX : CXT) (k : Nat)
/-- the def under the module's name x keeps sp -/
structure Cal (x : Str) (sp : Sp) : Prop where
  ex : ∃ f, mg x = some (.ref f) ∧ PySem.W.keepIn K (.ref f) = true ∧ FnR P w K mg base CX k f sp
/-- .. called with one keyword -/
structure CalK (x a : Str) (sp : Sp) : Prop where
  ex : ∃ f fd, mg x = some (.ref f) ∧ PySem.W.keepIn K (.ref f) = true ∧ KBn K fd [a] 0 [a] (fun _ ws => ws) (fun _ zs => zs) ∧ FnOk P w K mg base CX k f fd [a] sp
/-- the class at C under the module's name x; its __init__ keeps sp -/
structure Mkc (C : Addr) (x : Str) (sp : Sp) : Prop where
  ex : ∃ f, mg x = some (.ref C) ∧ Mk K C f ∧ FnR P w K mg base CX k f sp
/-- the classmethod m of the class at C keeps sp -/
structure Clm (C : Addr) (m : Str) (sp : Sp) : Prop where
  ex : ∃ mc p g, ClX.CRead K C mc ∧ ClX.CMet K C mc m p g ∧ FnR P w K mg base CX k g sp
end
def tCl (sp : Sp) (E : XK) (t : TA) : TE := fun σ H Q => t σ H fun vs H1 => sp vs H1 Q E
section
variable {X : Cx} {CX : CXT} {k : Nat} {C : Addr} {sp : Sp} {E : XK} {x m a : Str} {p pos apos : Pos} {e o : PySem.Expr} {es : List PySem.Expr} {kws : List Keyword} {ta : TE} {t tk : TA} {pl : Sem Bool}
theorem pe_cal (c : Cal X.prog X.w X.K X.mg X.base CX k x sp) (hr : Room k X.A) (hg : Gl X x) (hx : Passes CX X E) (ha : PA X (e :: es) t) (hd : (x == ("__debug__" : Str)) = false := by decide)
    (he : starEach (e :: es) X.env = (false, eval e X.env) :: starEach es X.env := by rfl) (hpl : (backTo pos (starEach es X.env)).any (·.1) = false := by rfl) :
    PE X (.Call (.Name x p) (e :: es) [] pos) (tCl sp E t) := by
  obtain ⟨f, hm, hk, F⟩ := c.ex
  refine ⟨fun pins s σ H Q I h => ?_⟩
  refine wpAny_Call_Name_kw (ld_glob I hg hm ?_ hd)
  refine PySem.W.callWith_K (h₀ := X.base) I.ok.mod.kin hk (thn (ha.run pos pins s σ H _ I h) fun us s1 ⟨vs, H1, I1, r, q⟩ => ⟨I1.kIn, ?_⟩) he hpl
  exact wpAny_call (run_fnR F hr hx I1 r q)
theorem pe_calk (c : CalK X.prog X.w X.K X.mg X.base CX k x a sp) (hr : Room k X.A) (hg : Gl X x) (hx : Passes CX X E)
    (hkw : PK X kws tk) (hall : (backToKw pos (keywordEach kws X.env)).all (·.1.isSome) = true := by rfl) (hks : (backToKw pos (keywordEach kws X.env)).filterMap (·.1) = [a] := by rfl)
    (hdb : (x == ("__debug__" : Str)) = false := by decide)
    (hpl : ((backTo pos (starEach [] X.env)).any (·.1) || (backToKw pos (keywordEach kws X.env)).any (·.1.isNone)) = false := by rfl) :
    PE X (.Call (.Name x p) [] kws pos) (tCallN 0 1 sp (fun _ zs => zs) E tNil tk) := by
  obtain ⟨f, fd, hm, hk, hb, F⟩ := c.ex
  exact pe_callK0 F hr hg hm hk hb hx hkw hall hks hdb hpl
theorem pe_mkc (c : Mkc X.prog X.w X.K X.mg X.base CX k C x sp) (hr : Room (k + 1) X.A) (hg : Gl X x) (hx : Passes CX X E) (ha : PA X (e :: es) t) (hdb : (x == ("__debug__" : Str)) = false := by decide)
    (he : starEach (e :: es) X.env = (false, eval e X.env) :: starEach es X.env := by rfl) (hpl : (backTo pos (starEach es X.env)).any (·.1) = false := by rfl) :
    PE X (.Call (.Name x p) (e :: es) [] pos) (StX.tMakeR C sp E t) := by
  obtain ⟨f, hm, M, F⟩ := c.ex
  exact StX.pe_makeR M F hr hg hm hx ha hdb he hpl
theorem pe_clm (c : Clm X.prog X.w X.K X.mg X.base CX k C m sp) (hr : Room k X.A) (ho : PE X o ta) (hx : Passes CX X E) (ha : PA X (e :: es) t)
    (hst : starEach (e :: es) X.env = (false, eval e X.env) :: starEach es X.env := by rfl) (hpl : (backTo pos (starEach es X.env)).any (·.1) = false := by rfl)
    (ht : eval (.Call (.Attribute o m apos) (e :: es) [] pos) X.env = (do
      let ov ← eval o X.env
      standAt apos.atName
      let (f, first) ← holding [ov] (getMethod ov m pl)
      callWith pos f first (backTo pos (starEach (e :: es) X.env)) (backToKw pos (keywordEach [] X.env))) := by rfl) :
    PE X (.Call (.Attribute o m apos) (e :: es) [] pos) (ClX.tCMeth C sp E ta t) := by
  obtain ⟨mc, p, g, r, c, F⟩ := c.ex
  exact ClX.pe_cmeth (pl := pl) ho r c F hr hx ha hst hpl ht
end

theorem iteNo {c : Bool} {A B : Prop} (hc : c = false) (h : B) : if c = true then A else B := by rw [hc, if_neg Bool.false_ne_true]; exact h
theorem strNo {a b : Str} (h : ¬ a = b) : decide (V.str a = V.str b) = false := decide_eq_false fun e => h (V.str.inj e)
theorem iteYes {c : Bool} {A B : Prop} (hc : c = true) (h : A) : if c = true then A else B := by rw [hc, if_pos rfl]; exact h
/-! ### constants of the module -/
section
variable {X : Cx} {x z : Str} {i : Int} {tk : Tok} {a : Addr} {pos : Pos}
theorem pe_gstr (hg : Gl X x) (hm : X.mg x = some (.str z tk)) (hd : (x == ("__debug__" : Str)) = false := by decide) : PE X (.Name x pos) (tC (.str z)) := pe_glob hg hm ⟨_, rfl⟩ hd
theorem pe_gint (hg : Gl X x) (hm : X.mg x = some (.int i tk)) (hd : (x == ("__debug__" : Str)) = false := by decide) : PE X (.Name x pos) (tC (.int i)) := pe_glob hg hm ⟨_, rfl⟩ hd
theorem pe_gref (hg : Gl X x) (hm : X.mg x = some (.ref a)) (hd : (x == ("__debug__" : Str)) = false := by decide) : PE X (.Name x pos) (tC (.ref a)) := pe_glob hg hm rfl hd
theorem pe_gty {T : String} (hg : Gl X x) (hm : X.mg x = none) (hv : bootBuiltins x = some (.type T)) (hn : x ≠ "__name__" := by decide) (hd : (x == ("__debug__" : Str)) = false := by decide) : PE X (.Name x pos) (tC (.ty T)) := pe_bltn hg hm hv rfl hn hd
end

/-! ### what a dict's table says behind a store -/
theorem len_put {κ : Type} [DecidableEq κ] {kvs : List (κ × V)} {k : κ} {x v : V} (h : valV kvs k = some x) : (putK kvs k v).length = kvs.length := by
  unfold putK
  rw [valV_any, h]
  simp
theorem val_same {κ : Type} [DecidableEq κ] {kvs : List (κ × V)} {k : κ} {v : V} : valV (putK kvs k v) k = some v := by rw [valV_put, if_pos rfl]
theorem val_other {κ : Type} [DecidableEq κ] {kvs : List (κ × V)} {k j : κ} {v : V} {r : Option V} (hne : ¬ j = k) (h : valV kvs j = r) : valV (putK kvs k v) j = r := by rw [valV_put, if_neg hne]; exact h

/-! ### heaps that keep all but two objects -/
def Keep (p c : Addr) (H H' : Hp) : Prop := ∀ b o, H b = some o → b ≠ p → b ≠ c → H' b = some o
theorem Keep.refl {p c : Addr} {H : Hp} : Keep p c H H := fun _ _ e _ _ => e
theorem Keep.trans {p c : Addr} {H H1 H2 : Hp} (a : Keep p c H H1) (b : Keep p c H1 H2) : Keep p c H H2 := fun d o e h1 h2 => b d o (a d o e h1 h2) h1 h2
theorem Keep.upd1 {p c : Addr} {H : Hp} {o : HO} : Keep p c H (upd H p o) := fun b u e h1 _ => by rw [upd_ne h1]; exact e
theorem Keep.upd2 {p c : Addr} {H : Hp} {o : HO} : Keep p c H (upd H c o) := fun b u e _ h2 => by rw [upd_ne h2]; exact e
theorem Keep.ext {p c : Addr} {H H' : Hp} (e : Ext H H') : Keep p c H H' := fun b o h _ _ => e b o h
theorem Keep.new {p c a : Addr} {H : Hp} {o : HO} (h : H a = none) : Keep p c H (upd H a o) := Keep.ext (Ext.upd h)

/-! ### rules within a comprehension's block: the written part by its own name -/
section
variable {X : Cx} {K : PySem.W.Frag}
theorem pi_listK {tg l : PySem.Expr} {tl : TE} (hK : X.K = K) (hl : PE X l tl) : PI X tg l (iList K tl) := by subst hK; exact pi_list hl
theorem pi_tupK {tg l : PySem.Expr} {tl : TE} (hK : X.K = K) (hl : PE X l tl) : PI X tg l (iTup K tl) := by subst hK; exact pi_tup hl
def rTupOf (K : PySem.W.Frag) : List V → Hp → VK → Prop := fun xs H Q => ∃ p ys, xs = [.ref p] ∧ ((SqL K H p ys ∧ ∀ l, H l = none → Q (.ref l) (upd H l (.tup ys))) ∨ (SqT K H p ys ∧ Q (.ref p) H))
theorem call_tupK (hK : X.K = K) : CallR X (.type "tuple") (rTupOf K) := by subst hK; exact call_tuple_of
def rLenSeq (K : PySem.W.Frag) : List V → Hp → VK → Prop := fun xs H Q => ∃ p ys, xs = [.ref p] ∧ (SqL K H p ys ∨ SqT K H p ys) ∧ Q (.int ys.length) H
theorem call_lenK (hK : X.K = K) : CallR X (.builtin "len") (rLenSeq K) := by subst hK; exact call_len_seq
theorem call_isiB (hK : X.K = K) : CallR X (.builtin "isinstance") (rIsi K) := by subst hK; exact call_isi
def rJoinK (K : PySem.W.Frag) : V → List V → Hp → VK → Prop := fun x xs H Q => ∃ a p, ∃ ys : List Str, x = .str a ∧ xs = [.ref p] ∧ (SqL K H p (ys.map V.str) ∨ SqT K H p (ys.map V.str)) ∧ (ys.map (·.length)).sum + ys.length * a.length ≤ 16777216 ∧ Q (.str (Txt.join a ys)) H
theorem pe_joinK {o e : PySem.Expr} {to te : TE} {apos pos : Pos} (hK : X.K = K) (ho : PE X o to) (he : PE X e te) (hs : starEach [e] X.env = [(false, eval e X.env)] := by rfl) (hbase : attributeBase o "join" X.env (eval o X.env) = eval o X.env := by rfl) (hline : (apos.endLine == pos.line) = true := by rfl) :
    PE X (.Call (.Attribute o "join" apos) [e] [] pos) (tM1 (rJoinK K) to te) := by subst hK; exact pe_join ho he hs hbase hline
end

/-! ### a list beside [] -/
def rNeNil : R2 := fun x y H Q => ∃ a b xs, x = .ref a ∧ y = .ref b ∧ H a = some (.lst xs) ∧ H b = some (.lst []) ∧ Q (.bl (!xs.isEmpty)) H
def rEqNil : R2 := fun x y H Q => ∃ a b xs, x = .ref a ∧ y = .ref b ∧ H a = some (.lst xs) ∧ H b = some (.lst []) ∧ Q (.bl xs.isEmpty) H
section
variable {X : Cx}
theorem op_neNil {k : Nat} (hr : Room k X.A) : OpR X (compareOp .NotEq) rNeNil := by
  intro pins s σ H x y v u Q I rx ry hq
  obtain ⟨a, b, xs, rfl, rfl, ha, hb, q⟩ := hq
  cases (show v = Value.ref a from rx)
  cases (show u = Value.ref b from ry)
  show wpAny (model X.prog X.w) X.A (richCompare .NotEq (.ref a) (.ref b)) (EP X pins σ Q) X.xe s
  obtain ⟨its, r, p1, _⟩ := I.list (SqL.of (K := X.K) ha)
  obtain ⟨its2, r2, p2, _⟩ := I.list (SqL.of (K := X.K) hb)
  cases r2
  cases r with
  | nil => exact SeqAt.RcNeAt.lists (e := fun _ => true) p1.isList p2.isList rfl hr.units0 (fun j h1 _ => absurd h1 (by simp)) X.prog X.w X.xe _ ⟨.bl false, H, I, rfl, q⟩
  | cons r0 r1 => exact SeqAt.RcNeAt.lists_lengths p1.isList p2.isList (by simp) hr.units0 X.prog X.w X.xe _ ⟨.bl true, H, I, rfl, q⟩
theorem op_eqNil {k : Nat} (hr : Room k X.A) : OpR X (compareOp .Eq) rEqNil := by
  intro pins s σ H x y v u Q I rx ry hq
  obtain ⟨a, b, xs, rfl, rfl, ha, hb, q⟩ := hq
  cases (show v = Value.ref a from rx)
  cases (show u = Value.ref b from ry)
  show wpAny (model X.prog X.w) X.A (richCompare .Eq (.ref a) (.ref b)) (EP X pins σ Q) X.xe s
  obtain ⟨its, r, p1, _⟩ := I.list (SqL.of (K := X.K) ha)
  obtain ⟨its2, r2, p2, _⟩ := I.list (SqL.of (K := X.K) hb)
  cases r2
  cases r with
  | nil => exact SeqAt.RcAt.lists (e := fun _ => true) p1.isList p2.isList rfl hr.units0 (fun j h1 _ => absurd h1 (by simp)) X.prog X.w X.xe _ ⟨.bl true, H, I, rfl, q⟩
  | cons r0 r1 => exact SeqAt.RcAt.lists_lengths p1.isList p2.isList (by simp) hr.units0 X.prog X.w X.xe _ ⟨.bl false, H, I, rfl, q⟩
end
end Ls
end
section
set_option Elab.async false
set_option linter.all false
set_option maxRecDepth 100000
set_option maxHeartbeats 4000000
namespace Ls
open PySem PySem.Spec PyProof.Rows L2

/-! ### parts of a heap -/
/-- what is new in H' beside H -/
def nw (H H' : Hp) : Hp := fun b => match H b with | none => H' b | some _ => none
theorem nw_at {H H' : Hp} {b : Addr} (h : H b = none) : nw H H' b = H' b := by unfold nw; rw [h]
theorem nw_some {H H' : Hp} {b : Addr} {o : HO} (h : nw H H' b = some o) : H b = none ∧ H' b = some o := by
  unfold nw at h
  cases e : H b with
  | none => rw [e] at h; exact ⟨rfl, h⟩
  | some u => rw [e] at h; cases h
theorem nw_ext {H H' : Hp} : Ext (nw H H') H' := fun a o e => (nw_some e).2
/-- new beside H1, where H1 has grown from H: new beside H -/
theorem nw_back {H H1 H2 : Hp} (e : Ext H H1) : Ext (nw H1 H2) (nw H H2) := fun a o h => by
  obtain ⟨h1, h2⟩ := nw_some h
  have : H a = none := by
    cases q : H a with
    | none => rfl
    | some u => rw [e a u q] at h1; cases h1
  rw [nw_at this]; exact h2
theorem nw_more {H H1 H2 : Hp} (e : Ext H1 H2) : Ext (nw H H1) (nw H H2) := fun a o h => by
  obtain ⟨h1, h2⟩ := nw_some h
  rw [nw_at h1]; exact e a o h2
/-- H without the objects at S -/
def hid (S : List Addr) (H : Hp) : Hp := fun b => if b ∈ S then none else H b
theorem hid_at {S : List Addr} {H : Hp} {b : Addr} (h : b ∉ S) : hid S H b = H b := by unfold hid; rw [if_neg h]
theorem hid_some {S : List Addr} {H : Hp} {b : Addr} {o : HO} (h : hid S H b = some o) : b ∉ S ∧ H b = some o := by
  unfold hid at h
  by_cases e : b ∈ S
  · rw [if_pos e] at h; cases h
  · rw [if_neg e] at h; exact ⟨e, h⟩
theorem hid_ext {S : List Addr} {H : Hp} : Ext (hid S H) H := fun a o e => (hid_some e).2
theorem hid_nil {H : Hp} : hid [] H = H := by funext b; unfold hid; simp
theorem hid_mono {S : List Addr} {H H' : Hp} (e : Ext H H') : Ext (hid S H) (hid S H') := fun a o h => by
  obtain ⟨h1, h2⟩ := hid_some h
  rw [hid_at h1]; exact e a o h2
/-- a fresh place more is hidden -/
theorem hid_cons {S : List Addr} {H : Hp} {D : Addr} (h : H D = none) : Ext (hid S H) (hid (D :: S) H) := fun a o e => by
  obtain ⟨h1, h2⟩ := hid_some e
  have : a ≠ D := ne_of_none h2 h
  rw [hid_at (by simp [this, h1])]; exact h2
theorem hid_less {S S' : List Addr} {H : Hp} (h : ∀ b ∈ S', b ∈ S) : Ext (hid S H) (hid S' H) := fun a o e => by
  obtain ⟨h1, h2⟩ := hid_some e
  rw [hid_at fun z => h1 (h a z)]; exact h2
theorem hid_upd {S : List Addr} {H : Hp} {D : Addr} {o : HO} (h : D ∈ S) : hid S (upd H D o) = hid S H := by
  funext b
  unfold hid
  by_cases e : b ∈ S
  · rw [if_pos e, if_pos e]
  · rw [if_neg e, if_neg e, upd_ne (show b ≠ D from fun z => e (by rw [z]; exact h))]
theorem hid_upd_new {S : List Addr} {H : Hp} {a : Addr} {o : HO} (h : H a = none) : Ext (hid S H) (hid S (upd H a o)) := hid_mono (Ext.upd h)
/-- what is new beside H lies outside of what stood -/
theorem nw_hid {S : List Addr} {H H' : Hp} (h : ∀ b ∈ S, H b ≠ none) : Ext (nw H H') (hid S H') := fun a o e => by
  obtain ⟨h1, h2⟩ := nw_some e
  rw [hid_at fun z => h a z h1]; exact h2
theorem hid_keep {p c : Addr} {H H' : Hp} (k : Keep p c H H') : Ext (hid [p, c] H) (hid [p, c] H') := fun a o e => by
  obtain ⟨h1, h2⟩ := hid_some e
  rw [hid_at h1]
  exact k a o h2 (fun z => h1 (by simp [z])) fun z => h1 (by simp [z])

theorem hid_keepS {p c : Addr} {S : List Addr} {H H' : Hp} (k : Keep p c H H') (hp : p ∈ S) (hc : c ∈ S) : Ext (hid S H) (hid S H') := fun a o e => by
  obtain ⟨h1, h2⟩ := hid_some e
  rw [hid_at h1]
  exact k a o h2 (fun z => h1 (by rw [z]; exact hp)) fun z => h1 (by rw [z]; exact hc)
theorem Ext.at' {S : List Addr} {H H' : Hp} (e : Ext (hid S H) (hid S H')) {a : Addr} {o : HO} (h : a ∉ S) (q : H a = some o) : H' a = some o := (hid_some (e a o (by rw [hid_at h]; exact q))).2

/-! ### a comprehension that makes one item a turn: R tells what the items are, in the heap without S -/
section
variable {J : It} {n : Nat} {G : Hp → Prop} {Y : Nat → Hp → V → Hp → Prop} {g : TG} {te : TE} {vs : List Nat} {σ : L2.St} {H1 : Hp} {D : Addr} {Qd : Hp → Prop}
theorem lc_map (w : Walk J n G Y) (S : List Addr) (hS : D ∈ S) (Iv : Hp → Prop) (R : Nat → V → Hp → Prop) (hn : n ≤ 100000) (hm : ∀ j y H H', Ext H H' → R j y H → R j y H')
    (hIv : ∀ H o, Iv H → Iv (upd H D o)) (h0 : Iv (upd H1 D (.lst []))) (hG : ∀ H, Ext (hid S H1) (hid S H) → Iv H → G H)
    (hs : ∀ i x H H' acc (C : VK), i < n → Ext (hid S H1) (hid S H) → Iv H → H D = some (.lst acc) → Y i H x H' → (∀ y H4, H4 D = some (.lst acc) → Ext (hid S H) (hid S H4) → Iv H4 → R i y (hid S H4) → C y H4) →
      g x (wipe σ vs) H' fun σ2 H2 => wipe σ2 vs = wipe σ vs ∧ te σ2 H2 C)
    (hd : ∀ H ys, Ext (hid S H1) (hid S H) → Iv H → H D = some (.lst ys) → ys.length = n → (∀ j y, ys[j]? = some y → R j y (hid S H)) → Qd H) :
    ∃ W : Nat → Nat → Hp → Prop, (∃ m, W 0 m (upd H1 D (.lst []))) ∧ ∀ i m H, W i m H →
      (J.stop i H ∧ Qd H) ∨ (J.go i H ∧ ∃ Nx : Hp → Prop, (∀ H', Nx H' → ∃ m', m' < m ∧ W (i + 1) m' H') ∧ ∀ x H', J.yld i H x H' → g x (wipe σ vs) H' fun σ2 H2 => wipe σ2 vs = wipe σ vs ∧ tYes σ2 H2 fun b H3 =>
        if b = true then te σ2 H3 fun y H4 => ∃ acc, H4 D = some (.lst acc) ∧ acc.length < sizeLine ∧ Nx (upd H4 D (.lst (acc ++ [y]))) else Nx H3) := by
  refine lc_it w (fun i H => ∃ ys : List V, H D = some (.lst ys) ∧ ys.length = i ∧ Ext (hid S H1) (hid S H) ∧ Iv H ∧ ∀ j y, ys[j]? = some y → R j y (hid S H))
    ⟨[], upd_same, rfl, by rw [hid_upd hS]; exact Ext.rfl', h0, fun j y e => by simp at e⟩ (fun i H _ ⟨_, _, _, e, iv, _⟩ => hG H e iv) ?_ ?_
  · rintro i x H H' hi ⟨ys, hD, hl, e, iv, r⟩ y
    refine hs i x H H' ys _ hi e iv hD y fun v H4 h4 e4 iv4 r4 => ?_
    refine ⟨ys, h4, Nat.lt_of_le_of_lt (show ys.length ≤ 100000 by omega) (by decide), ys ++ [v], upd_same, by rw [List.length_append, hl]; rfl, by rw [hid_upd hS]; exact e.trans e4, hIv _ _ iv4, fun j z hz => ?_⟩
    rw [hid_upd hS]
    by_cases hj : j < ys.length
    · rw [List.getElem?_append_left hj] at hz
      exact hm j z _ _ e4 (r j z hz)
    · rw [List.getElem?_append_right (by omega)] at hz
      have : j = i := by
        cases q : j - ys.length with
        | zero => omega
        | succ k => rw [q] at hz; simp at hz
      subst this
      rw [hl] at hz
      simp at hz
      subst hz
      exact r4
  · rintro H ⟨ys, hD, hl, e, iv, r⟩
    exact hd H ys e iv hD hl r
end
end Ls
end
section
set_option Elab.async false
set_option linter.all false
set_option maxRecDepth 100000
set_option maxHeartbeats 4000000
namespace Ls
open PySem PySem.Spec PyProof.Rows L2

/-! ### an exception that is kept as a value -/
/-- at a: an exception of the class cls, its dict at d -/
def exk (a : Addr) (cls : Value) (d : Option Addr) : HO := .ext fun h => ∃ (oe : Obj) (vs : Array Value), h.get? a = some oe ∧ Zc cls d oe ∧ oe.data = .fields vs
theorem exk_ok {P : Program} {w : World} {H : Hp} {h : Heap} {a : Addr} {cls : Value} {d : Option Addr} {oe : Obj} {vs : Array Value} (e : h.get? a = some oe) (z : Zc cls d oe) (q : oe.data = .fields vs) : ObjOk P w H h a (exk a cls d) :=
  ⟨⟨oe, vs, e, z, q⟩, ⟨oe, e⟩, fun _ _ ⟨o, v, q, r⟩ k => ⟨o, v, k o q, r⟩⟩
theorem exk_at {P : Program} {w : World} {H : Hp} {h : Heap} {a : Addr} {cls : Value} {d : Option Addr} (hok : HOk P w H h) (e : H a = some (exk a cls d)) : ∃ (oe : Obj) (vs : Array Value), h.get? a = some oe ∧ Zc cls d oe ∧ oe.data = .fields vs := by
  have x : ObjOk P w H h a (.ext fun h => ∃ (oe : Obj) (vs : Array Value), h.get? a = some oe ∧ Zc cls d oe ∧ oe.data = .fields vs) := hok a _ e
  exact x.1
section
variable {X : Cx} {pins : List (Addr × Obj)} {σ : L2.St} {H : Hp} {s : Shared}
/-- an object that stands and is not known from before is tracked from now on -/
theorem inv_track {a : Addr} {o : HO} (I : Inv X pins σ H s) (hn : H a = none) (h0 : X.s_0.heap.get? a = none) (hl : a ≠ X.env.locals) (hc : ∀ x c, X.env.cells.lookup x = some c → c ≠ a) (hp : ∀ p ∈ X.pn ++ pins, p.1 ≠ a)
    (new : ObjOk X.prog X.w (upd H a o) s.heap a o) : Inv X pins σ (upd H a o) s := by
  have n0 : ∀ b u, X.s_0.heap.get? b = some u → b ≠ a := fun b u e z => by
    rw [z, h0] at e
    cases e
  refine ⟨I.ok, I.os, I.bare, ⟨I.base.keep, I.base.slot, fun b u e n hq => ?_, I.base.there, fun b xs e => ?_, fun b u v e => ?_, fun b ps e => ?_⟩, I.loc, I.cell, ?_, fun x c e => ?_, fun p q => ?_, I.hok.laidN (fun _ _ z => z) hn new, I.len⟩
  · rw [upd_ne (n0 b u e)]
    exact I.base.free b u e n hq
  · have q := I.base.tups b xs e
    rw [upd_ne (ne_of_none q hn)]
    exact q
  · have q := I.base.frzs b u v e
    rw [upd_ne (ne_of_none q hn)]
    exact q
  · obtain ⟨m, q⟩ := I.base.tbls b ps e
    exact ⟨m, by rw [upd_ne (ne_of_none q hn)]; exact q⟩
  · rw [upd_ne (Ne.symm hl)]
    exact I.free
  · rw [upd_ne (hc x c e)]
    exact I.freeC x c e
  · obtain ⟨z1, z2, z3⟩ := I.pin p q
    exact ⟨z1, by rw [upd_ne (hp p q)]; exact z2, z3⟩
theorem inv_suite0 (I : Inv X pins σ H s) (a : Addr) : Inv (X.suite a (X.pn ++ pins)) [] σ H s :=
  ⟨I.ok.suite _ _, I.os, I.bare, I.base, I.loc, I.cell, I.free, I.freeC, fun p hp => I.pin p (by rw [List.append_nil] at hp; exact hp), I.hok, I.len⟩
theorem inv_unsuite0 {a : Addr} {pn' : List (Addr × Obj)} (I : Inv (X.suite a (X.pn ++ pins)) pn' σ H s) (ok : X.Ok) : Inv X pins σ H s :=
  ⟨ok, I.os, I.bare, I.base, I.loc, I.cell, I.free, I.freeC, fun p hp => I.pin p (List.mem_append_left _ hp), I.hok, I.len⟩
end
/-- what the clause 'except x as n' wishes, the exception tracked in the suite and behind it -/
def wAsk (K : PySem.W.Frag) (c : Value) (i : Nat) (ts : TS) (Wout : WX) (D : Ends) : WX := fun cls d σ H =>
  ∃ b, PySem.W.exmOne K cls c = some b ∧ (b = true → ∀ a, H a = none → ts { nx := fun σ' H' => D.nx (σ'.set i none) H', rt := D.rt, bk := fun σ' H' => D.bk (σ'.set i none) H', ct := fun σ' H' => D.ct (σ'.set i none) H' } (σ.set i (some (.ref a))) (upd H a (exk a cls d))) ∧
    (b = false → Wout cls d σ H)
section
variable {X : Cx} {x n : Str} {c : Value} {i : Nat} {body suite : List Stmt} {b₀ : Stmt} {np pos pos' : Pos} {tb : WX → TS} {ts : TS} {Wout : WX}
theorem ps_try_ask (hs : X.stack = X.env :: X.outer) (hf : X.env.frame = some X.env.locals) (hN : X.N.Nodup) (hi : X.N[i]? = some n) (hln : X.env.kindOf n = some .local) (hc : Names X x c) (tk : Takes X Wout) (hx : X.ex = [])
    (hb : ∀ (W : WX) (pn : List (Addr × Obj)) (xe : Value → Shared → Prop), Takes (X.tr pn xe) W → PassesOwn (model X.prog X.w) X.A X.env xe → PSs (X.tr pn xe) body (tb W))
    (hsu : ∀ (a : Addr) (pn : List (Addr × Obj)), PSs (X.suite a pn) (b₀ :: suite) ts) :
    PS X (.Try body [.ExceptHandler (some (.Name x np)) (some n) (b₀ :: suite) pos'] [] [] pos) (fun D σ H => tb (wAsk X.K c i ts Wout D) D σ H) := by
  refine ⟨fun pins s σ H D I h => ?_⟩
  have ok := I.ok
  have hfr : X.A.frames = some (X.env :: X.outer) := by rw [ok.frames, hs]
  refine wpAny_Try_except ?_
  refine wpAny_mono ((hb (wAsk X.K c i ts Wout D) (X.pn ++ pins) (fun e s₁ => wpAny (model X.prog X.w) X.A (noteFrame e X.env) (fun _ s₂ => wpAny (model X.prog X.w) X.A (setFlight e none) (fun _ s₃ =>
    wpAny (model X.prog X.w) X.A (handleBy e X.env [.ExceptHandler (some (.Name x np)) (some n) (b₀ :: suite) pos']) (SP X pins D) X.xe s₃) X.xe s₂) X.xe s₁) (fun u s' xx => ?_) PassesOwn.looking).run [] s σ H D (I.toTry _) h) (fun f s1 hsp => ?_) (fun e s1 he => he)
  · obtain ⟨a, B, sI, pins', σ', H', cls, d, rfl, J', nb, up, sky, na, os, ag, b, hb1, hyes, hno⟩ := xx
    have J : Inv X pins σ' H' sI := J'.ofTry ok
    have sky' : Sky B (X.env :: X.outer) a (Zc cls d) X.env.locals s'.heap := by rw [← hs]; exact sky
    show wpAny (model X.prog X.w) X.A (noteFrame (.ref a) X.env) _ _ _
    refine Sky.land Zc.steady hfr hf sky' fun h3 fl3 up3 => ?_
    have J3 : Inv X pins σ' H' { s' with heap := h3 } := J.landed nb fl3.1 (up.trans up3) os ag
    obtain ⟨oe3, vs3, he3, hz3, hd3⟩ := fl3.there
    have nfr : a ∉ frs (X.env :: X.outer) := fun hm => by
      obtain ⟨_, o', e', hnf⟩ := fl3.2.2.1.mem hm
      rw [he3] at e'
      cases e'
      exact hnf _ hd3
    have nL : a ≠ X.env.locals := fun z => nfr (List.mem_filterMap.mpr ⟨X.env, List.mem_cons_self, by rw [hf, z]⟩)
    have nI : sI.heap.get? a = none := by
      cases q : sI.heap.get? a with
      | none => rfl
      | some o =>
        have z := nb a o q (by rw [hs]; exact nfr)
        rw [fl3.2.1] at z
        cases z
    have hexe : ∀ b o, X.s_0.heap.get? b = some o → b ∈ X.ex → False := fun b o e hb => by
      rw [hx] at hb
      cases hb
    have n0 : X.s_0.heap.get? a = none := by
      cases q : X.s_0.heap.get? a with
      | none => rfl
      | some o =>
        obtain ⟨o', z⟩ := J.base.there a o q (fun z => hexe a o q z)
        rw [nI] at z
        cases z
    have LT : PySem.W.Looks (model X.prog X.w) h3 (typeOf (.ref a)) cls := fun A Q E s k q => wpAny_typeOf_ref (k _ _ he3) (by rw [hz3.1]; exact q)
    have LM := PySem.W.exm_one (M := model X.prog X.w) (J3.kIn) LT hb1
    have S3 := inv_suite0 J3 a
    refine wpAny_handleBy_cons (codeAny_handlers_test ?_) (by intro q; cases q)
    have test : ∀ {Q : Value → Shared → Prop} {E : Value → Shared → Prop}, Q c { s' with heap := h3 } → wpAny (model X.prog X.w) (X.A.mark (some (.ref a))) (eval (.Name x np) X.env) Q E { s' with heap := h3 } := fun {Q E} q => by
      obtain ⟨hg, hdbg, hm | ⟨hm, hv, hnn⟩⟩ := hc
      · exact ld_glob (X := X.suite a (X.pn ++ pins)) S3 hg hm q hdbg
      · exact ld_blt (X := X.suite a (X.pn ++ pins)) S3 hg hm hv q hnn hdbg
    refine test (LM.here ?_)
    cases b with
    | true =>
      refine codeAny_handlers_suite_as ?_
      refine HandSPX.lands_againZ fl3 fun h4 fl4 up4 => ?_
      have J4 : Inv X pins σ' H' { s' with heap := h4 } := J.landed nb fl4.1 ((up.trans up3).trans up4) os ag
      obtain ⟨oe4, vs4, he4, hz4, hd4⟩ := fl4.there
      have T4 : Inv X pins σ' (upd H' a (exk a cls d)) { s' with heap := h4 } := inv_track J4 na n0 nL (fun y c e z => by
          obtain ⟨v, o, ho, _⟩ := J.cell y c e
          rw [z, nI] at ho
          cases ho) (fun p hp z => by
          have q := (J.pin p hp).1
          rw [z, nI] at q
          cases q) (exk_ok he4 hz4 hd4)
      have S4 := inv_suite0 T4 a
      refine store_ok (X := X.suite a (X.pn ++ pins)) (v := .ref a) S4 hN hi (.inl hln) rfl (fun s5 S5 => ?_) (.inr hln)
      refine wpAny_mono ((hsu a (X.pn ++ pins)).run [] s5 _ _ _ S5 (hyes rfl a na)) (fun f s6 hsp => ?_) (fun _ _ z => False.elim z)
      have fin : ∀ {σ6 : L2.St} {H6 : Hp} {Q : Shared → Prop}, Inv (X.suite a (X.pn ++ pins)) [] σ6 H6 s6 → (∀ s7, Inv X pins (σ6.set i none) H6 s7 → Q s7) →
          wpAny (model X.prog X.w) X.A (do bindName X.env n .none; unbindBehindTheSuite X.env n pos') (fun _ s7 => Q s7) X.xe s6 := fun {σ6 H6 Q} S6 hq => gone_ok (inv_unsuite0 S6 ok) hN hi hln hq
      cases f with
      | next =>
        obtain ⟨σ6, H6, S6, q6⟩ := hsp
        exact fin S6 fun s7 J7 => ⟨_, _, J7, q6⟩
      | brk =>
        obtain ⟨σ6, H6, S6, q6⟩ := hsp
        exact fin S6 fun s7 J7 => ⟨_, _, J7, q6⟩
      | cont =>
        obtain ⟨σ6, H6, S6, q6⟩ := hsp
        exact fin S6 fun s7 J7 => ⟨_, _, J7, q6⟩
      | ret u =>
        obtain ⟨v6, σ6, H6, S6, r6, q6⟩ := hsp
        exact fin S6 fun s7 J7 => ⟨_, _, _, J7, r6, q6⟩
    | false =>
      show wpAny _ X.A (handleBy (.ref a) X.env []) _ _ _
      refine wpAny_handleBy_nil ?_
      obtain ⟨k1, k2, k3, oe, vs, T, oT, ts', he, hz, hd, h1, hr⟩ := id fl3
      unfold PySem.passOn
      refine wpAny_bind (wpAny_field he hd h1 ?_)
      rw [if_neg (show ¬ ((Value.ref T == Value.none) = true) from by simp)]
      have last : wpAny (model X.prog X.w) X.A (setFlight (.ref a) X.env.frame) (fun _ s4 => wpAny (model X.prog X.w) X.A (throw (.ref a) : Sem Flow) (SP X pins D) X.xe s4) X.xe { s' with heap := h3 } := by
        rw [hf]
        refine HandSPX.setFlight_upZ fl3 fun h4 hh4 up4 => wpAny_throw (tk _ _ ?_)
        exact ⟨a, B, sI, pins, σ', H', cls, d, rfl, J, nb, (up.trans up3).trans up4, .inr (.inr (by rw [hs]; exact hh4)), na, os, ag, hno rfl⟩
      first
        | exact wpAny_bind (wpAny_pure (wpAny_bind last))
        | exact wpAny_bind last
  · cases f with
    | next =>
      obtain ⟨σ', H', J', q⟩ := hsp
      exact wpAny_execs_nil ⟨σ', H', J'.ofTry ok, q⟩
    | brk =>
      obtain ⟨σ', H', J', q⟩ := hsp
      exact ⟨σ', H', J'.ofTry ok, q⟩
    | cont =>
      obtain ⟨σ', H', J', q⟩ := hsp
      exact ⟨σ', H', J'.ofTry ok, q⟩
    | ret u =>
      obtain ⟨v, σ', H', J', r, q⟩ := hsp
      exact ⟨v, σ', H', J'.ofTry ok, r, q⟩
end

/-! ### C(..) as a value; isinstance and fields of a kept exception -/
section
variable {X : Cx} {e : Expr}
theorem pe_mkx {t : L2.St → Hp → XK → Prop} (h : PMk X e t) : PE X e (fun σ H Q => t σ H fun cls d H' => ∀ a, H' a = none → Q (.ref a) (upd H' a (exk a cls d))) := by
  refine ⟨fun pins s σ H Q I hh => ?_⟩
  refine wpAny_mono (h pins s σ H _ I hh) (fun u s1 hu => ?_) fun _ _ x => x
  obtain ⟨a, oe, vs, sI, H', cls, d, rfl, J, k, hne, ha, hz, hd, h1, na, os, ag, r, q⟩ := hu
  have J2 : Inv X pins σ H' { sI with heap := sI.heap, gens := s1.gens, drawn := s1.drawn, toks := s1.toks } := J.call (ch := []) (Un.kept fun _ _ z => z) J.hok ag (fun _ z => nomatch z)
  have J3 := J2.laidN (h' := s1.heap) (a := a) (o := exk a cls d) (t' := s1.toks) k hne na (exk_ok ha hz hd)
  obtain ⟨a1, a2, a3, a4, a5⟩ := s1
  have e5 : a5 = sI.os := os
  subst e5
  exact ⟨.ref a, _, J3, rfl, q a na⟩
/-- isinstance(e, c), e a kept exception -/
def rIsX (K : PySem.W.Frag) : List V → Hp → VK → Prop := fun xs H Q => ∃ (a D : Addr) (d : Option Addr) (c : V) (cv : Value) (b : Bool), xs = [.ref a, c] ∧ H a = some (exk a (.ref D) d) ∧ ExcC K D ∧ (∀ dd, d = some dd → ∃ fs, H dd = some (.xd fs)) ∧ (∀ u, RelV c u → u = cv) ∧ PySem.W.kitOne K (.ref D) cv = some b ∧ Q (.bl b) H
theorem inst_of {pins : List (Addr × Obj)} {σ : L2.St} {H : Hp} {s : Shared} {a D : Addr} {d : Option Addr} (I : Inv X pins σ H s) (ea : H a = some (exk a (.ref D) d)) (hd : ∀ dd, d = some dd → ∃ fs, H dd = some (.xd fs)) : ∃ oe od, PySem.W.InstAt s.heap a oe D od := by
  obtain ⟨oe, vs, ho, hz, hv⟩ := exk_at I.hok ea
  cases d with
  | none =>
    refine ⟨oe, none, ?_⟩
    obtain ⟨oc, od, oda, osl⟩ := oe
    obtain ⟨h1, h2⟩ := hz
    dsimp only at h1 h2 hv
    subst h1 h2 hv
    exact ⟨ho, rfl, rfl, trivial⟩
  | some dd =>
    obtain ⟨fs, ed⟩ := hd dd rfl
    obtain ⟨mA, hns, hr⟩ := (show ObjOk X.prog X.w H s.heap dd (.xd fs) from I.hok dd _ ed)
    obtain ⟨od, hod, hl⟩ := lookIn_ns hns
    exact ⟨oe, some od, ho, hz.1, by unfold PySem.W.notCls; rw [hv] <;> rfl, by rw [hz.2]; exact hod⟩
theorem call_isX : CallR X (.builtin "isinstance") (rIsX X.K) := by
  intro pins s σ H xs us Q I r h
  obtain ⟨a, D, d, c, cv, b, rfl, ea, C, hd, hcv, e, q⟩ := h
  obtain ⟨u1, u2, rfl, r1, r2⟩ := vals2 r
  cases (show u1 = Value.ref a from r1)
  have ec := hcv _ r2
  subst ec
  obtain ⟨oe, od, J⟩ := inst_of I ea hd
  have hcl : (PySem.W.clsIn X.K D).isSome = true := by
    obtain ⟨cd, hc, _⟩ := PySem.W.any_some C.hd
    rw [hc]
    rfl
  exact PySem.W.kia_one (PySem.W.kitx_exc hcl C.hg C.hk C.hs C.ha C.hn C.ht C.hm) I.kIn J e (fun z => nomatch z) fun tk => ⟨.bl b, H, I.kept (t' := tk) fun _ _ z => z, rfl, q⟩
/-- e.f, e a kept exception -/
def tXk (K : PySem.W.Frag) (f : Str) (te : TE) : TE := fun σ H Q => te σ H fun x H1 => ∃ (a C dd : Addr) (fs : List (Str × V)) (v : V), x = .ref a ∧ H1 a = some (exk a (.ref C) (some dd)) ∧ XfC K C ∧ PySem.W.findIn K (.ref C) f = some none ∧ H1 dd = some (.xd fs) ∧ fs.lookup f = some v ∧ Q v H1
theorem pe_xk {te : TE} {pos : Pos} {n : Str} (he : PE X e te) (hb : attributeBase e n X.env (eval e X.env) = eval e X.env := by rfl) : PE X (.Attribute e n pos) (tXk X.K n te) := by
  refine ⟨fun pins s σ H Q I h => ?_⟩
  refine attr_of hb (thn (he.run pins s σ H _ I h) fun u s1 hh => ?_)
  obtain ⟨x, H1, I1, rx, a, C, dd, fs, v, ex, ea, T, hno, ed, l, q⟩ := hh
  subst ex
  obtain rfl : u = Value.ref a := rx
  obtain ⟨oe, vs, ho, hz, hv⟩ := exk_at I1.hok ea
  obtain ⟨mA, hns, hr⟩ := (show ObjOk X.prog X.w H1 s1.heap dd (.xd fs) from I1.hok dd _ ed)
  obtain ⟨od, hod, hl⟩ := lookIn_ns hns
  obtain ⟨u, hu, ru⟩ := RelO.some_of (v := v) (o := mA n) (by rw [← l]; exact hr n)
  have J : PySem.W.InstAt s1.heap a oe C (some od) := ⟨ho, hz.1, by unfold PySem.W.notCls; rw [hv] <;> rfl, by rw [hz.2]; exact hod⟩
  exact HandSPX.exc_get I1.kIn J T.ga T.gg T.exC (PySem.W.findObj_own T.hdC hno rfl (by rw [hl, hu])) (handed_of ru) ⟨v, H1, I1.tok _, ru, q⟩
end

/-! ### super().__init__(..) of an own error class over ValueError -/
namespace SE
open PySem.W
abbrev wv (x : Addr) : Obj := { cls := .type "method-wrapper", dict := none, data := .fields #[.builtin "ValueError.__init__", .ref x], slots := #[] }
theorem ty_vi : typeOf (.builtin "ValueError.__init__") = pure (.type "wrapper_descriptor") := by
  show builtinType _ = _
  rw [builtinType_eq_fast]
  kernel_rfl
theorem nc_vi : (kfb_private% "nameAndClass") (Value.builtin "ValueError.__init__") = (pure (("__init__" : Str), Value.type "ValueError") : Sem (Str × Value)) := by kernel_rfl
section
variable {prog : Program} {w : World} {M : Model} {A : Around} {E : Value → Shared → Prop} {h : Heap} {g : Array GenState} {dr : Drawn} {t : Nat} {os : OsState}
theorem bind_vi {x C : Addr} {P : Fin → Shared → Prop} (hin : Looks M h (isInstance (.ref x) (.type "ValueError")) true) (hq : P (.done (.ret (.ref h.objs.size))) ⟨h.push (wv x), g, dr, t, os⟩) :
    wpAny M A (Builtin.«wrapper_descriptor.__get__» ⟨[.builtin "ValueError.__init__", .ref x, .ref C], []⟩) P E ⟨h, g, dr, t, os⟩ := by
  unfold Builtin.«wrapper_descriptor.__get__»
  refine wpAny_bind (wpAny_of_eq (a := (.builtin "ValueError.__init__", some (.ref x), some (.ref C))) (by first | rfl | kernel_rfl) ?_)
  show wpAny M A ((kfb_private% "checkInstance") (.builtin "ValueError.__init__") (.ref x) >>= fun _ => newFields "method-wrapper" [.builtin "ValueError.__init__", .ref x] >>= fun r => ret r) P E _
  refine wpAny_bind ?_
  show wpAny M A ((kfb_private% "nameAndClass") (.builtin "ValueError.__init__") >>= _) _ E _
  refine wpAny_bind (wpAny_of_eq nc_vi ?_)
  show wpAny M A (isInstance (.ref x) (.type "ValueError") >>= _) _ E _
  refine wpAny_bind (hin.at (KFB.if_not rfl (wpAny_pure ?_)))
  exact wpAny_bind (wpAny_newObj_type (wpAny_pure hq))
theorem super_gav {so D x C : Addr} {l₀ l : List Value} {K : Frag} {name : Str} {tk : Tok} {Q : Fin → Shared → Prop}
    (hso : h.get? so = some { cls := .type "super", dict := none, data := .fields #[.ref D, .ref x, .ref C], slots := #[] }) (hno : Looks (model prog w) h (opaqueClassAbove (.ref C)) none)
    (hC : Looks (model prog w) h (mroOf (.ref C)) l₀) (hl : (l₀.dropWhile (· != .ref D)).drop 1 = l) (X : K.In h)
    (hf : alongIn K name l = some (some (.builtin "ValueError.__init__"))) (hxC : x ≠ C) (hn : (name == ("__class__" : Str)) = false) (hin : Looks (model prog w) h (isInstance (.ref x) (.type "ValueError")) true)
    (hq : Q (.done (.ret (.ref h.objs.size))) ⟨h.push (wv x), g, dr, t, os⟩) :
    wpAny (model prog w) A (Builtin.«super.__getattribute__» ⟨[.ref so, .str name tk], []⟩) Q E ⟨h, g, dr, t, os⟩ := by
  have hlk := ESX.slot_wd.lookup
  have ner : (Value.ref x == Value.ref C) = false := by simp [hxC]
  have hTf := ty_vi
  have hTi : Shared.TypeIs ⟨h, g, dr, t, os⟩ (.builtin "ValueError.__init__") "wrapper_descriptor" := ty_vi
  have dso : ({ cls := .type "super", dict := none, data := .fields #[.ref D, .ref x, .ref C], slots := #[] } : Obj).data = .fields #[.ref D, .ref x, .ref C] := rfl
  have q0 : (#[.ref D, .ref x, .ref C] : Array Value)[0]? = some (.ref D) := rfl
  have q1 : (#[.ref D, .ref x, .ref C] : Array Value)[1]? = some (.ref x) := rfl
  have q2 : (#[.ref D, .ref x, .ref C] : Array Value)[2]? = some (.ref C) := rfl
  unfold Builtin.«super.__getattribute__»
  repeat (first
    | (with_reducible refine wpAny_field hso dso q0 ?_) | (with_reducible refine wpAny_field hso dso q1 ?_) | (with_reducible refine wpAny_field hso dso q2 ?_)
    | (with_reducible refine ks_wpAny_notOpaque hno ?_)
    | (with_reducible refine Looks.at hC ?_; rw [hl])
    | (refine ks_forIn_along X (fun _ _ => rfl) rfl ?_ hf)
    | (with_reducible refine wpAny_call_entry ESX.slot_wd hTi ESX.entry_wd ?_ (ESX.args_wd _ _ _))
    | (with_reducible refine bind_vi hin ?_)
    | (with_reducible refine ⟨_, rfl, ?_⟩)
    | (simp only [hn, ner, Bool.or_false, Bool.false_eq_true, if_false])
    | wp_step
    | dsimp only)
  all_goals exact hq
theorem getMethod_superv {so D x C : Addr} {l₀ l : List Value} {K : Frag} {name : Str} {pl : Sem Bool} {Q : Value × List Value → Shared → Prop}
    (hso : h.get? so = some { cls := .type "super", dict := none, data := .fields #[.ref D, .ref x, .ref C], slots := #[] }) (hno : Looks (model prog w) h (opaqueClassAbove (.ref C)) none)
    (hC : Looks (model prog w) h (mroOf (.ref C)) l₀) (hl : (l₀.dropWhile (· != .ref D)).drop 1 = l) (X : K.In h)
    (hf : alongIn K name l = some (some (.builtin "ValueError.__init__"))) (hxC : x ≠ C) (hn : (name == ("__class__" : Str)) = false) (hin : Looks (model prog w) h (isInstance (.ref x) (.type "ValueError")) true)
    (hq : Q (.ref h.objs.size, []) ⟨h.push (wv x), g, dr, t + 1, os⟩) :
    wpAny (model prog w) A (getMethod (.ref so) name pl) Q E ⟨h, g, dr, t, os⟩ := by
  have hlk := F.ks_slot_super_ga.lookup
  have hT : ∀ t', (⟨h, g, dr, t', os⟩ : Shared).TypeIs (.ref so) "super" := fun _ => ⟨_, hso, rfl⟩
  unfold getMethod
  refine wpAny_bind (wpAny_specialOf (hT _) hlk ?_)
  show wpAny _ _ (if (Manifest.canonical "super.__getattribute__" != "object.__getattribute__") = true then _ else _) _ _ _
  rw [if_pos F.ks_canon_super_ga]
  unfold getAttr getAttrBy
  refine wpAny_bind (wpAny_bind (wpAny_mkText (wpAny_holding (wpAny_bind (wpAny_typeOf (hT _) (wpAny_bind (wpAny_of_eq hlk ?_)))))))
  show wpAny _ _ (getAttrByItsOwn (.ref so) (.str name t) (.type "super") (.builtin "super.__getattribute__") true false) _ _ _
  unfold getAttrByItsOwn hookBefore callGetattribute boundAndCalled
  refine wpAny_bind (wpAny_of_eq (show (if onTheHeap (.type "super") then typeLookup (.type "super") "__getattr__" else pure none) = pure none from rfl) (wpAny_bind (wpAny_attempt (wpAny_holding ?_))))
  show wpAny _ _ (bindSpecial (.builtin "super.__getattribute__") (.ref so) >>= _) _ _ _
  refine wpAny_bind (wpAny_of_eq (F.ks_slot_super_ga.bind _) ?_)
  refine wpAny_mono (Q := fun v s' => v = .ref h.objs.size ∧ s' = ⟨h.push (wv x), g, dr, t + 1, os⟩) (E := fun _ _ => False)
    (wpAny_call_entry F.ks_slot_super_ga (hT _) F.ks_entry_super_ga (super_gav hso hno hC hl X hf hxC hn hin ⟨_, rfl, rfl, rfl⟩) (F.ks_gaArgs_super _ _)) (fun v s' hv => ?_) fun _ _ z => z.elim
  obtain ⟨rfl, rfl⟩ := hv
  exact wpAny_pure (wpAny_pure hq)
end
section
open PySem.Calls
variable {prog : Program} {w : World} {M : Model} {A : Around} {E : Value → Shared → Prop} {s : Shared}
theorem callWith_wv {pos : Pos} {u x : Addr} {env : Env} {e : Expr} {rest : List Expr} {Q : Value → Shared → Prop}
    (h : wpAny M A (spliced (backTo pos (starEach (e :: rest) env))) (fun vs s₁ => s₁.heap.get? u = some (wv x) ∧ wpAny M A (call (.ref u) vs) Q E s₁) E s)
    (he : starEach (e :: rest) env = (false, eval e env) :: starEach rest env) (hplain : (backTo pos (starEach rest env)).any (·.1) = false) :
    wpAny M A (callWith pos (.ref u) [] (backTo pos (starEach (e :: rest) env)) []) Q E s := by
  rw [he] at h ⊢
  have hp : (backTo pos ((false, eval e env) :: starEach rest env)).any (·.1) = false := by
    show (false || (backTo pos (starEach rest env)).any (·.1)) = false
    rw [hplain]
    rfl
  have h2 : wpAny M A (evalArgs (.ref u) true (backTo pos ((false, eval e env) :: starEach rest env)) []) (fun a s₁ => s₁.heap.get? u = some (wv x) ∧ wpAny M A (call (.ref u) ([] ++ a.pos) a.kw) Q E s₁) E s := evalArgs_plain h
  unfold callWith
  refine wpAny_bind (wpAny_holding (wpAny_mono h2 (fun a s₁ h₁ => wpAny_bind (wpAny_standAt ?_)) fun _ _ x => x))
  obtain ⟨ho, hcall⟩ := h₁
  simp only [hp, List.any_nil, Bool.or_false]
  refine wpAny_bind (m := keeperOf (.ref u)) ?_
  unfold keeperOf
  refine wpAny_bind (wpAny_load ho ?_)
  simp only [wv, show (Value.type "method-wrapper" != Value.type "method") = true by decide, show (Value.type "method-wrapper" == Value.type "builtin_function_or_method" || Value.type "method-wrapper" == Value.type "method-wrapper") = true by decide, if_true]
  refine wpAny_pure ?_
  exact wpAny_bind (wpAny_mono hcall (fun r s₂ hr => wpAny_bind (wpAny_holding (wpAny_point (wpAny_pure hr)))) fun _ _ x => x)
end
section
variable {prog : Program} {w : World} {A : Around} {E : Value → Shared → Prop} {h : Heap} {g : Array GenState} {dr : Drawn} {t : Nat} {os : OsState}
variable {nm q : Str} {C N : Addr} {bs bm : List Value} {hdct : Bool} {sn : List Str} {sub : List Value} {ab : Bool} {col : Option Bool} {dd : Option Addr} {k0 k1 k2 k3 k5 : Option Value}
theorem call_wv {u e t0 : Addr} {rest : List Value} {Q : Value → Shared → Prop}
    (hC : h.get? C = some (excClassObj nm q C N bs bm hdct sn sub ab col dd k0 k1 k2 k3 k5 "ValueError.__new__")) (he : h.get? e = some (HandSPX.excO C t0)) (hu : h.get? u = some (wv e)) (hrest : rest.length ≤ sizeLine)
    (hq : ∀ h' t1, (∀ b o, b ≠ e → h.get? b = some o → h'.get? b = some o) → h'.get? e = some (HandSPX.excO C t1) → Q .none ⟨h', g, dr, t, os⟩) :
    wpAny (model prog w) A (call (.ref u) rest) Q E ⟨h, g, dr, t, os⟩ := by
  refine wpAny_call (codeAny_of_tree ?_)
  show wpAny _ A.in1 (callAny (.ref u) ⟨rest, []⟩) _ _ _
  simp only [callAny]
  refine wpAny_bind (wpAny_load hu ?_)
  simp only [wv, show (Value.type "method-wrapper" == Value.type "method" || Value.type "method-wrapper" == Value.type "builtin_function_or_method" || Value.type "method-wrapper" == Value.type "method-wrapper") = true by decide, if_true]
  refine W.KFB.if_so (by decide) ?_
  refine wpAny_bind (ESX.check_bound F.excBase_ValueError hC he rfl (wpAny_bind (wpAny_pure (wpAny_pure ?_))))
  refine ⟨Code.quiet_builtin _ (by decide +kernel), codeAny_builtin F.excBase_ValueError.initEntry ?_⟩
  rw [Around.under_plainId F.excBase_ValueError.init.plain _]
  wp_walk
  refine hq _ h.objs.size (fun b o hb ho => ?_) ?_
  · rw [Heap.get?_update_other _ _ (Ne.symm hb)]
    exact Heap.get?_push_of_some _ ho
  · rw [Heap.get?_update_self _ (Heap.get?_push_of_some _ he) rfl]
    rfl
end
end SE

/-- what the written part says for super().__init__ in a def of the error class at D, of an instance of the class at C -/
structure SupE (P : Program) (K : PySem.W.Frag) (mg : Str → Option Value) (C D cc cda : Addr) : Prop where
  cell : ∃ cl cld csl, K.lookup cc = some ⟨cl, cld, .cell (some (.ref D)), csl⟩
  code : ∃ ccl cdd vs ccs file tf, K.lookup cda = some ⟨ccl, cdd, .fields vs, ccs⟩ ∧ vs[2]? = some (.str file tf) ∧ ((P.main.file : Str) == file) = true
  clD : ∃ cdD, PySem.W.clsIn K D = some cdD
  sub : PySem.W.mroIn K C (.ref D) = some true
  suv : PySem.W.mroIn K C (.type "ValueError") = some true
  sup : mg "super" = none
  top : (P.main.scope.names.lookup ("super" : Str)).isSome = false
  any : PySem.W.nsIn K cStatics "thirdparty.any" = some none
  fnd : PySem.W.ks_superIn K C D "__init__" = some (some (.builtin "ValueError.__init__"))
  oex : OexC K C

section
variable {CX : CXT} {P : Program} {w : World} {K : PySem.W.Frag} {mg : Str → Option Value} {base : Heap} {k : Nat} {f cc cda : Addr} {name qual : Str} {params : Arguments} {scope : Scope} {dV kV doc pm ct oc : Value} {an od : Option Addr}
    {osl : Array (Option Value)} {N ps : List Str} {sp : Sp} {e : PySem.Expr} {es : List PySem.Expr} {rest : List Stmt} {p0 p1 apos pos epos : Pos} {pl : Sem Bool}
theorem fn_superE (lk : K.lookup f = some ⟨oc, od, .func (PySem.W.ksFn name qual params (.Expr (.Call (.Attribute (.Call (.Name "super" p0) [] [] p1) "__init__" apos) (e :: es) [] pos) epos :: rest) scope dV kV doc pm an (.ref cda) ct cc), osl⟩)
    (hcd : PySem.W.codeIn K (.ref cda) qual = true) (S : ScS N ps scope)
    {ar : Arg} (hp0 : (params.posonlyargs ++ params.args).head? = some ar) (hps : ps.head? = some ar.arg) (har : scope.names.lookup ar.arg = some .local)
    (hks : scope.names.lookup ("super" : Str) = some .globalImplicit) (hkc : scope.names.lookup ("__class__" : Str) = some .free)
    (len : ∀ vs H Q E, sp vs H Q E → vs.length = ps.length)
    (hbody : ∀ (A : Around) (outer : List Env) (s : Shared) (H : Hp) (vs : List V) (Q : VK) (E : XK), Room k (A.deeper (PySem.W.ksEnv qual scope s.heap.objs.size f (.ref cda) cc)) → sp vs H Q E →
      ∃ (x C D : Addr) (vs' : List V) (ta : TA) (u : TS), vs = .ref x :: vs' ∧ H x = some (exo x C none) ∧ SupE P K mg C D cc cda ∧
        PA (cxS CX P w K mg base N qual scope f (.ref cda) cc A outer s H E) (e :: es) ta ∧
        PSs (cxS CX P w K mg base N qual scope f (.ref cda) cc A outer s H E) rest u ∧
        ta (start N vs) H (fun ws H1 => ws.length ≤ 1000 ∧ H1 x = some (exo x C none) ∧ u { nx := fun _ H' => Q .non H', rt := Q } (start N vs) H1))
    (hi : ∀ L, interactive (PySem.W.ksEnv qual scope L f (.ref cda) cc) = false) (hsw : ∀ L, swapsWith (.Call (.Attribute (.Call (.Name "super" p0) [] [] p1) "__init__" apos) (e :: es) [] pos) none epos.line (PySem.W.ksEnv qual scope L f (.ref cda) cc) = pure false)
    (he : ∀ L, eval (.Call (.Attribute (.Call (.Name "super" p0) [] [] p1) "__init__" apos) (e :: es) [] pos) (PySem.W.ksEnv qual scope L f (.ref cda) cc) = (do
      let ov ← attributeBase (.Call (.Name "super" p0) [] [] p1) "__init__" (PySem.W.ksEnv qual scope L f (.ref cda) cc) (eval (.Call (.Name "super" p0) [] [] p1) (PySem.W.ksEnv qual scope L f (.ref cda) cc))
      standAt apos.atName
      let (fn, first) ← holding [ov] (getMethod ov "__init__" pl)
      callWith pos fn first (backTo pos (starEach (e :: es) (PySem.W.ksEnv qual scope L f (.ref cda) cc))) []))
    (hst : ∀ L, starEach (e :: es) (PySem.W.ksEnv qual scope L f (.ref cda) cc) = (false, eval e (PySem.W.ksEnv qual scope L f (.ref cda) cc)) :: starEach es (PySem.W.ksEnv qual scope L f (.ref cda) cc))
    (hpl : ∀ L, (backTo pos (starEach es (PySem.W.ksEnv qual scope L f (.ref cda) cc))).any (·.1) = false) :
    FnOk P w K mg base CX (k + 1) f (PySem.W.ksFn name qual params (.Expr (.Call (.Attribute (.Call (.Name "super" p0) [] [] p1) "__init__" apos) (e :: es) [] pos) epos :: rest) scope dV kV doc pm an (.ref cda) ct cc) ps sp := by
  refine ⟨len, fun A outer s H args us vs Q E hr e0 hb r hsp => ?_⟩
  have hl := len _ _ _ _ hsp
  have KX : K.In s.heap := e0.mod.kin.keeps fun b o e => (e0.bs b o e).1
  have lim : s.heap.NoLimit := e0.mod.nolimit.keeps fun b o e => (e0.bs b o e).1
  obtain ⟨x, C, D, vs', ta, u, rfl, hx, T, hta, hrest, hq⟩ := hbody A outer s H vs Q E (hr.deeper _) hsp
  obtain ⟨cl, cld, csl, hcell⟩ := T.cell
  obtain ⟨ccl, cdd, cvs, ccs, file, tf, hcode, hvs, hfile⟩ := T.code
  obtain ⟨cdD, hD⟩ := T.clD
  refine PySem.ks_codeAny_call_defAt (binds := ps.zip us) hr.depth (KX _ _ lk) rfl lim (PySem.W.codeRec_of KX hcd) rfl hb S.nocell (fun y hy => S.par y.1 (List.of_mem_zip hy).1) (fun h1 hns hk => ?_) S.co S.gen S.kind
  have I : Inv (cxS CX P w K mg base N qual scope f (.ref cda) cc A outer s H E) [] (start N (.ref x :: vs')) H { s with heap := h1, toks := s.toks + (ps.zip us).length } :=
    inv_startS (vs := .ref x :: vs') S hr.hd e0 hl r hcell rfl hns hk
  have hX : K.In h1 := I.kIn
  obtain ⟨t1, ho⟩ := exo_at I.hok hx
  have J : PySem.W.InstAt h1 x { cls := .ref C, dict := none, data := .fields #[.ref t1, .none, .none, .none, .bool false, .none] } C none := ⟨ho, rfl, rfl, trivial⟩
  obtain ⟨oD, hD1, hD2⟩ : ∃ oD, h1.get? D = some oD ∧ oD.data = .cls cdD := by
    unfold PySem.W.clsIn at hD
    split at hD
    · rename_i c d cd' sl ho
      cases hD
      exact ⟨_, hX _ _ ho, rfl⟩
    · cases hD
  refine PySem.ks_wpAt_execs_cons (PySem.ks_wpAt_Expr_any (PySem.ks_wpAt_MethodCall (pl := pl) ?_ (he _)) (hi _) (hsw _))
  refine PySem.ks_wpAt_super_base (env := PySem.W.ksEnv qual scope s.heap.objs.size f (.ref cda) cc) hks hkc (by decide) rfl (hX _ _ lk) rfl hp0 rfl (hX _ _ hcode) rfl hvs hfile T.top ?_
  obtain ⟨mb, hb1, hb2⟩ := I.mod.blt
  refine PySem.W.ks_loadName_global S.kind hks (Calls.loadGlobal_builtin (env := PySem.W.ksEnv qual scope s.heap.objs.size f (.ref cda) cc) (I.mod.glob.keeps I.bk) T.sup (hb1.keeps I.bk) ((hb2 _ (by decide +kernel)).trans (show bootBuiltins "super" = some (.type "super") by first | rfl | kernel_rfl)) ⟨rfl, ?_⟩)
  refine wpAny_loadName_free S.kind hkc (by show List.lookup _ [_] = _; simp [List.lookup]) ⟨_, hX _ _ hcell, rfl⟩ ?_
  have hself : (ps.zip us).reverse.lookup ar.arg = some (.ref x) := by
    match ps, us, hps, r with
    | p :: ps', u' :: us', hp', .cons ru _ =>
      have hp'' : p = ar.arg := by simpa using hp'
      subst hp''
      cases (show u' = Value.ref x from ru)
      have ndP : (ar.arg :: ps').Nodup := by
        have := S.pre
        rw [← this]
        exact S.nd.sublist (List.take_sublist _ _)
      exact rev_lookup (i := 0) ndP rfl rfl
  refine wpAny_loadName_local S.kind har hns hself ?_
  refine PySem.ks_wpAny_isType_cls hD1 hD2 ⟨rfl, ?_⟩
  refine PySem.ks_wpAny_call_super hD1 hD2 J.at_ J.cls (fun c e => nomatch e) (PySem.W.looks_mroIn hX T.sub) (fun h' hso k' => ?_)
  have I1 : Inv (cxS CX P w K mg base N qual scope f (.ref cda) cc A outer s H E) [(h1.objs.size, PySem.W.ks_superObj D x C)] (start N (.ref x :: vs')) H { s with heap := h', toks := s.toks + (ps.zip us).length } :=
    ClX.pin_new (s := { s with heap := h1, toks := s.toks + (ps.zip us).length }) (t' := s.toks + (ps.zip us).length) I k' (Nat.le_refl _) hso (fun v z => nomatch z)
  have hX' : K.In h' := I1.kIn
  have J' : PySem.W.InstAt h' x { cls := .ref C, dict := none, data := .fields #[.ref t1, .none, .none, .none, .bool false, .none] } C none := ⟨k' _ _ ho, rfl, rfl, trivial⟩
  have fnd := T.fnd
  cases hc : PySem.W.clsIn K C with
  | none => unfold PySem.W.ks_superIn at fnd; rw [hc] at fnd; cases fnd
  | some cdC =>
    unfold PySem.W.ks_superIn at fnd
    rw [hc] at fnd
    refine SE.getMethod_superv (h := h') hso (PySem.W.looks_opaque hX' T.any) (l₀ := cdC.mro) ?_ rfl hX' fnd (PySem.W.ks_ne hX J hc) (by decide) (J'.type.andThen (PySem.W.looks_mroIn hX' T.suv)) ?_
    · exact fun A Q E s k q => wpAny_bind ((PySem.W.looks_clsIn hX' hc) A _ E s k (wpAny_pure q))
    · have I2 := ClX.pin_new (s := { s with heap := h', toks := s.toks + (ps.zip us).length }) (o := SE.wv x) (t' := s.toks + (ps.zip us).length + 1) I1 (fun _ _ z => Heap.get?_push_of_some _ z) (Nat.le_refl _) (Heap.get?_push_size h' rfl) (fun v z => nomatch z)
      refine SE.callWith_wv (x := x) (thn (hta.run pos _ _ _ H _ I2 hq) fun us2 s3 ⟨ws, H2, I3, rv, hl2, hx2, q2⟩ => ⟨ClX.pin_at I3, ?_⟩) (hst _) (hpl _)
      obtain ⟨nm, q, N', bs, bm, sn, sub, ab, col, dd, k0, k1, k2, k3, k5, hCo, hbm⟩ := T.oex.cls
      obtain ⟨t2, ho2⟩ := exo_at I3.hok hx2
      have hu2 : s3.heap.get? h'.objs.size = some (SE.wv x) := ClX.pin_at I3
      have kC := I3.kIn
      obtain ⟨hp3, g3, d3, tk3, os3⟩ := s3
      refine SE.call_wv (kC _ _ hCo) ho2 hu2 (by rw [← Paired.length rv, sizeLine_eq]; omega) fun h4 t4 k4 hx4 => ?_
      have I4 := (ClX.unpin (ClX.unpin I3)).write (t' := tk3) (x := x) (e := x) (o := exo x C none) (by rw [hx2]; exact True.intro) (.inl rfl) k4 ⟨_, hx4⟩ (exo_ok hx4)
      have eu : upd H2 x (exo x C none) = H2 := by
        funext b
        by_cases hb : b = x
        · rw [hb, upd_same, hx2]
        · rw [upd_ne hb]
      rw [eu] at I4
      refine wpAt_of_wpAny (wpAny_mono (hrest.run [] _ _ H2 _ I4 q2) (fun fl s' hs => ?_) fun e s' hs => hs)
      have fin : ∀ {σ' : L2.St} {H' : Hp} {v : V} {u : Value}, Inv (cxS CX P w K mg base N qual scope f (.ref cda) cc A outer s H E) [] σ' H' s' → RelV v u → Q v H' → CE outer P w H s Q u s' :=
        fun {σ' H' v u} J rv q => ⟨v, H', J.os, J.bare, J.base, J.hok, rv, q⟩
      cases fl with
      | ret u =>
        obtain ⟨v, σ', H', J, rv, q⟩ := hs
        exact fin J rv q
      | next =>
        obtain ⟨σ', H', J, q⟩ := hs
        exact fin (v := V.non) (u := Value.none) J rfl q
      | brk =>
        obtain ⟨_, _, _, q⟩ := hs
        exact False.elim q
      | cont =>
        obtain ⟨_, _, _, q⟩ := hs
        exact False.elim q
end
end Ls
end
section
set_option Elab.async false
set_option linter.all false
set_option maxRecDepth 100000
set_option maxHeartbeats 4000000
namespace Ls
open PySem PySem.Spec PyProof.Rows L2

/-! ### defs that must know that no repr is under way -/
structure FnG (P : Program) (w : World) (K : PySem.W.Frag) (mg : Str → Option Value) (base : Heap) (CX : CXT) (k : Nat) (f : Addr) (fd : FuncData) (ps : List Str) (sp : Sp) : Prop where
  len : ∀ vs H Q E, sp vs H Q E → vs.length = ps.length
  run : ∀ (A : Around) (outer : List Env) (s : Shared) (H : Hp) (args : Args) (us : List Value) (vs : List V) (Q : VK) (E : XK), A.guards = some [] → Room k A → Env0 P w K mg base A outer s H → BindsTo s fd args (ps.zip us) → Vals vs us → sp vs H Q E →
    codeAny (model P w) A (.call (.ref f) args) (CR CX outer P w H s Q E) s
section
variable {P : Program} {w : World} {K : PySem.W.Frag} {mg : Str → Option Value} {base : Heap}
theorem FnG.of {CX : CXT} {k : Nat} {f : Addr} {fd : FuncData} {ps : List Str} {sp : Sp} (F : FnOk P w K mg base CX k f fd ps sp) : FnG P w K mg base CX k f fd ps sp := ⟨F.len, fun A outer s H args us vs Q E _ => F.run A outer s H args us vs Q E⟩
theorem okG {x qual : Str} {st : Stmt} {f : Addr} {fd : FuncData} {N ps : List Str} {k : Nat} {sp : Sp} (F : Fun K x qual st f fd) (S : FnScope N ps (defScope st)) (len : ∀ vs H Q E, sp vs H Q E → vs.length = ps.length)
    (hbody : ∀ (cdv : Value) (A : Around) (outer : List Env) (s : Shared) (H : Hp) (vs : List V) (Q : VK) (E : XK), fd.code = cdv → A.guards = some [] → Room k (A.deeper (envOfC qual (defScope st) s.heap.objs.size f cdv)) → sp vs H Q E →
      ∃ t, PSs (cxOf CX0 P w K mg base N qual (defScope st) f cdv A outer s H E).nox (defBody st) t ∧ t { nx := fun _ H' => Q .non H', rt := Q } (start N vs) H) : FnG P w K mg base CX0 (k + 1) f fd ps sp := by
  obtain ⟨oc, od, kV, doc, pm, an, cdv, ct, osl, rfl, lk, hcd⟩ := F.ex
  refine ⟨len, fun A outer s H args us vs Q E hg hr e0 hb r hs => ?_⟩
  refine LamX.run_ofS lk hcd S hr e0 hb r (len _ _ _ _ hs) fun hr' => ?_
  obtain ⟨t, h, q⟩ := hbody cdv A outer s H vs Q E rfl hg hr' hs
  exact ⟨t, h.nox, q⟩
end
section
variable (P : Program) (w : World) (K : PySem.W.Frag) (mg : Str → Option Value) (base : Heap) (CX : CXT) (k : Nat)
/-- the def under the module's name x keeps sp, where no repr is under way -/
structure CalG (x : Str) (sp : Sp) : Prop where
  ex : ∃ f fd ps, mg x = some (.ref f) ∧ PySem.W.keepIn K (.ref f) = true ∧ Binds K fd ps [] ∧ FnG P w K mg base CX k f fd ps sp
end
section
variable {X : Cx} {CX : CXT} {k : Nat} {sp : Sp} {E : XK} {x : Str} {p pos : Pos} {e : PySem.Expr} {es : List PySem.Expr} {t : TA}
theorem pe_calG (hgd : X.A.guards = some []) (c : CalG X.prog X.w X.K X.mg X.base CX k x sp) (hr : Room k X.A) (hg : Gl X x) (hx : Passes CX X E) (ha : PA X (e :: es) t) (hd : (x == ("__debug__" : Str)) = false := by decide)
    (he : starEach (e :: es) X.env = (false, eval e X.env) :: starEach es X.env := by rfl) (hpl : (backTo pos (starEach es X.env)).any (·.1) = false := by rfl) :
    PE X (.Call (.Name x p) (e :: es) [] pos) (tCl sp E t) := by
  obtain ⟨f, fd, ps, hm, hk, hb, F⟩ := c.ex
  refine ⟨fun pins s σ H Q I h => ?_⟩
  refine wpAny_Call_Name_kw (ld_glob I hg hm ?_ hd)
  refine PySem.W.callWith_K (h₀ := X.base) I.ok.mod.kin hk (thn (ha.run pos pins s σ H _ I h) fun us s1 ⟨vs, H1, I1, r, q⟩ => ⟨I1.kIn, ?_⟩) he hpl
  have hl : us.length = ps.length := by
    rw [← r.length]
    exact F.len _ _ _ _ q
  have bd := hb s1 us I1.kIn (by rw [List.append_nil]; exact hl)
  rw [List.append_nil] at bd
  refine wpAny_call (codeAny_mono (F.run X.A X.stack s1 H1 ⟨us, []⟩ us vs Q E hgd hr I1.env0 bd r q) fun res s' hq => ?_)
  match res, hq with
  | .error e, hq => exact hx pins σ H1 s1 e s' I1 hq
  | .ok (.ret u), hq => exact I1.after hq
end

/-! ### the top: tables of code objects, no repr under way -/
def tabH (T : List Addr) : Hp := fun b => if b ∈ T then some (.tbl #[]) else none
theorem tab_in {T : List Addr} {b : Addr} (h : b ∈ T) : tabH T b = some (.tbl #[]) := if_pos h
theorem tab_out {T : List Addr} {b : Addr} (h : b ∉ T) : tabH T b = none := if_neg h
/-- what is tracked at the start: the script (if it is no object of the module), the tables -/
theorem top_heap {P : Program} {w : World} {K : PySem.W.Frag} {a : Addr} {T : List Addr} {s : Shared} {vs : List Value} {ns : List Int} (KX : K.In s.heap) (hT : ∀ b ∈ T, s.heap.get? b = some { cls := .none, data := .fields #[] })
    (ha : s.heap.get? a = some { cls := .type "list", data := .seq vs.toArray }) (hi : IntsAre vs ns) (hl : ns.length ≤ sizeLine) :
    ∃ H : Hp, (∀ b ∈ T, H b = some (.tbl #[])) ∧ SqL K H a (ns.map V.int) ∧ HOk P w H s.heap ∧
      ∀ b u, H b = some u → (b ∈ T ∧ u = .tbl #[]) ∨ (b = a ∧ K.lookup a = none ∧ ∃ o xs, u = .frz o (.lst xs)) := by
  have rv := vals_ints hi
  have aT : a ∉ T := fun z => by
    have q := hT a z
    rw [ha] at q
    cases congrArg Obj.data (Option.some.inj q)
  cases hk : K.lookup a with
  | some o =>
    have e := KX a o hk
    rw [ha] at e
    cases e
    refine ⟨tabH T, fun b hb => tab_in hb, .inr ⟨_, vs.toArray, _, hk, rfl, rfl, rfl, by rw [List.size_toArray, hi.length]; exact hl, by simpa using rv⟩, fun b u z => ?_, fun b u z => ?_⟩
    · by_cases hb : b ∈ T
      · rw [tab_in hb] at z
        cases z
        exact hT b hb
      · rw [tab_out hb] at z
        cases z
    · by_cases hb : b ∈ T
      · rw [tab_in hb] at z
        exact .inl ⟨hb, (Option.some.inj z).symm⟩
      · rw [tab_out hb] at z
        cases z
  | none =>
    refine ⟨upd (tabH T) a (.frz { cls := .type "list", data := .seq vs.toArray } (.lst (ns.map V.int))), fun b hb => ?_, .inl (.inr ⟨_, upd_same⟩), fun b u z => ?_, fun b u z => ?_⟩
    · have nb : b ≠ a := fun e => aT (by rw [← e]; exact hb)
      rw [upd_ne nb]
      exact tab_in hb
    · by_cases hb : b = a
      · subst hb
        rw [upd_same] at z
        cases z
        exact ⟨ha, by rw [List.length_map]; exact hl, vs, _, rv, ha⟩
      · rw [upd_ne hb] at z
        by_cases hb : b ∈ T
        · rw [tab_in hb] at z
          cases z
          exact hT b hb
        · rw [tab_out hb] at z
          cases z
    · by_cases hb : b = a
      · subst hb
        rw [upd_same] at z
        exact .inr ⟨rfl, rfl, _, _, (Option.some.inj z).symm⟩
      · rw [upd_ne hb] at z
        by_cases hb : b ∈ T
        · rw [tab_in hb] at z
          exact .inl ⟨hb, (Option.some.inj z).symm⟩
        · rw [tab_out hb] at z
          cases z
theorem top_call {P : Program} {w : World} {K : PySem.W.Frag} {mg mb : Str → Option Value} {CX : CXT} {k : Nat} {fa a : Addr} {cs : List (Addr × Addr)} {fd : FuncData} {x : Str} {sp : Sp} {s : Shared} {vs : List Value} {ns : List Int}
    (KX : K.In s.heap) (gl : s.heap.Ns mainGlobals mg) (bl : s.heap.Ns builtinsNs mb) (bb : ∀ x : Str, x ≠ "__name__" → mb x = bootBuiltins x) (nl : s.heap.NoLimit) (gn : s.gens = #[])
    (hT : ∀ p ∈ cs, s.heap.get? p.2 = some { cls := .none, data := .fields #[] }) (nT : ∀ p ∈ cs, K.lookup p.2 = none) (C : ∀ p ∈ cs, PySem.W.CodeHd s.heap p.1 p.2)
    (hbm : ∃ (bm : Addr) (ob : Obj), mg "__builtins__" = some (.ref bm) ∧ bm ≠ builtinsNs ∧ s.heap.get? bm = some ob ∧ ob.cls = .type "module" ∧ ob.dict = some builtinsNs ∧ ob.data = .plain)
    (ha : s.heap.get? a = some { cls := .type "list", data := .seq vs.toArray }) (hi : IntsAre vs ns) (hl : ns.length ≤ sizeLine) (hr : Room k callerA)
    (F : ∀ base : Heap, K.In base → base.Ns mainGlobals mg → (∀ p ∈ cs, LamX.TabB base mg p.1 p.2) → (base.get? sysModules).isSome = true → FnG P w K mg base CX k fa fd [x] sp) (hsy : ∃ mm, s.heap.Ns sysModules mm) (hbind : ∀ (s : Shared) (u : Value), BindsTo s fd ⟨[u], []⟩ [(x, u)])
    (hsp : ∀ H : Hp, (∀ p ∈ cs, H p.2 = some (.tbl #[])) → SqL K H a (ns.map V.int) → sp [.ref a] H (fun v _ => v = .bl true) fun _ _ _ => False)
    (hCX : ∀ H e s', CX [] H s (fun _ _ _ => False) e s' → False) :
    codeAny (model P w) callerA (.call (.ref fa) ⟨[.ref a], []⟩) (fun r s' => r = .ok (.ret (.bool true)) ∧ OldK s.heap s'.heap ∧ s'.os = s.os ∧ AllBare s'.gens) s := by
  have hT' : ∀ b ∈ cs.map (·.2), s.heap.get? b = some { cls := .none, data := .fields #[] } := fun b hb => by
    obtain ⟨p, hp, rfl⟩ := List.mem_map.mp hb
    exact hT p hp
  obtain ⟨H, H1, H2, H3, H4⟩ := top_heap (P := P) (w := w) KX hT' ha hi hl
  -- what is no list and no empty record is not tracked
  have un : ∀ {b : Addr} {o : Obj}, s.heap.get? b = some o → (∀ l n, o.data ≠ .seq l n) → o.data ≠ .fields #[] → H b = none := fun {b o} e n1 n2 => by
    cases q : H b with
    | none => rfl
    | some u =>
      rcases H4 b u q with ⟨hb, _⟩ | ⟨hb, _⟩
      · rw [hT' b hb] at e
        cases e
        exact absurd rfl n2
      · rw [hb, ha] at e
        cases e
        exact absurd rfl (n1 _ _)
  have ns' : ∀ {b : Addr} {m : Str → Option Value}, s.heap.Ns b m → (hidT s.heap H).Ns b m := fun {b m} ⟨o, es, ep, e, d, r⟩ =>
    ⟨o, es, ep, hidT_get e (un e (fun l n z => by rw [d] at z; cases z) fun z => by rw [d] at z; cases z), d, r⟩
  have kb : K.In (hidT s.heap H) := fun b o e => hidT_get (KX b o e) (by
    cases q : H b with
    | none => rfl
    | some u =>
      rcases H4 b u q with ⟨hb, _⟩ | ⟨hb, hn, _⟩
      · obtain ⟨p, hp, rfl⟩ := List.mem_map.mp hb
        rw [nT p hp] at e
        cases e
      · rw [hb, hn] at e
        cases e)
  have TB : ∀ p ∈ cs, LamX.TabB (hidT s.heap H) mg p.1 p.2 := fun p hp => by
    refine ⟨?_, ?_, fun z => ?_⟩
    · obtain ⟨o, us, file, tf, flags, tg, inF, text, tt, e1, r1, r2, r3, rest⟩ := C p hp
      refine ⟨o, us, file, tf, flags, tg, inF, text, tt, hidT_get e1 (un e1 (fun l n z => by rw [r2] at z; cases z) fun z => ?_), r1, r2, r3, rest⟩
      rw [r2] at z
      cases z
      simp at r3
    · obtain ⟨bm, ob, b1, b2, b3, b4, b5, b6⟩ := hbm
      refine ⟨bm, ob, b1, b2, fun q => ?_, fun q => ?_, hidT_get b3 (un b3 (fun l n z => by rw [b6] at z; cases z) fun z => by rw [b6] at z; cases z), b4, b5, b6⟩
      · obtain ⟨o, es, ep, e, d, _⟩ := gl
        rw [q, e] at b3
        cases b3
        rw [d] at b6
        cases b6
      · rw [q, hT p hp] at b3
        cases b3
        cases b6
    · obtain ⟨o, es, ep, e, d, _⟩ := gl
      rw [z, hT p hp] at e
      cases e
      cases d
  have sy : ((hidT s.heap H).get? sysModules).isSome = true := by
    obtain ⟨mm, z⟩ := hsy
    obtain ⟨o, _, _, e, _⟩ := ns' z
    rw [e]
    rfl
  have md : L2.Mod K mg (hidT s.heap H) := ⟨kb, ns' gl, ⟨mb, ns' bl, bb⟩, by
    obtain ⟨mc, z1, z2⟩ := nl
    exact ⟨mc, ns' z1, z2⟩⟩
  have e0 : Env0 P w K mg (hidT s.heap H) callerA [] s H := ⟨rfl, md, fun b o e => of_hidT e, Nat.le_of_eq (hidT_size _ _), trivial, fun b hb => absurd (show b ∈ ([] : List Addr) from hb) (by simp), H3, .of_eq gn⟩
  refine codeAny_mono ((F _ kb (ns' gl) TB sy).run callerA [] s H ⟨[.ref a], []⟩ [.ref a] [.ref a] _ _ rfl hr e0 (hbind s (.ref a)) (.cons rfl .nil) (hsp H (fun p hp => H1 _ (List.mem_map.mpr ⟨p, hp, rfl⟩)) H2)) fun r s' h => ?_
  match r, h with
  | .error e, h => exact (hCX H e s' h).elim
  | .ok (.ret u), h =>
    obtain ⟨v, H', os, bare, U, hok', rv, q⟩ := h
    cases (show v = .bl true from q)
    cases (show u = Value.bool true from rv)
    have stays : ∀ b o, s.heap.get? b = some o → s'.heap.get? b = some o ∨ (b ∈ cs.map (·.2) ∧ ∃ more : Array Value, s'.heap.get? b = some { cls := .none, data := .fields more }) := fun b o e => by
      cases q : H b with
      | none => exact .inl (U.keep b o e q (fun z => absurd (show b ∈ ([] : List Addr) from z) (by simp)) (by simp))
      | some u =>
        rcases H4 b u q with ⟨hb, hu⟩ | ⟨hb, _, ob, xs, hu⟩
        · obtain ⟨more, z⟩ := U.tbls b #[] (by rw [q, hu])
          exact .inr ⟨hb, _, hok' b _ z⟩
        · rw [hu] at q
          obtain ⟨z1, _⟩ := H3 b _ q
          obtain ⟨z2, _⟩ := hok' b _ (U.frzs b ob _ q)
          rw [e] at z1
          cases z1
          exact .inl z2
    refine ⟨rfl, ⟨fun b o e => ?_, fun b o e => ?_⟩, os, bare⟩
    · rcases stays b o e with z | ⟨hb, more, z⟩
      · exact .inl z
      · rw [hT' b hb] at e
        cases e
        obtain ⟨p, hp, rfl⟩ := List.mem_map.mp hb
        exact .inr (.inl ⟨((C p hp).tab (hT p hp)).isCodeTable, rfl, #[], more, rfl, by rw [Array.empty_append]; exact z⟩)
    · rcases stays b o e with z | ⟨hb, more, z⟩
      · exact ⟨o, z⟩
      · exact ⟨_, z⟩

/-- the law's promise at the head's heap h -/
def LawG (l : PySem.W.OpenLaw) (w : World) (K : PySem.W.Frag) (CX : CXT) (k n : Nat) (x : Str) (mg : Str → Option Value) (fa : Addr) (h : Heap) : Prop :=
  ∃ (fd : FuncData) (cs : List (Addr × Addr)) (sp : Sp), (∀ p ∈ cs, h.get? p.2 = some { cls := .none, data := .fields #[] }) ∧ (∀ p ∈ cs, K.lookup p.2 = none) ∧ (∀ p ∈ cs, PySem.W.CodeHd h p.1 p.2) ∧ (∀ (s : Shared) (u : Value), BindsTo s fd ⟨[u], []⟩ [(x, u)]) ∧
    (∀ (H : Hp) (a : Addr) (ns : List Int), ns.length ≤ n → (∀ z ∈ ns, Builtin.Int.intBits z ≤ 1048576) → (∀ p ∈ cs, H p.2 = some (.tbl #[])) → SqL K H a (ns.map V.int) → sp [.ref a] H (fun v _ => v = .bl true) fun _ _ _ => False) ∧
    ∀ base : Heap, K.In base → base.Ns mainGlobals mg → (∀ p ∈ cs, LamX.TabB base mg p.1 p.2) → (base.get? sysModules).isSome = true → FnG l.prog w K mg base CX k fa fd [x] sp
/-- the def under the module's name x: its code object's table is empty -/
theorem tab_of {q : Program} {loose : List Str} {mean : ExcName → Option Value} {mg mb : Str → Option Value} {h : Heap} {K : PySem.W.Frag} {x : Str} {fx : Addr} (T : Top q loose mean mg mb h) (KX : K.In h) (hx : ((recsOf q).any fun e => e.name == x) = true) (hm : mg x = some (.ref fx)) : LamX.OwnTab K fx h := by
  intro c P o fd e dd vs sl k1 k2 k3 k4 k5
  obtain ⟨r, hr, hn⟩ := List.any_eq_true.mp hx
  obtain ⟨a', o', fd', c', P', h1, h2, h3, h4, h5, ⟨oc, vc, e1, _, e3, e4⟩, hP⟩ := T.tab r hr
  rw [beq_iff_eq.mp hn, hm] at h1
  cases h1
  rw [KX _ _ k1] at h2
  cases h2
  rw [k2] at h3
  cases h3
  rw [k3] at h4
  cases h4
  rw [KX _ _ k4] at e1
  cases e1
  cases e3
  rw [k5] at e4
  cases e4
  exact hP
theorem walk_G {l : PySem.W.OpenLaw} {n k : Nat} {q : Program} {loose : List Str} {XP : (Str → Option Value) → Heap → Prop} {YP : World → Heap → Prop} {d : DefRec} {K : Params → PySem.W.Frag} {CX : World → CXT} {x : Str}
    (hn : l.most = some n) (hn2 : n ≤ sizeLine) (hdf : d.params.defaults = []) (hr : Room k callerA) (him : importsNone q = true) (hY : ∀ (w : World) (h : Heap), YP w h → (K w.params).In h)
    (F : ∀ (w : World) (mg : Str → Option Value) (fa : Addr) (h : Heap), YP w h → (K w.params).In h → h.Ns mainGlobals mg → mg d.name = some (.ref fa) →
      (∀ (x : Str) (fx : Addr), ((recsOf q).any fun e => e.name == x) = true → mg x = some (.ref fx) → LamX.OwnTab (K w.params) fx h) → LawG l w (K w.params) (CX w) k n x mg fa h)
    (hCX : ∀ (w : World) (H : Hp) (s : Shared) (e : Value) (s' : Shared), CX w [] H s (fun _ _ _ => False) e s' → False) :
    PySem.W.WalkO q loose XP YP l.row.toRowW d [] (fun f vs => PySem.call f vs) := by
  refine Att.attach_callB hn hdf fun w s₀ s₁ mg mb fa o pm cd doc a vs ns G Y ho hd hcd hmg hobj hints hlen hbits hg => ?_
  have KX := hY w _ Y
  obtain ⟨fd, cs, sp, hT, nT, C, hb, hsp, hF⟩ := F w mg fa _ Y KX G.T.g hmg fun x fx z1 z2 => tab_of G.T KX z1 z2
  obtain ⟨mm, z, _⟩ := (G.T.seer him).mods
  exact top_call KX G.T.g G.T.b G.T.builtins G.T.nolimit hg hT nT C G.T.bmain hobj hints (Nat.le_trans hlen hn2) hr hF ⟨mm, z⟩ hb (fun H hH hS => hsp H a ns hlen hbits hH hS) fun H e s' => hCX w H s₁ e s'
end Ls
end
section
set_option Elab.async false
set_option linter.all false
set_option maxRecDepth 100000
set_option maxHeartbeats 4000000
namespace Ls
open PySem PySem.Spec PyProof.Rows L2

/-! ### a value as plain data; repr -/
mutual
inductive TV (H : Hp) : V → PyData → Prop
  | non : TV H .non .none
  | bl (b : Bool) : TV H (.bl b) (.bool b)
  | int (i : Int) : TV H (.int i) (.int i)
  | str (x : Str) : TV H (.str x) (.str x)
  | lst {a : Addr} {xs : List V} {ds : List PyData} (e : H a = some (.lst xs)) (h : TVs H xs ds) : TV H (.ref a) (.list ds)
  | tup {a : Addr} {xs : List V} {ds : List PyData} (e : H a = some (.tup xs)) (h : TVs H xs ds) : TV H (.ref a) (.tuple ds)
  | dct {a : Addr} {kvs : List (Key × V)} {ds : List (PyData × PyData)} (e : H a = some (.dK kvs)) (hk : TVs H (kvs.map fun p => kV p.1) (ds.map (·.1))) (hv : TVs H (kvs.map (·.2)) (ds.map (·.2))) : TV H (.ref a) (.dict ds)
inductive TVs (H : Hp) : List V → List PyData → Prop
  | nil : TVs H [] []
  | cons {v : V} {vs : List V} {d : PyData} {ds : List PyData} (h : TV H v d) (hs : TVs H vs ds) : TVs H (v :: vs) (d :: ds)
end
mutual
theorem TV.ext {H H' : Hp} (e : Ext H H') : ∀ {v : V} {d : PyData}, TV H v d → TV H' v d
  | _, _, .non => .non
  | _, _, .bl b => .bl b
  | _, _, .int i => .int i
  | _, _, .str x => .str x
  | _, _, .lst q h => .lst (e _ _ q) (h.ext e)
  | _, _, .tup q h => .tup (e _ _ q) (h.ext e)
  | _, _, .dct q h1 h2 => .dct (e _ _ q) (h1.ext e) (h2.ext e)
theorem TVs.ext {H H' : Hp} (e : Ext H H') : ∀ {vs : List V} {ds : List PyData}, TVs H vs ds → TVs H' vs ds
  | _, _, .nil => .nil
  | _, _, .cons h hs => .cons (h.ext e) (hs.ext e)
end
section
variable {X : Cx} {pins : List (Addr × Obj)} {σ : L2.St} {H : Hp} {s : Shared}
theorem pairs_keys {P : Program} {w : World} : ∀ {es : List DictEntry} {vs : List (Key × Value)} {kvs : List (Key × V)}, Pairs (mixKind P w) es vs → KV kvs vs → Vals (kvs.map fun p => kV p.1) (es.map (·.key)) ∧ Vals (kvs.map (·.2)) (es.map (·.val))
  | _, _, _, .nil, .nil => ⟨.nil, .nil⟩
  | _, _, _, .cons (kv := kv) h1 h2 h, .cons (a := q) ⟨e1, e2⟩ r => by
    obtain ⟨z1, z2⟩ := pairs_keys h r
    refine ⟨.cons ?_ z1, .cons (by dsimp only; rw [h2]; exact e2) z2⟩
    dsimp only
    rw [e1]
    rcases keyIs_shape h1 with ⟨i, t, ek, ev⟩ | ⟨x, t, ek, ev⟩
    · rw [ek, ev]
      exact ⟨t, rfl⟩
    · rw [ek, ev]
      exact ⟨t, rfl⟩
mutual
/-- what is told of a value as data is so in the heap; none of its lists and dicts is the table of modules -/
theorem reads_of (I : Inv X pins σ H s) (hs : H sysModules = none) : ∀ {v : V} {d : PyData} {u : Value}, TV H v d → RelV v u → ∃ as, Reads s.heap u d as ∧ sysModules ∉ as
  | _, _, _, .non, r => by
    cases r
    exact ⟨[], .none, by simp⟩
  | _, _, _, .bl b, r => by
    cases r
    exact ⟨[], .bool b, by simp⟩
  | _, _, _, .int i, r => by
    obtain ⟨t, rfl⟩ := r
    exact ⟨[], .int i t, by simp⟩
  | _, _, _, .str x, r => by
    obtain ⟨t, rfl⟩ := r
    exact ⟨[], .str x t, by simp⟩
  | .ref a, _, _, .lst e h, r => by
    cases r
    obtain ⟨_, its, n, rv, ho⟩ := (show ObjOk X.prog X.w H s.heap a (.lst _) from I.hok a _ e)
    obtain ⟨as, h1, h2⟩ := readsAll_of I hs h rv
    refine ⟨a :: as, .list ho rfl rfl (by simpa using h1), fun z => ?_⟩
    rcases List.mem_cons.mp z with z | z
    · rw [z, e] at hs
      cases hs
    · exact h2 z
  | .ref a, _, _, .tup e h, r => by
    cases r
    obtain ⟨_, its, rv, o, ho, hc, n, hd⟩ := (show ObjOk X.prog X.w H s.heap a (.tup _) from I.hok a _ e)
    obtain ⟨as, h1, h2⟩ := readsAll_of I hs h rv
    exact ⟨as, .tuple ho hc hd (by simpa using h1), h2⟩
  | .ref a, _, _, .dct e h1 h2, r => by
    cases r
    obtain ⟨_, _, vs, rk, o, es, ep, ho, hx, hd, _, hp, _⟩ := dk_of I.hok e
    obtain ⟨k1, k2⟩ := pairs_keys hp rk
    obtain ⟨as, a1, a2⟩ := readsAll_of I hs h1 k1
    obtain ⟨bs, b1, b2⟩ := readsAll_of I hs h2 k2
    refine ⟨a :: as ++ bs, .dict ho hx.1 hd a1 b1, fun z => ?_⟩
    rcases List.mem_append.mp z with z | z
    · rcases List.mem_cons.mp z with z | z
      · rw [z, e] at hs
        cases hs
      · exact a2 z
    · exact b2 z
theorem readsAll_of (I : Inv X pins σ H s) (hs : H sysModules = none) : ∀ {vs : List V} {ds : List PyData} {us : List Value}, TVs H vs ds → Vals vs us → ∃ as, ReadsAll s.heap us ds as ∧ sysModules ∉ as
  | _, _, _, .nil, .nil => ⟨[], .nil, by simp⟩
  | _, _, _, .cons h t, .cons r rs => by
    obtain ⟨as, a1, a2⟩ := reads_of I hs h r
    obtain ⟨bs, b1, b2⟩ := readsAll_of I hs t rs
    exact ⟨as ++ bs, .cons a1 b1, fun z => (List.mem_append.mp z).elim a2 b2⟩
end
end
/-- repr(x), x plain data -/
def rRepr : List V → Hp → VK → Prop := fun xs H Q => ∃ (v : V) (d : PyData), xs = [v] ∧ TV H v d ∧ d.showable = true ∧ d.depth ≤ 60 ∧ d.shown.length ≤ sizeLine ∧ Q (.str d.shown) H
theorem call_repr {X : Cx} {k : Nat} (hg : X.A.guards = some []) (hr : Room k X.A) (hb : (X.base.get? sysModules).isSome = true) : CallR X (.builtin "repr") rRepr := by
  intro pins s σ H xs us Q I r h
  obtain ⟨v, d, rfl, h, hs, hd, hz, q⟩ := h
  obtain ⟨u, rfl, rv⟩ := vals1 r
  have h0 : H sysModules = none := by
    obtain ⟨o, e⟩ := Option.isSome_iff_exists.mp hb
    exact (I.bs _ _ e).2
  cases h with
  | non =>
    cases rv
    exact PySem.P.repr_of_none ⟨.str _, H, I.tok _, ⟨_, rfl⟩, q⟩
  | bl b =>
    cases rv
    exact PySem.P.repr_of_bool ⟨.str _, H, I.tok _, ⟨_, rfl⟩, q⟩
  | int i =>
    obtain ⟨t, rfl⟩ := rv
    exact PySem.P.repr_of_int (of_decide_eq_true hs) ⟨.str _, H, I.tok _, ⟨_, rfl⟩, q⟩
  | str x =>
    obtain ⟨t, rfl⟩ := rv
    exact PySem.P.repr_of_str ⟨.str _, H, I.tok _, ⟨_, rfl⟩, q⟩ hz
  | lst e h =>
    obtain ⟨as, R, n⟩ := reads_of I h0 (.lst e h) rv
    cases rv
    exact repr_of_reads' R hs (fun _ => n) hg (by have := hr.units; omega) (fun _ _ z => z) (fun h' u tk k => ⟨.str _, H, I.kept (t' := tk) k, ⟨_, rfl⟩, q⟩) hz
  | tup e h =>
    obtain ⟨as, R, n⟩ := reads_of I h0 (.tup e h) rv
    cases rv
    exact repr_of_reads' R hs (fun _ => n) hg (by have := hr.units; omega) (fun _ _ z => z) (fun h' u tk k => ⟨.str _, H, I.kept (t' := tk) k, ⟨_, rfl⟩, q⟩) hz
  | dct e h1 h2 =>
    obtain ⟨as, R, n⟩ := reads_of I h0 (.dct e h1 h2) rv
    cases rv
    exact repr_of_reads' R hs (fun _ => n) hg (by have := hr.units; omega) (fun _ _ z => z) (fun h' u tk k => ⟨.str _, H, I.kept (t' := tk) k, ⟨_, rfl⟩, q⟩) hz
end Ls
end
section
set_option Elab.async false
set_option linter.all false
set_option maxRecDepth 100000
set_option maxHeartbeats 4000000
namespace Ls
open PySem PySem.Spec PyProof.Rows L2 LamX

/-! ### heard(lambda: ..): what is wished of an exception may hang on the hearer's slots -/
section
variable {X : Cx} {pins : List (Addr × Obj)} {σ : L2.St} {H : Hp} {s : Shared}
theorem pe_actS {CXg : CXT} {Eg : XK} {Ng : List Str} {qg : Str} {sg : Scope} {g f c' : Addr} {cdg pm ctv : Value} {params : Arguments} {body : PySem.Expr} {scope : Scope} {k i : Nat} {a : Str} {pn : List (Addr × Obj)} {xe : Value → Shared → Prop} {W : WX} {tb : XK → TE} {p1 p2 : Pos}
    (I : Inv X pins σ H s) (L : LamS X.env.scope scope) (hf : s.heap.get? f = some (PySem.W.kla_obj "<lambda>" (X.env.qual ++ "<lambda>") params body scope (cloFrom X.env.cells scope.names []) pm c' ctv)) (hfn : H f = none) (hfr : f ∉ frs X.stack)
    (hbind : bindArgs (PySem.W.kla_fn "<lambda>" (X.env.qual ++ "<lambda>") params body scope (cloFrom X.env.cells scope.names []) pm (.ref c') ctv) ⟨[], []⟩ = pure [])
    (tk : Takes ((cxOf CXg X.prog X.w X.K X.mg X.base Ng qg sg g cdg X.A X.stack s H Eg).tr pn xe) W) (hr : Room (k + 1) (X.A.deeper (envOfC qg sg s.heap.objs.size g cdg)))
    (hbody : ∀ (A : Around) (outer : List Env) (s : Shared) (H : Hp) (E : XK), Room k (A.deeper (lamEnv X scope s.heap.objs.size f c')) → PE (lamCx X A outer s H E scope f c') body (tb E))
    (hN : Ng[i]? = some a) (hv : Vis sg a) (hd : (a == ("__debug__" : Str)) = false := by decide) (hcd : (a == ("__classdict__" : Str)) = false := by decide) :
    PE ((cxOf CXg X.prog X.w X.K X.mg X.base Ng qg sg g cdg X.A X.stack s H Eg).tr pn xe) (.Call (.Name a p1) [] [] p2)
      (fun σZ HZ Q => σZ[i]? = some (some (.ref f)) ∧ HZ c' = some (CodeO c' (X.env.qual ++ "<lambda>")) ∧ tb (fun cls d H' => W cls d σZ H') σ HZ Q) := by
  refine ⟨fun pinsZ sZ σZ HZ Q IZ h => ?_⟩
  obtain ⟨hs, hc, ht⟩ := h
  -- the same with the wish at these very slots: the library's rule over a wish of its own
  refine wpAny_Call_Name_kw (thn ((pe_var (pos := p1) (i := i) hN hv hd hcd).run pinsZ sZ σZ HZ (fun v H1 => v = .ref f ∧ H1 = HZ) IZ ⟨.ref f, hs, rfl, rfl⟩) fun u s1 ⟨v, H1, I1, r1, q1⟩ => ?_)
  obtain ⟨ev, eH⟩ := q1
  subst ev
  rw [eH] at I1
  obtain rfl : u = Value.ref f := r1
  have of1 := I1.base.keep f _ hf hfn hfr (fun z => nomatch (show f ∈ ([] : List Addr) from z))
  refine PySem.W.callWith_F0 ⟨_, _, _, _, of1⟩ ?_
  have un : Un (frs X.stack) [] H HZ s.heap s1.heap := I1.base
  obtain ⟨⟨oc, vs, t, hoc, hdc, hvc⟩, _, _⟩ := I1.hok c' _ hc
  have rc : codeAny (model X.prog X.w) (X.A.deeper (envOfC qg sg s.heap.objs.size g cdg)) (.call (.ref f) ⟨[], []⟩) (CR (L2.CX X.prog X.w) (envOfC qg sg s.heap.objs.size g cdg :: X.stack) X.prog X.w HZ s1 Q (fun cls d H' => W cls d σZ H')) s1 := by
    refine PySem.W.kla_callFunE hr.depth of1 rfl L.co L.gen rfl ⟨c', oc, vs, t, rfl, hoc, hdc, hvc⟩ ?_
    rw [hbind]
    refine wpAny_pure (wpAny_newFunctionEnv (fun y hy => (L.own y hy).2) (fun y hy => absurd hy (by simp)) (fun h₁ hns hsb => ⟨I1.nolimit.fresh _ hsb, ?_⟩) L.kind)
    show codeAny _ _ (.expr body (lamEnv X scope s1.heap.objs.size f c')) _ _
    have J := lam_start2 (E := fun cls d H' => W cls d σZ H') (f := f) (c' := c') (tk := s1.toks + ([] : List (Str × Value)).length) I L I1.env0 hr.hd un hns fun b o e => hsb.extBut b o (Nat.ne_of_lt (Heap.lt_size e)) (Heap.get?_push_of_some _ e)
    refine PySem.W.kla_codeExpr (wpAny_mono ((hbody _ _ s1 HZ _ (hr.deeper _)).run [] _ _ HZ Q J ht) (fun v s' hq => ?_) fun e s' hq => hq)
    obtain ⟨w', H', J', rv, q⟩ := hq
    exact ⟨w', H', J'.os, J'.bare, J'.base, J'.hok, rv, q⟩
  refine wpAny_call (codeAny_mono rc fun r s' hq => ?_)
  match r, hq with
  | .error e, hq => exact tk e s' (XE.of_call I1 (fun cls d H' h => h) hq)
  | .ok (.ret u), hq => exact I1.after hq
end
/-- the def that calls what it got; TT: what it makes of the lambda's reading -/
def GivesP (P : Program) (w : World) (K : PySem.W.Frag) (mg : Str → Option Value) (base : Heap) (A : Around) (stack : List Env) (Ng : List Str) (x : Str) (sg : Scope) (g : Addr) (cdg : Value) (bg : List Stmt) (a : Str) (q : Str) (TT : (XK → Hp → VK → Prop) → Hp → VK → Prop) : Prop :=
  ∀ (f c' : Addr) (s : Shared) (H : Hp) (Q : VK) (tl : XK → Hp → VK → Prop),
    (∀ (W : WX) (pn : List (Addr × Obj)) (xe : Value → Shared → Prop) (p1 p2 : Pos), Takes ((cxOf C8.CX0 P w K mg base Ng x sg g cdg A stack s H C8.E0).tr pn xe) W →
      PE ((cxOf C8.CX0 P w K mg base Ng x sg g cdg A stack s H C8.E0).tr pn xe) (.Call (.Name a p1) [] [] p2) (fun σZ HZ Q => σZ[0]? = some (some (.ref f)) ∧ HZ c' = some (CodeO c' q) ∧ tl (fun cls d H' => W cls d σZ H') HZ Q)) →
    H c' = some (CodeO c' q) → TT tl H Q →
    ∃ t, PSs (cxOf C8.CX0 P w K mg base Ng x sg g cdg A stack s H C8.E0).nox bg t ∧ t { nx := fun _ H' => Q .non H', rt := Q } (L2.start Ng [.ref f]) H
def GivesS (X : Cx) (Ng : List Str) (x : Str) (sg : Scope) (g : Addr) (cdg : Value) (bg : List Stmt) (a : Str) (q : Str) (TT : (XK → Hp → VK → Prop) → Hp → VK → Prop) : Prop :=
  GivesP X.prog X.w X.K X.mg X.base X.A X.stack Ng x sg g cdg bg a q TT
section
variable {X : Cx}
/-- x(lambda: body) -/
theorem pe_lamS {T : List (Addr × Str)} {TT : (XK → Hp → VK → Prop) → Hp → VK → Prop} {x a : Str} {g c P : Addr} {k : Nat} {st : Stmt} {fd : FuncData} {Ng : List Str}
    {params : Arguments} {body : PySem.Expr} {scope : Scope} {t : XK → TE} {p lpos pos : Pos} (F : Fun X.K x x st g fd) (hg : Gl X x) (hm : X.mg x = some (.ref g))
    (hb : L2.Binds X.K fd [a] []) (Sg : FnScope Ng [a] (defScope st)) (hNg : Ng[0]? = some a) (hva : Vis (defScope st) a)
    (hG : ∀ cdv, GivesS X Ng x (defScope st) g cdv (defBody st) a (X.env.qual ++ "<lambda>") TT)
    (TB : TabB X.base X.mg c P) (hcode : X.env.code = .ref c) (hmT : (P, X.env.qual ++ "<lambda>") ∈ T) (hu : ∀ p ∈ T, p.1 = P → p.2 = X.env.qual ++ "<lambda>") (hr : Room (k + 2) X.A) (L : LamS X.env.scope scope) (hdef : defaultsOf params X.env = ([], []))
    (hbind : ∀ (q : Str) (cl : List (Str × Addr)) (pm cv ctv : Value), bindArgs (PySem.W.kla_fn "<lambda>" q params body scope cl pm cv ctv) ⟨[], []⟩ = pure [])
    (hbody : ∀ (A : Around) (outer : List Env) (s : Shared) (H : Hp) (E : XK) (f c' : Addr), Room k (A.deeper (lamEnv X scope s.heap.objs.size f c')) → PE (lamCx X A outer s H E scope f c') body (t E))
    (hdb : (x == ("__debug__" : Str)) = false := by decide) (hd : (a == ("__debug__" : Str)) = false := by decide) (hcd : (a == ("__classdict__" : Str)) = false := by decide) :
    PE X (.Call (.Name x p) [.Lambda params body scope lpos] [] pos) (tLam T TT t) := by
  obtain ⟨oc, od, kV, doc, pm, an, cdv, ct, osl, rfl, lk, hcg⟩ := F.ex
  refine ⟨fun pins s σ H Q I h => ?_⟩
  obtain ⟨hT, h⟩ := h
  refine wpAny_Call_Name_kw (ld_glob I hg hm ?_ hdb)
  refine PySem.W.callWith_K (h₀ := X.base) I.ok.mod.kin F.kp ?_ (by rfl) (by rfl)
  show wpAny _ _ (spliced ((false, eval (.Lambda params body scope lpos) X.env) :: backTo pos (starEach [] X.env))) _ _ s
  refine Calls.spliced_cons (lam_make2 I TB hcode hmT hu hT hdef (L.has I.ok) fun f c' pm' ctv H1 s' I1 eN T1 hf hfn hfr hco => Calls.spliced_nil ⟨I1.kIn, ?_⟩)
  have rc : codeAny (model X.prog X.w) X.A (.call (.ref g) ⟨[.ref f], []⟩) (CR C8.CX0 X.stack X.prog X.w H1 s' Q C8.E0) s' := by
    refine run_ofS (N := Ng) (ps := [a]) (us := [.ref f]) (vs := [.ref f]) lk hcg Sg hr I1.env0 (hb s' [.ref f] I1.kIn rfl) (.cons rfl .nil) rfl fun hr' => ?_
    obtain ⟨t', ht', hq'⟩ := hG cdv f c' s' H1 Q (fun E H' Q' => t E σ H' Q') (fun W pn xe p1 p2 tk => pe_actS (i := 0) I1 L hf hfn hfr (hbind _ _ _ _ _) tk hr' (fun A outer s H E hr2 => hbody A outer s H E f c' hr2) hNg hva hd hcd) hco (h H1 eN T1)
    exact ⟨t', ht'.nox, hq'⟩
  refine wpAny_call (codeAny_mono rc fun r s2 hq => ?_)
  match r, hq with
  | .error e, hq => exact (show False from hq).elim
  | .ok (.ret u), hq => exact I1.after hq
end
end Ls
end
section
set_option Elab.async false
set_option linter.all false
set_option maxRecDepth 100000
set_option maxHeartbeats 4000000
namespace Ls
open PySem PySem.Spec PyProof.Rows L2

theorem atI_at {α : Type} {xs : List α} {i : Int} {j : Nat} {v : α} (e : i = (j : Int)) (h : xs[j]? = some v) : atI xs i = some v := by
  rw [e]
  exact atI_nat h
theorem Paired.at_ {α β : Type} {F : α → β → Prop} : ∀ {l₁ : List α} {l₂ : List β} {i : Nat} {a : α}, Paired F l₁ l₂ → l₁[i]? = some a → ∃ b, l₂[i]? = some b ∧ F a b
  | _, _, _, _, .nil, h => by simp at h
  | _, _, 0, _, .cons r _, h => by simp at h; subst h; exact ⟨_, rfl, r⟩
  | _, _, i + 1, a, .cons _ t, h => by
    obtain ⟨b, h1, h2⟩ := Paired.at_ (i := i) (a := a) t (by simpa using h)
    exact ⟨b, by simpa using h1, h2⟩
theorem ext_free {H H' : Hp} (e : Ext H H') {a : Addr} (h : H' a = none) : H a = none := by
  cases q : H a with
  | none => rfl
  | some o => rw [e a o q] at h; cases h

/-! ### what is seen of a heap: without the places S, without the tables of code objects -/
def vis (S : List Addr) (H : Hp) : Hp := fun b => if b ∈ S then none else match H b with | some (.tbl _) => none | o => o
theorem vis_some {S : List Addr} {H : Hp} {b : Addr} {o : HO} (h : vis S H b = some o) : b ∉ S ∧ H b = some o ∧ ∀ ps, o ≠ .tbl ps := by
  unfold vis at h
  by_cases e : b ∈ S
  · rw [if_pos e] at h
    cases h
  · rw [if_neg e] at h
    cases q : H b with
    | none => rw [q] at h; cases h
    | some u =>
      rw [q] at h
      cases u <;> first | (cases h; done) | (cases h; exact ⟨e, rfl, fun ps z => nomatch z⟩)
theorem vis_at {S : List Addr} {H : Hp} {b : Addr} {o : HO} (h : b ∉ S) (q : H b = some o) (n : ∀ ps, o ≠ .tbl ps) : vis S H b = some o := by
  unfold vis
  rw [if_neg h, q]
  cases o <;> first | rfl | exact absurd rfl (n _)
theorem vis_ext {S : List Addr} {H : Hp} : Ext (vis S H) H := fun a o e => (vis_some e).2.1
theorem vis_mono {S : List Addr} {H H' : Hp} (e : Ext H H') : Ext (vis S H) (vis S H') := fun a o h => by
  obtain ⟨h1, h2, h3⟩ := vis_some h
  exact vis_at h1 (e a o h2) h3
theorem vis_keep {p c : Addr} {S : List Addr} {H H' : Hp} (k : Keep p c H H') (hp : p ∈ S) (hc : c ∈ S) : Ext (vis S H) (vis S H') := fun a o e => by
  obtain ⟨h1, h2, h3⟩ := vis_some e
  exact vis_at h1 (k a o h2 (fun z => h1 (by rw [z]; exact hp)) fun z => h1 (by rw [z]; exact hc)) h3
theorem vis_extN {S : List Addr} {H H' : Hp} (k : LamX.ExtN H H') : Ext (vis S H) (vis S H') := fun a o e => by
  obtain ⟨h1, h2, h3⟩ := vis_some e
  exact vis_at h1 (k a o h2 h3) h3
theorem vis_new {S : List Addr} {H H' : Hp} (h : ∀ b ∈ S, H b ≠ none) : ∀ {a : Addr} {o : HO}, nw H H' a = some o → (∀ ps, o ≠ .tbl ps) → vis S H' a = some o := fun {a o} e n => by
  obtain ⟨h1, h2⟩ := nw_some e
  exact vis_at (fun z => h a z h1) h2 n
theorem tabs_keep {T : List (Addr × Str)} {p c : Addr} {H H' : Hp} (t : LamX.Tabs T H) (k : Keep p c H H') {xs ys : List V} (hp : H p = some (.lst xs)) (hc : H c = some (.lst ys)) : LamX.Tabs T H' := fun q hq => by
  obtain ⟨ps, h1, h2, h3⟩ := t q hq
  have n : ∀ {b : Addr} {o : HO}, H b = some o → (∀ zs, o ≠ .lst zs) → H' b = some o := fun {b o} e n => k b o e (fun z => by
      rw [z, hp] at e
      exact n xs (Option.some.inj e).symm) fun z => by
      rw [z, hc] at e
      exact n ys (Option.some.inj e).symm
  refine ⟨ps, n h1 (fun zs z => by cases z), h2, fun pos cv hcv => ?_⟩
  obtain ⟨c', e1, e2⟩ := h3 pos cv hcv
  exact ⟨c', e1, n e2 (fun zs z => by unfold LamX.CodeO at z; cases z)⟩

theorem tabs_upd {T : List (Addr × Str)} {p : Addr} {H : Hp} {o : HO} (t : LamX.Tabs T H) {xs : List V} (hp : H p = some (.lst xs)) : LamX.Tabs T (upd H p o) := tabs_keep (c := p) t Keep.upd1 hp hp
theorem tabs_upd2 {T : List (Addr × Str)} {p : Addr} {H : Hp} {o : HO} (t : LamX.Tabs T H) {kvs : List (Key × V)} (hp : H p = some (.dK kvs)) : LamX.Tabs T (upd H p o) := fun q hq => by
  obtain ⟨ps, h1, h2, h3⟩ := t q hq
  refine ⟨ps, ?_, h2, fun pos cv hcv => ?_⟩
  · rw [upd_ne fun z => by rw [z, hp] at h1; cases h1]
    exact h1
  · obtain ⟨c', e1, e2⟩ := h3 pos cv hcv
    refine ⟨c', e1, ?_⟩
    rw [upd_ne fun z => by rw [z, hp] at e2; unfold LamX.CodeO at e2; cases e2]
    exact e2
/-! ### own errors with fields, by one word -/
/-- the __init__ of an error class at C that keeps its arguments under the names fs -/
def spX (C : Addr) (fs : List Str) : Sp := fun vs H Q _ => ∃ (a : Addr) (ys : List V), vs = .ref a :: ys ∧ ys.length = fs.length ∧ H a = some (exo a C none) ∧
  ∀ (dx : Addr) (H' : Hp), H dx = none → dx ≠ a → H' a = some (exo a C (some dx)) → H' dx = some (exd dx (fs.zip ys).reverse) → (∀ b, b ≠ a → b ≠ dx → H' b = H b) → Q .non H'
section
variable (P : Program) (w : World) (K : PySem.W.Frag) (mg : Str → Option Value) (base : Heap)
structure Xer (C : Addr) (x : Str) (fs : List Str) : Prop where
  m : mg x = some (.ref C)
  oex : OexC K C
  ex : ∃ fI fd ps, PySem.W.findIn K (.ref C) "__init__" = some (some (.ref fI)) ∧ PySem.W.typeIn K (.ref fI) = some (.type "function") ∧ FnOk P w K mg base CX0 1 fI fd ps (spX C fs) ∧ Binds K fd ps []
end
theorem pa_weak {X : Cx} {es : List PySem.Expr} {ta : TA} (h : PA X es ta) : PA X es (fun σ H Q => ∃ Q0 : List V → Hp → Prop, ta σ H Q0 ∧ ∀ ys H1, Q0 ys H1 → Q ys H1) :=
  ⟨fun pos pins s σ H Q I ⟨Q0, h0, k⟩ => thn (h.run pos pins s σ H Q0 I h0) fun us s1 ⟨vs, H1, I1, r, q⟩ => ⟨vs, H1, I1, r, k _ _ q⟩⟩
section
variable {X : Cx} {C : Addr} {x : Str} {fs : List Str} {p pos : Pos} {e : PySem.Expr} {es : List PySem.Expr} {ta : TA}
theorem pmk_err (c : Xer X.prog X.w X.K X.mg X.base C x fs) (hr : Room 2 X.A) (hg : Gl X x) (ha : PA X (e :: es) ta)
    (hdb : (x == ("__debug__" : Str)) = false := by decide) (he : starEach (e :: es) X.env = (false, eval e X.env) :: starEach es X.env := by rfl) (hpl : (backTo pos (starEach es X.env)).any (·.1) = false := by rfl) :
    PMk X (.Call (.Name x p) (e :: es) [] pos) (fun σ H Q => ta σ H fun ys H1 => ys.length = fs.length ∧ ys.length ≤ 1000 ∧ ∀ d, H1 d = none → Q (.ref C) (some d) (upd H1 d (.xd (fs.zip ys).reverse))) := by
  obtain ⟨fI, fd, ps, iC, tI, F, hb⟩ := c.ex
  have h := pmk_oex (dvs := []) (ds := []) (p := p) (pos := pos) c.oex iC tI F hr hb .nil pass0 hg c.m (pa_weak ha) hdb he hpl
  intro pins s σ H Q I hq
  refine h pins s σ H Q I ?_
  refine ⟨_, hq, fun ys H1 ⟨hl, hz, k⟩ => ?_⟩
  refine ⟨hz, fun a na => ⟨a, ys ++ [], by simp, by simpa using hl, upd_same, fun dx H2 n1 n2 h1 h2 h3 => ⟨rfl, dx, _, h1, h2, ?_, ?_⟩⟩⟩
  · rw [upd_ne n2] at n1
    exact n1
  · rw [upd_ne n2] at n1
    have eH : upd (del H2 a) dx (.xd (fs.zip (ys ++ [])).reverse) = upd H1 dx (.xd (fs.zip ys).reverse) := by
      rw [List.append_nil]
      funext b
      by_cases hb : b = dx
      · rw [hb, upd_same, upd_same]
      · rw [upd_ne hb, upd_ne hb]
        by_cases ha : b = a
        · rw [ha, del_same, na]
        · rw [del_ne ha, h3 b ha hb, upd_ne ha]
    rw [eH]
    exact k dx n1
end

/-! ### what passes on in a def's body, in a lambda's, in an __init__ that says super() -/
section
variable {P : Program} {w : World} {K : PySem.W.Frag} {mg : Str → Option Value} {base : Heap} {N : List Str} {qual : Str} {scope : Scope} {f cc : Addr} {cd : Value} {A : Around} {outer : List Env} {s : Shared} {H : Hp} {E : XK}
theorem tkC : Takes (cxOf (L2.CX P w) P w K mg base N qual scope f cd A outer s H E) (fun cls d _ H => E cls d H) := takes_of rfl rfl rfl rfl
theorem passC : Passes (L2.CX P w) (cxOf (L2.CX P w) P w K mg base N qual scope f cd A outer s H E) E := passes_call tkC fun _ _ _ _ h => h
theorem tkS : Takes (cxS (L2.CX P w) P w K mg base N qual scope f cd cc A outer s H E) (fun cls d _ H => E cls d H) := takes_of rfl rfl rfl rfl
theorem passS : Passes (L2.CX P w) (cxS (L2.CX P w) P w K mg base N qual scope f cd cc A outer s H E) E := passes_call tkS fun _ _ _ _ h => h
theorem passN {X : Cx} : Passes (L2.CX P w) X (fun _ _ _ => False) := fun _ _ _ _ _ _ _ h => by
  obtain ⟨_, _, _, _, _, _, _, _, _, _, _, _, z⟩ := h
  exact z.elim
theorem tkL {X : Cx} {c' : Addr} : Takes (LamX.lamCx X A outer s H E scope f c') (fun cls d _ H => E cls d H) := takes_of rfl rfl rfl rfl
theorem passLm {X : Cx} {c' : Addr} : Passes (L2.CX X.prog X.w) (LamX.lamCx X A outer s H E scope f c') E := passes_call tkL fun _ _ _ _ h => h
end
/-! ### plain data: its type, its truth as a name -/
def tyN : PyData → String
  | .none => "NoneType"
  | .bool _ => "bool"
  | .int _ => "int"
  | .str _ => "str"
  | .list _ => "list"
  | .tuple _ => "tuple"
  | .dict _ => "dict"
theorem tyX_of {K : PySem.W.Frag} {H : Hp} {v : V} {d : PyData} (h : TV H v d) : TyX K H v (.type (tyN d)) := by
  cases h with
  | non => exact .base .non
  | bl b => exact .base (.bl b)
  | int i => exact .base (.int i)
  | str x => exact .base (.str x)
  | lst e _ => exact .base (.lst e)
  | tup e _ => exact .base (.tup e)
  | dct e _ _ => exact .base (.dK e)
def isStrD : PyData → Bool
  | .str _ => true
  | _ => false
theorem kit_str {K : PySem.W.Frag} (d : PyData) : PySem.W.kitOne K (.type (tyN d)) (.type "str") = some (isStrD d) := by
  have k1 : kitB "NoneType" "str" = some false := by decide +kernel
  have k2 : kitB "bool" "str" = some false := by decide +kernel
  have k3 : kitB "int" "str" = some false := by decide +kernel
  have k4 : kitB "str" "str" = some true := by decide +kernel
  have k5 : kitB "list" "str" = some false := by decide +kernel
  have k6 : kitB "tuple" "str" = some false := by decide +kernel
  have k7 : kitB "dict" "str" = some false := by decide +kernel
  cases d <;> first | exact kit_ty k1 | exact kit_ty k2 | exact kit_ty k3 | exact kit_ty k4 | exact kit_ty k5 | exact kit_ty k6 | exact kit_ty k7
theorem strD {d : PyData} (h : isStrD d = true) : ∃ z, d = .str z := by
  cases d <;> first | exact ⟨_, rfl⟩ | cases h
theorem tv_str {H : Hp} {v : V} {z : Str} (h : TV H v (.str z)) : v = .str z := by
  cases h
  rfl
/-- texts within are short -/
def SmD (d : PyData) : Prop := ∀ z, d = .str z → z.length ≤ 1000
/-- a def that closes over __class__ -/
structure FunS (K : PySem.W.Frag) (x qual : Str) (st : Stmt) (f : Addr) (fd : FuncData) (cda cc : Addr) : Prop where
  ex : ∃ (oc : Value) (od : Option Addr) (kV doc pm : Value) (an : Option Addr) (ct : Value) (osl : Array (Option Value)),
    fd = PySem.W.ksFn x qual (defArgs st) (defBody st) (defScope st) .none kV doc pm an (.ref cda) ct cc ∧ K.lookup f = some ⟨oc, od, .func fd, osl⟩ ∧ PySem.W.codeIn K (.ref cda) qual = true
  kp : PySem.W.keepIn K (.ref f) = true

/-! ### a comprehension that makes one item a turn; what is kept may hang on the turn -/
section
variable {J : It} {n : Nat} {G : Hp → Prop} {Y : Nat → Hp → V → Hp → Prop} {g : TG} {te : TE} {vs : List Nat} {σ : L2.St} {H1 : Hp} {D : Addr} {Qd : Hp → Prop}
theorem lc_mapI (w : Walk J n G Y) (S : List Addr) (hS : D ∈ S) (Iv : Nat → Hp → Prop) (R : Nat → V → Hp → Prop) (hn : n ≤ 100000) (hm : ∀ j y H H', Ext H H' → R j y H → R j y H')
    (hIv : ∀ i H o, Iv i H → Iv i (upd H D o)) (h0 : Iv 0 (upd H1 D (.lst []))) (hG : ∀ i H, Ext (hid S H1) (hid S H) → Iv i H → G H)
    (hs : ∀ i x H H' acc (C : VK), i < n → Ext (hid S H1) (hid S H) → Iv i H → H D = some (.lst acc) → Y i H x H' → (∀ y H4, H4 D = some (.lst acc) → Ext (hid S H) (hid S H4) → Iv (i + 1) H4 → R i y (hid S H4) → C y H4) →
      g x (wipe σ vs) H' fun σ2 H2 => wipe σ2 vs = wipe σ vs ∧ te σ2 H2 C)
    (hd : ∀ H ys, Ext (hid S H1) (hid S H) → Iv n H → H D = some (.lst ys) → ys.length = n → (∀ j y, ys[j]? = some y → R j y (hid S H)) → Qd H) :
    ∃ W : Nat → Nat → Hp → Prop, (∃ m, W 0 m (upd H1 D (.lst []))) ∧ ∀ i m H, W i m H →
      (J.stop i H ∧ Qd H) ∨ (J.go i H ∧ ∃ Nx : Hp → Prop, (∀ H', Nx H' → ∃ m', m' < m ∧ W (i + 1) m' H') ∧ ∀ x H', J.yld i H x H' → g x (wipe σ vs) H' fun σ2 H2 => wipe σ2 vs = wipe σ vs ∧ tYes σ2 H2 fun b H3 =>
        if b = true then te σ2 H3 fun y H4 => ∃ acc, H4 D = some (.lst acc) ∧ acc.length < sizeLine ∧ Nx (upd H4 D (.lst (acc ++ [y]))) else Nx H3) := by
  refine lc_it w (fun i H => ∃ ys : List V, H D = some (.lst ys) ∧ ys.length = i ∧ Ext (hid S H1) (hid S H) ∧ Iv i H ∧ ∀ j y, ys[j]? = some y → R j y (hid S H))
    ⟨[], upd_same, rfl, by rw [hid_upd hS]; exact Ext.rfl', h0, fun j y e => by simp at e⟩ (fun i H _ ⟨_, _, _, e, iv, _⟩ => hG i H e iv) ?_ ?_
  · rintro i x H H' hi ⟨ys, hD, hl, e, iv, r⟩ y
    refine hs i x H H' ys _ hi e iv hD y fun v H4 h4 e4 iv4 r4 => ?_
    refine ⟨ys, h4, Nat.lt_of_le_of_lt (show ys.length ≤ 100000 by omega) (by decide), ys ++ [v], upd_same, by rw [List.length_append, hl]; rfl, by rw [hid_upd hS]; exact e.trans e4, hIv _ _ _ iv4, fun j z hz => ?_⟩
    rw [hid_upd hS]
    by_cases hj : j < ys.length
    · rw [List.getElem?_append_left hj] at hz
      exact hm j z _ _ e4 (r j z hz)
    · rw [List.getElem?_append_right (by omega)] at hz
      have : j = i := by
        cases q : j - ys.length with
        | zero => omega
        | succ k => rw [q] at hz; simp at hz
      subst this
      rw [hl] at hz
      simp at hz
      subst hz
      exact r4
  · rintro H ⟨ys, hD, hl, e, iv, r⟩
    exact hd H ys e iv hD hl r
end

/-! ### C.m(a = v), m a classmethod -/
section
variable (P : Program) (w : World) (K : PySem.W.Frag) (mg : Str → Option Value) (base : Heap) (CX : CXT) (k : Nat)
structure ClmK (C : Addr) (m a : Str) (sp : Sp) : Prop where
  ex : ∃ mc p g fd c, ClX.CRead K C mc ∧ ClX.CMet K C mc m p g ∧ FnOk P w K mg base CX k g fd [c, a] sp ∧ ∀ (s : Shared) (u : Value), BindsTo s fd ⟨[.ref C], [(a, u)]⟩ [(c, .ref C), (a, u)]
end
section
variable {X : Cx} {CX : CXT} {k : Nat} {C : Addr} {sp : Sp} {E : XK} {m a : Str} {pos apos : Pos} {o : PySem.Expr} {kws : List Keyword} {ta : TE} {tk : TA} {pl : Sem Bool}
theorem pe_clmk (c : ClmK X.prog X.w X.K X.mg X.base CX k C m a sp) (hr : Room k X.A) (ho : PE X o ta) (hx : Passes CX X E) (hkw : PK X kws tk)
    (hall : (backToKw pos (keywordEach kws X.env)).all (·.1.isSome) = true := by rfl) (hks : (backToKw pos (keywordEach kws X.env)).filterMap (·.1) = [a] := by rfl)
    (hpl : ((backTo pos (starEach [] X.env)).any (·.1) || (backToKw pos (keywordEach kws X.env)).any (·.1.isNone)) = false := by rfl)
    (ht : eval (.Call (.Attribute o m apos) [] kws pos) X.env = (do
      let ov ← eval o X.env
      standAt apos.atName
      let (f, first) ← holding [ov] (getMethod ov m pl)
      callWith pos f first (backTo pos (starEach [] X.env)) (backToKw pos (keywordEach kws X.env))) := by rfl) :
    PE X (.Call (.Attribute o m apos) [] kws pos) (fun σ H Q => ta σ H fun x H1 => x = .ref C ∧ tk σ H1 fun zs H2 => ∃ z, zs = [z] ∧ sp [.ref C, z] H2 Q E) := by
  obtain ⟨mc, p, g, fd, cn, r, c, F, hb⟩ := c.ex
  refine ⟨fun pins s σ H Q I h => ?_⟩
  refine PySem.W.methodCall_KW (pl := pl) (thn (ho.run pins s σ H _ I h) fun u s1 ⟨x, H1, I1, rx, ex, q⟩ => ?_) ht
  subst ex
  obtain rfl : u = Value.ref C := rx
  refine ClX.getmethcm_ok I1 r c fun s2 I2 => ?_
  refine PySem.W.callWith_of (P := PySem.W.MethP X.K s1.heap.objs.size g (.ref C)) hpl (PySem.W.keeps_M c.fi) (evalArgs_kw2_nil hall ?_)
  refine thn (hkw.run pos _ s2 σ H1 _ I2 q) fun ws s3 ⟨zs, H2, I3, rz, z, ez, q3⟩ => ?_
  subst ez
  refine ⟨⟨ClX.pin_at I3, I3.kIn⟩, ?_⟩
  rw [hks]
  obtain ⟨u, rfl, ru⟩ := vals1 rz
  have r2 : Vals [V.ref C, z] [Value.ref C, u] := .cons rfl (.cons ru .nil)
  have run := F.run X.A X.stack s3 H2 ⟨[.ref C], [(a, u)]⟩ [.ref C, u] [.ref C, z] Q E hr I3.env0 (hb s3 u) r2 q3
  have z2 : wpAny (model X.prog X.w) X.A (call (.ref s1.heap.objs.size) [] [(a, u)]) (EP X ((s1.heap.objs.size, PySem.W.methodObj (.ref g) (.ref C)) :: pins) σ Q) X.xe s3 := by
    refine wpAny_call (PySem.W.method_call (ClX.pin_at I3) (codeAny_mono run fun res s' hq => ?_))
    match res, hq with
    | .error e, hq => exact hx _ σ H2 s3 e s' I3 hq
    | .ok (.ret u), hq => exact I3.after hq
  exact thn z2 fun _ _ y => ClX.unpinE y
end

mutual
theorem tv_vis {H : Hp} : ∀ {v : V} {d : PyData}, TV H v d → TV (vis [] H) v d
  | _, _, .non => .non
  | _, _, .bl b => .bl b
  | _, _, .int i => .int i
  | _, _, .str x => .str x
  | _, _, .lst q h => .lst (vis_at (by simp) q fun _ z => by cases z) (tvs_vis h)
  | _, _, .tup q h => .tup (vis_at (by simp) q fun _ z => by cases z) (tvs_vis h)
  | _, _, .dct q h1 h2 => .dct (vis_at (by simp) q fun _ z => by cases z) (tvs_vis h1) (tvs_vis h2)
theorem tvs_vis {H : Hp} : ∀ {vs : List V} {ds : List PyData}, TVs H vs ds → TVs (vis [] H) vs ds
  | _, _, .nil => .nil
  | _, _, .cons h hs => .cons (tv_vis h) (tvs_vis hs)
end
end Ls
end
section
set_option Elab.async false
set_option linter.all false
set_option maxRecDepth 100000
set_option maxHeartbeats 4000000
namespace Ls
open PySem PySem.Spec PyProof.Rows L2

/-! ### x == y and x != y by an own __eq__, both answers, y of any kind -/
namespace OW
open PySem.W
section
variable {prog : Program} {w : World} {A : Around} {E : Value → Shared → Prop} {s : Shared} {K : Frag} {x C f : Addr} {ox : Obj} {od : Option Obj} {b tb : Value}
theorem ifBound_B {M : Model} {id : String} {name : Str} {args : List Value} {Q : Option Value → Shared → Prop} (X : K.In s.heap) (I : InstAt s.heap x ox C od) (hs : findIn K (.ref C) name = some (some (.builtin id))) (hb : bindSpecial (.builtin id) (.ref x) = pure (.builtin id, [.ref x]))
    (h : wpAny M A (call (.builtin id) (.ref x :: args)) (fun v => Q (some v)) E s) : wpAny M A (callSpecialIfBound? (.ref x) name args) Q E s := by
  simp only [callSpecialIfBound?, bindSpecialIfBound?]
  refine wpAny_holding (wpAny_bind (wpAny_bind (wpAny_bind (I.type.here ((looks_findIn X hs).here ?_)))))
  refine wpAny_bind (wpAny_askSetting (wpAny_ite ?_))
  have last : wpAny M A (call (.builtin id) ([.ref x] ++ args) >>= fun v => pure (some v)) Q E s := wpAny_bind (wpAny_mono h (fun v s' h' => wpAny_pure h') fun _ _ h' => h')
  split
  · exact wpAny_bind (wpAny_of_eq hb (wpAny_pure (by exact last)))
  · exact wpAny_tryCatch (wpAny_bind (wpAny_of_eq hb (wpAny_pure (by exact last))))
theorem ne_body {Q : Fin → Shared → Prop} (hu : A.units < cLine) (X : K.In s.heap) (I : InstAt s.heap x ox C od) (hs : findIn K (.ref C) "__eq__" = some (some (.ref f))) (hf : isFn K (.ref f) = true)
    (h : wpAny (model prog w) A (call (.ref f) [.ref x, b]) (fun v s' => ∃ r, v = .bool r ∧ Q (.done (.ret (.bool (!r)))) s') E s) : wpAny (model prog w) A (Builtin.«object.__ne__» ⟨[.ref x, b], []⟩) Q E s := by
  unfold Builtin.«object.__ne__»
  refine wpAny_bind (wpAny_of_eq (a := ((Value.ref x : Value), [b])) (by first | rfl | (simp only [slotArgs]; rfl)) ?_)
  refine wpAny_bind (wpAny_cRoomFor hu ?_)
  refine wpAny_bind (ifBound_K X I hs hf (wpAny_mono h (fun v s' hv => ?_) fun _ _ e => e))
  obtain ⟨r, rfl, q⟩ := hv
  exact wpAny_bind (wpAny_truthy_bool (wpAny_pure q))
theorem rich_ne {L : Addr} {h₀ : Heap} {m : Str → Option Value} {Q : Value → Shared → Prop} (hu : A.units + 1 < cLine) (F : Fr h₀ L s.heap m) (X₀ : K.In h₀) (I : InstAt s.heap x ox C od) (ht : Looks (model prog w) s.heap (typeOf b) tb) (hn : notFirst K C tb = true)
    (hs : findIn K (.ref C) "__eq__" = some (some (.ref f))) (hf : isFn K (.ref f) = true) (hne : findIn K (.ref C) "__ne__" = some (some (.builtin "object.__ne__"))) (hm : mroIn K C (.type "object") = some true)
    (h : wpAny (model prog w) A.in1 (call (.ref f) [.ref x, b]) (fun v s' => ∃ r, v = .bool r ∧ Q (.bool (!r)) s') E s) : wpAny (model prog w) A (richCompare .NotEq (.ref x) b) Q E s := by
  have X := X₀.keeps F.keep
  have sub : Looks (model prog w) s.heap (isInstance (.ref x) (.type "object")) true := I.type.andThen (looks_mroIn X hm)
  have bd : bindSpecial (.builtin "object.__ne__") (.ref x) = pure (.builtin "object.__ne__", [.ref x]) := PySem.F.cmp_object.ne.bind _
  have one : wpAny (model prog w) A (tryCompare (.ref x) "__ne__" b) (fun r s' => ∃ v, r = some (.bool v) ∧ Q (.bool v) s') E s := by
    unfold tryCompare
    refine wpAny_bind (ifBound_B X I hne bd ?_)
    obtain ⟨hp, g, d, t, os⟩ := s
    refine wpAny_call (codeAny_call_builtin PySem.F.cmp_object.ne.plain PySem.F.cmpEntry_ne (@check_slot (model prog w) _ _ ⟨hp, g, d, t, os⟩ "object.__ne__" "object" "__ne__" (.ref x) [b] [] _ PySem.F.cmpKind_ne PySem.F.cmpSplit_ne sub (PySem.F.cmpArgs_ne _ _) ?_))
    refine ne_body (A := A.in1) hu X I hs hf (wpAny_mono h (fun v s' hv => ?_) fun _ _ e => e)
    obtain ⟨r, rfl, q⟩ := hv
    exact ⟨r, rfl, wpAny_pure ⟨_, rfl, q⟩⟩
  unfold richCompare
  simp only [oneThing_ref]
  refine wpAny_holding (wpAny_bind (wpAny_cRoomFor (by omega) (wpAny_bind (I.type.here (wpAny_bind (ht.here ?_))))))
  split
  · rename_i q
    have e : subIn K tb (.ref C) = some false := by
      rcases Bool.or_eq_true_iff.mp hn with e | e
      · rw [beq_iff_eq.mp e] at q
        simp at q
      · exact beq_iff_eq.mp e
    refine wpAny_bind ((looks_subIn X e).here ?_)
    simp only [Bool.false_eq_true, if_false]
    refine wpAny_bind (wpAny_mono one (fun r s' z => ?_) fun _ _ e => e)
    obtain ⟨v, rfl, hq⟩ := z
    exact wpAny_pure hq
  · refine wpAny_bind (wpAny_pure ?_)
    simp only [Bool.false_eq_true, if_false]
    refine wpAny_bind (wpAny_mono one (fun r s' z => ?_) fun _ _ e => e)
    obtain ⟨v, rfl, hq⟩ := z
    exact wpAny_pure hq
end
end OW
/-- x == y: x an instance, its class's own __eq__ at f keeps sp -/
def rEqO (K : PySem.W.Frag) (f : Addr) (sp : Sp) (E : XK) : R2 := fun x y H Q => ∃ (a C dx : Addr) (fs : List (Str × V)) (tb : Value), x = .ref a ∧ H a = some (.ins C dx fs) ∧ PySem.W.findIn K (.ref C) "__eq__" = some (some (.ref f)) ∧ TyX K H y tb ∧ PySem.W.notFirst K C tb = true ∧
  sp [x, y] H (fun v H' => ∃ r, v = .bl r ∧ Q (.bl r) H') E
def rNeO (K : PySem.W.Frag) (f : Addr) (sp : Sp) (E : XK) : R2 := fun x y H Q => ∃ (a C dx : Addr) (fs : List (Str × V)) (tb : Value), x = .ref a ∧ H a = some (.ins C dx fs) ∧ PySem.W.findIn K (.ref C) "__eq__" = some (some (.ref f)) ∧ PySem.W.findIn K (.ref C) "__ne__" = some (some (.builtin "object.__ne__")) ∧ PySem.W.mroIn K C (.type "object") = some true ∧
  TyX K H y tb ∧ PySem.W.notFirst K C tb = true ∧ sp [x, y] H (fun v H' => ∃ r, v = .bl r ∧ Q (.bl (!r)) H') E
section
variable {X : Cx} {CX : CXT} {n : Nat} {f : Addr} {sp : Sp} {E : XK}
theorem op_eqO (F : FnR X.prog X.w X.K X.mg X.base CX n f sp) (hf : PySem.W.isFn X.K (.ref f) = true) (hr : Room n X.A) (hx : Passes CX X E) : OpR X (compareOp .Eq) (rEqO X.K f sp E) := by
  intro pins s σ H x y v u Q I rx ry h
  obtain ⟨a, C, dx, fs, tb, rfl, ha, hs, ty, hn, q⟩ := h
  cases (show v = Value.ref a from rx)
  obtain ⟨mA, J, _⟩ := ins_get I.hok ha
  obtain ⟨od, J, _⟩ := J.look
  obtain ⟨m, hF⟩ := I.fr
  obtain ⟨P, Z, p, _⟩ := kit_of I ry ty
  show wpAny (model X.prog X.w) X.A (richCompare .Eq (.ref a) u) (EP X pins σ Q) X.xe s
  refine PySem.W.cmp_K (op := .Eq) hr.units0 hF I.ok.mod.kin J (Z.ty _ _ I.kIn p) hn hs hf ?_
  have r2 : Vals [V.ref a, y] [Value.ref a, u] := .cons rfl (.cons ry .nil)
  refine thn (wpAny_call (run_fnR F hr hx I r2 q)) fun w' s' ⟨z, H', I', rz, r, ez, q'⟩ => ?_
  subst ez
  cases rz
  exact ⟨.bl r, H', I', rfl, q'⟩
theorem op_neO (F : FnR X.prog X.w X.K X.mg X.base CX n f sp) (hf : PySem.W.isFn X.K (.ref f) = true) (hr : Room (n + 1) X.A) (hx : ∀ (pins : List (Addr × Obj)) (σ : L2.St) (H : Hp) (s : Shared) (e : Value) (s' : Shared), Inv X pins σ H s → CX X.stack H s E e s' → X.xe e s') : OpR X (compareOp .NotEq) (rNeO X.K f sp E) := by
  intro pins s σ H x y v u Q I rx ry h
  obtain ⟨a, C, dx, fs, tb, rfl, ha, hs, hne, hm, ty, hn, q⟩ := h
  cases (show v = Value.ref a from rx)
  obtain ⟨mA, J, _⟩ := ins_get I.hok ha
  obtain ⟨od, J, _⟩ := J.look
  obtain ⟨m, hF⟩ := I.fr
  obtain ⟨P, Z, p, _⟩ := kit_of I ry ty
  show wpAny (model X.prog X.w) X.A (richCompare .NotEq (.ref a) u) (EP X pins σ Q) X.xe s
  refine OW.rich_ne (by have := hr.units; omega) hF I.ok.mod.kin J (Z.ty _ _ I.kIn p) hn hs hf hne hm ?_
  refine wpAny_call (codeAny_mono (F X.A.in1 X.stack s H [.ref a, u] [.ref a, y] _ E hr.in1 I.env0.in1 (.cons rfl (.cons ry .nil)) q) fun r s' hq => ?_)
  match r, hq with
  | .error e, hq => exact hx pins σ H s e s' I hq
  | .ok (.ret w'), hq =>
    obtain ⟨z, H', I', rz, r, ez, q'⟩ := I.after hq
    subst ez
    cases rz
    exact ⟨r, rfl, .bl (!r), H', I', rfl, q'⟩
end

/-! ### the same, the written part by its own name (for a block) -/
section
variable {X : Cx} {P : Program} {w : World} {K : PySem.W.Frag} {mg : Str → Option Value} {base : Heap} {CX : CXT} {n : Nat} {f : Addr} {sp : Sp} {E : XK} {A : Around}
theorem op_eqOK (F : FnR P w K mg base CX n f sp) (hf : PySem.W.isFn K (.ref f) = true) (hr : Room n A) (hP : X.prog = P) (hw : X.w = w) (hK : X.K = K) (hmg : X.mg = mg) (hb : X.base = base) (hA : X.A = A) (hx : Passes CX X E) : OpR X (compareOp .Eq) (rEqO K f sp E) := by
  subst hP hw hK hmg hb hA
  exact op_eqO F hf hr hx
theorem ix_listK (hK : X.K = K) : IxR X (rIxL K) := by
  subst hK
  exact ix_list
end
end Ls
end
section
set_option Elab.async false
set_option linter.all false
set_option maxRecDepth 100000
set_option maxHeartbeats 4000000
namespace Ls
open PySem PySem.Spec PyProof.Rows L2
open TL
/-! ### a text cut at one sign -/
theorem pre1 (s c : Nat) (r : List Nat) : pre [s] (c :: r) = decide (c = s) := by
  show ((c :: r).take 1 == [s]) = _
  by_cases h : c = s
  · subst h
    simp
  · have : ¬ [c] = [s] := fun e => h (List.cons.inj e).1
    simp [h]
theorem spl1_ne (s : Nat) : ∀ (l acc : List Nat), spl [s] 0 acc l ≠ []
  | [], acc => by rw [spl_nil]; simp
  | c :: r, acc => by
    by_cases h : c = s
    · rw [spl_hit (by rw [pre1, decide_eq_true h])]
      simp
    · rw [spl_miss (by rw [pre1, decide_eq_false h])]
      exact spl1_ne s r _
theorem joinL_cons (S a : List Nat) : ∀ {l : List (List Nat)}, l ≠ [] → joinL S (a :: l) = a ++ (S ++ joinL S l)
  | [], h => absurd rfl h
  | b :: r, _ => rfl
theorem spl1_join (s : Nat) : ∀ (l acc : List Nat), joinL [s] (spl [s] 0 acc l) = acc ++ l
  | [], acc => by
    rw [spl_nil, List.append_nil]
    rfl
  | c :: r, acc => by
    by_cases h : c = s
    · rw [spl_hit (by rw [pre1, decide_eq_true h])]
      show joinL [s] (acc :: spl [s] 0 [] r) = _
      rw [joinL_cons _ _ (spl1_ne s r []), spl1_join s r []]
      subst h
      simp
    · rw [spl_miss (by rw [pre1, decide_eq_false h]), spl1_join s r (acc ++ [c])]
      simp
theorem spl1_free (s : Nat) : ∀ (l acc : List Nat), s ∉ acc → ∀ p ∈ spl [s] 0 acc l, s ∉ p
  | [], acc, ha, p, hp => by
    rw [spl_nil] at hp
    rw [List.mem_singleton.mp hp]
    exact ha
  | c :: r, acc, ha, p, hp => by
    by_cases h : c = s
    · rw [spl_hit (by rw [pre1, decide_eq_true h])] at hp
      rcases List.mem_cons.mp hp with e | e
      · rw [e]
        exact ha
      · exact spl1_free s r [] (by simp) p e
    · rw [spl_miss (by rw [pre1, decide_eq_false h])] at hp
      exact spl1_free s r _ (by simp [ha, Ne.symm h]) p hp
theorem spl1_sub (s : Nat) : ∀ (l acc : List Nat), ∀ p ∈ spl [s] 0 acc l, p.length ≤ acc.length + l.length ∧ ∀ c ∈ p, c ∈ acc ∨ c ∈ l
  | [], acc, p, hp => by
    rw [spl_nil] at hp
    rw [List.mem_singleton.mp hp]
    exact ⟨Nat.le_refl _, fun c h => .inl h⟩
  | c :: r, acc, p, hp => by
    by_cases h : c = s
    · rw [spl_hit (by rw [pre1, decide_eq_true h])] at hp
      rcases List.mem_cons.mp hp with e | e
      · rw [e]
        exact ⟨by omega, fun c h => .inl h⟩
      · obtain ⟨h1, h2⟩ := spl1_sub s r [] p e
        refine ⟨by simp at h1 ⊢; omega, fun c h => (h2 c h).elim (fun z => absurd z (by simp)) fun z => .inr (by simp [z])⟩
    · rw [spl_miss (by rw [pre1, decide_eq_false h])] at hp
      obtain ⟨h1, h2⟩ := spl1_sub s r _ p hp
      refine ⟨by simp at h1 ⊢; omega, fun c' h => (h2 c' h).elim (fun z => ?_) fun z => .inr (by simp [z])⟩
      rcases List.mem_append.mp z with z | z
      · exact .inl z
      · exact .inr (by simp at z; simp [z])
section
variable {x y : Str} {s : Nat}
theorem split_tl (ey : tl y = [s]) (hk : y.cps.all (· < 256) = true) : (Txt.split x y).map tl = spl [s] 0 [] (tl x) := by
  rw [split_spl x y (by rw [ey]; simp) (kind_ok hk), ey]
theorem split_back (ey : tl y = [s]) (hk : y.cps.all (· < 256) = true) : Txt.join y (Txt.split x y) = x := by
  refine ext_tl ?_
  rw [join_eq, tl_join, ey, split_tl ey hk, spl1_join]
  rfl
theorem split_free (ey : tl y = [s]) (hk : y.cps.all (· < 256) = true) {p : Str} (hp : p ∈ Txt.split x y) : s ∉ tl p := by
  have h : tl p ∈ (Txt.split x y).map tl := List.mem_map.mpr ⟨p, hp, rfl⟩
  rw [split_tl ey hk] at h
  exact spl1_free s _ _ (by simp) _ h
theorem split_sub (ey : tl y = [s]) (hk : y.cps.all (· < 256) = true) {p : Str} (hp : p ∈ Txt.split x y) : p.length ≤ x.length ∧ ∀ c ∈ tl p, c ∈ tl x := by
  have h : tl p ∈ (Txt.split x y).map tl := List.mem_map.mpr ⟨p, hp, rfl⟩
  rw [split_tl ey hk] at h
  obtain ⟨h1, h2⟩ := spl1_sub s _ _ _ h
  refine ⟨?_, fun c hc => (h2 c hc).elim (fun z => absurd z (by simp)) fun z => z⟩
  rw [len_tl p, len_tl x]
  simpa using h1
theorem split_ne (ey : tl y = [s]) (hk : y.cps.all (· < 256) = true) : Txt.split x y ≠ [] := fun e => by
  have h := split_tl (x := x) ey hk
  rw [e] at h
  exact spl1_ne s _ _ h.symm
end
theorem sp_tl : tl (" " : Str) = [32] := by decide +kernel
theorem sp_kd : (" " : Str).cps.all (· < 256) = true := by decide +kernel
theorem split2 {z a b : Str} (h : Txt.split z " " = [a, b]) : z = a ++ " " ++ b := by
  have e := split_back (x := z) sp_tl sp_kd
  rw [h, join_eq] at e
  exact e.symm
theorem split_two {a b : Str} (ha : (32 : Nat) ∉ tl a) (hb : (32 : Nat) ∉ tl b) : Txt.split (a ++ " " ++ b) " " = [a, b] := by
  have e : a ++ " " ++ b = Txt.join " " [a, b] := by rw [join_eq]; rfl
  rw [e]
  exact split_join sp_tl sp_kd (by simp) (by
    intro p hp
    rcases List.mem_cons.mp hp with rfl | hp
    · exact ha
    · rw [List.mem_singleton.mp hp]; exact hb)
/-! ### short texts of plain signs -/
def OkS (n : Nat) (z : Str) : Prop := z.length ≤ n ∧ ∀ c ∈ tl z, c < 256
theorem OkS.mono {n m : Nat} {z : Str} (h : OkS n z) (l : n ≤ m) : OkS m z := ⟨Nat.le_trans h.1 l, h.2⟩
theorem OkS.append {n m : Nat} {a b : Str} (h : OkS n a) (k : OkS m b) : OkS (n + m) (a ++ b) := ⟨by
  rw [Str.length_append]
  exact Nat.add_le_add h.1 k.1, fun c hc => by
  rw [tl_append] at hc
  rcases List.mem_append.mp hc with hc | hc
  · exact h.2 c hc
  · exact k.2 c hc⟩
theorem OkS.part {n : Nat} {x y p : Str} {s : Nat} (h : OkS n x) (ey : tl y = [s]) (hk : y.cps.all (· < 256) = true) (hp : p ∈ Txt.split x y) : OkS n p :=
  let ⟨h1, h2⟩ := split_sub ey hk hp
  ⟨Nat.le_trans h1 h.1, fun c hc => h.2 c (h2 c hc)⟩
/-- plain data that repr can show -/
structure Shw (n : Nat) (d : PyData) : Prop where
  sh : d.showable = true
  dp : d.depth ≤ 20
  ln : d.shown.length ≤ n
theorem Shw.str {n : Nat} {z : Str} (h : OkS n z) : Shw (10 * n + 2) (.str z) := ⟨rfl, Nat.zero_le _, by
  have := StrLaws.reprText_len z fun c hc => Nat.lt_trans (h.2 c hc) (by decide)
  show (reprText z).length ≤ _
  have := h.1
  omega⟩
theorem Shw.mono {n m : Nat} {d : PyData} (h : Shw n d) (l : n ≤ m) : Shw m d := ⟨h.sh, h.dp, Nat.le_trans h.ln l⟩
theorem Shw.list1 {n : Nat} {a : PyData} (ha : Shw n a) (hd : a.depth < 20) : Shw (n + 5) (.list [a]) := ⟨by
  show (a.showable && true) = true
  rw [ha.sh]
  rfl, by
  show max a.depth 0 + 1 ≤ 20
  omega, by
  have := listText_len_le [a.shown]
  have := ha.ln
  show (listText [a.shown]).length ≤ _
  simp at *
  omega⟩
theorem Shw.tup1 {n : Nat} {a : PyData} (ha : Shw n a) (hd : a.depth < 20) : Shw (n + 5) (.tuple [a]) := ⟨by
  show (a.showable && true) = true
  rw [ha.sh]
  rfl, by
  show max a.depth 0 + 1 ≤ 20
  omega, by
  have := tupleText_len_le [a.shown]
  have := ha.ln
  show (tupleText [a.shown]).length ≤ _
  simp at *
  omega⟩
theorem Shw.list2 {n m : Nat} {a b : PyData} (ha : Shw n a) (hb : Shw m b) (hd : a.depth < 20) (hd2 : b.depth < 20) : Shw (n + m + 7) (.list [a, b]) := ⟨by
  show (a.showable && (b.showable && true)) = true
  rw [ha.sh, hb.sh]
  rfl, by
  show max a.depth (max b.depth 0) + 1 ≤ 20
  omega, by
  have := listText_len_le [a.shown, b.shown]
  have := ha.ln
  have := hb.ln
  show (listText [a.shown, b.shown]).length ≤ _
  simp at *
  omega⟩
theorem Shw.tup2 {n m : Nat} {a b : PyData} (ha : Shw n a) (hb : Shw m b) (hd : a.depth < 20) (hd2 : b.depth < 20) : Shw (n + m + 7) (.tuple [a, b]) := ⟨by
  show (a.showable && (b.showable && true)) = true
  rw [ha.sh, hb.sh]
  rfl, by
  show max a.depth (max b.depth 0) + 1 ≤ 20
  omega, by
  have := tupleText_len_le [a.shown, b.shown]
  have := ha.ln
  have := hb.ln
  show (tupleText [a.shown, b.shown]).length ≤ _
  simp at *
  omega⟩

theorem joinL_nil : ∀ l : List (List Nat), joinL [] l = l.flatten
  | [] => rfl
  | [a] => by simp [joinL]
  | a :: b :: r => by
    rw [joinL_cons _ _ (by simp), joinL_nil (b :: r)]
    simp
/-- single signs put together -/
theorem join_signs {cs : List Nat} : tl (Txt.join "" (cs.map fun c => (⟨#[c]⟩ : Str))) = cs := by
  have e0 : tl ("" : Str) = [] := by decide +kernel
  rw [join_eq, tl_join, e0, joinL_nil, List.map_map]
  have : ∀ l : List Nat, (l.map (tl ∘ fun c => (⟨#[c]⟩ : Str))).flatten = l := fun l => by
    induction l with
    | nil => rfl
    | cons c r ih =>
      rw [List.map_cons, List.flatten_cons, ih]
      rfl
  exact this cs
/-! ### rows of data -/
theorem TVs.len {H : Hp} : ∀ {xs : List V} {ds : List PyData}, TVs H xs ds → xs.length = ds.length
  | _, _, .nil => rfl
  | _, _, .cons _ t => by simp [TVs.len t]
theorem TVs.at_ {H : Hp} : ∀ {xs : List V} {ds : List PyData} {i : Nat} {v : V}, TVs H xs ds → xs[i]? = some v → ∃ d, ds[i]? = some d ∧ TV H v d
  | _, _, _, _, .nil, h => by simp at h
  | _, _, 0, _, .cons r _, h => by simp at h; subst h; exact ⟨_, rfl, r⟩
  | _, _, i + 1, v, .cons _ t, h => by
    obtain ⟨d, h1, h2⟩ := TVs.at_ (i := i) (v := v) t (by simpa using h)
    exact ⟨d, by simpa using h1, h2⟩
theorem spl1_len (s : Nat) : ∀ (l acc : List Nat), (spl [s] 0 acc l).length ≤ l.length + 1
  | [], acc => by rw [spl_nil]; simp
  | c :: r, acc => by
    by_cases h : c = s
    · rw [spl_hit (by rw [pre1, decide_eq_true h])]
      have := spl1_len s r []
      simp only [List.length_cons]
      show (spl [s] 0 [] r).length + 1 ≤ _
      omega
    · rw [spl_miss (by rw [pre1, decide_eq_false h])]
      have := spl1_len s r (acc ++ [c])
      simp only [List.length_cons]
      omega
theorem split_len {x y : Str} {s : Nat} (ey : tl y = [s]) (hk : y.cps.all (· < 256) = true) : (Txt.split x y).length ≤ x.length + 1 := by
  have h := congrArg List.length (split_tl (x := x) ey hk)
  rw [List.length_map] at h
  rw [h, len_tl x]
  exact spl1_len s _ _
end Ls
end
section
set_option Elab.async false
set_option linter.all false
set_option maxRecDepth 100000
set_option maxHeartbeats 4000000
namespace Ls
open PySem PySem.Spec PyProof.Rows L2
open TL
/-! ### z[::-1], z a text -/
def revS (z : Str) : Str := ⟨z.cps.toList.reverse.toArray⟩
theorem tl_revS (z : Str) : tl (revS z) = (tl z).reverse := by simp [revS, tl]
theorem len_revS (z : Str) : (revS z).length = z.length := by
  show (z.cps.toList.reverse.toArray).size = z.cps.size
  simp
def tRevS (te : TE) : TE := fun σ H Q => te σ H fun x H1 => ∃ z, x = .str z ∧ z.length ≤ sizeLine ∧ Q (.str (revS z)) H1
theorem pe_revS {X : Cx} {e : PySem.Expr} {te : TE} {k : Nat} {p1 p2 p3 pos : Pos} (he : PE X e te) : PE X (.Subscript e (.Slice none none (some (.UnaryOp .USub (.Constant (.int 1) k p1) p2)) p3) pos) (tRevS te) := by
  refine ⟨fun pins s σ H Q I h => ?_⟩
  refine Subscript_ (thn (he.run pins s σ H _ I h) fun v s1 ⟨x, H1, I1, r1, q1⟩ => ?_)
  obtain ⟨z, ex, hz, q⟩ := q1
  subst ex
  obtain ⟨t, rfl⟩ := r1
  have hst : PO X (some (.UnaryOp .USub (.Constant (.int 1) k p1) p2)) (tPart (tUn (rU fun i => .int (-i)) (tC (.int 1)))) := po_some (pe_un un_neg pe_int)
  refine wpAny_Slice (thn (po_none.run pins s1 σ H1 (fun o H2 => o = none ∧ H2 = H1) I1 ⟨rfl, rfl⟩) fun vl s2 ⟨l, H2, I2, pl, el, e2⟩ => ?_)
  subst el e2
  refine thn (po_none.run pins s2 σ H2 (fun o H3 => o = none ∧ H3 = H2) I2 ⟨rfl, rfl⟩) fun vu s3 ⟨u, H3, I3, pu, eu, e3⟩ => ?_
  subst eu e3
  refine thn (hst.run pins s3 σ H3 (fun o H4 => o = some (-1) ∧ H4 = H3) I3 ⟨1, rfl, -1, rfl, rfl, rfl⟩) fun vs s4 ⟨o, H4, I4, ps, eo, e4⟩ => ?_
  subst eo e4
  have I5 : Inv X pins σ H4 { s4 with heap := s4.heap.push { cls := .type "slice", data := .fields #[vl, vu, vs] } } := I4.kept (t' := s4.toks) fun b ob q => Heap.get?_push_of_some _ q
  show wpAny (model X.prog X.w) X.A (subscriptTail e (.Slice none none (some (.UnaryOp .USub (.Constant (.int 1) k p1) p2)) p3) (.str z t) (.ref s4.heap.objs.size)) (EP X pins σ Q) X.xe { s4 with heap := s4.heap.push { cls := .type "slice", data := .fields #[vl, vu, vs] } }
  obtain ⟨l, rfl, hl⟩ := IsPart.raw pl
  obtain ⟨u, rfl, hu⟩ := IsPart.raw pu
  obtain ⟨st, rfl, hs⟩ := IsPart.raw ps
  refine tail_any (ops := [.ref s4.heap.objs.size, .str z t]) (typeIs_str _ _ _) F.slot_str_getitem.lookup ?_ (by with_unfolding_all rfl)
  refine wpAny_getItem_str_slice (l := l) (u := u) (st := st) ⟨_, Heap.get?_push_size _ rfl, rfl, rfl⟩ (by rw [hs]; rfl) ?_
  unfold sliceMade slicePicked
  rw [hs, hl, hu]
  have e1 : Builtin.Str.strSliceIndices none none ((some (-1 : Int)).getD 1) z.length = (List.range z.cps.size).reverse := by
    show sliceRange ((z.cps.size : Int) - 1) (-1) (-1) = _
    rw [PySem.W.krv_sliceRange, PySem.W.krv_range]
  rw [e1, if_neg (by simp), List.filterMap_reverse, PySem.W.krv_all]
  refine ⟨?_, .str _, H4, I5.tok _, ⟨_, rfl⟩, q⟩
  show (revS z).length ≤ sizeLine
  rw [len_revS]
  exact hz
end Ls
end
section
set_option Elab.async false
set_option linter.all false
set_option maxRecDepth 100000
set_option maxHeartbeats 4000000
namespace Ls
open PySem PySem.Spec PyProof.Rows L2
/-! ### C.f(a, ..), f a def written in the class at C (or above): no binding -/
/-- C.m is the def at g -/
structure Clf (P : Program) (w : World) (K : PySem.W.Frag) (mg : Str → Option Value) (base : Heap) (CX : CXT) (k : Nat) (C : Addr) (m : Str) (sp : Sp) : Prop where
  ex : ∃ (mc : Value) (g : Addr), ClX.CRead K C mc ∧ PySem.W.findCls K (.ref C) mc m = some (.val (.ref g)) ∧ PySem.W.keepIn K (.ref g) = true ∧ FnR P w K mg base CX k g sp
section
variable {X : Cx} {CX : CXT} {k : Nat} {C : Addr} {m x : Str} {sp : Sp} {E : XK} {o e : PySem.Expr} {es : List PySem.Expr} {ta te : TE} {t : TA} {p apos pos sp_ : Pos} {pl : Sem Bool}
theorem pe_clf (c : Clf X.prog X.w X.K X.mg X.base CX k C m sp) (hr : Room k X.A) (ho : PE X o ta) (hx : Passes CX X E) (ha : PA X (e :: es) t)
    (hst : starEach (e :: es) X.env = (false, eval e X.env) :: starEach es X.env := by rfl) (hpl : (backTo pos (starEach es X.env)).any (·.1) = false := by rfl)
    (ht : eval (.Call (.Attribute o m apos) (e :: es) [] pos) X.env = (do
      let ov ← eval o X.env
      standAt apos.atName
      let (f, first) ← holding [ov] (getMethod ov m pl)
      callWith pos f first (backTo pos (starEach (e :: es) X.env)) (backToKw pos (keywordEach [] X.env))) := by rfl) :
    PE X (.Call (.Attribute o m apos) (e :: es) [] pos) (fun σ H Q => ta σ H fun v H1 => v = .ref C ∧ t σ H1 fun vs H2 => sp vs H2 Q E) := by
  obtain ⟨mc, g, rd, fc, kp, F⟩ := c.ex
  refine ⟨fun pins s σ H Q I h => PySem.W.methodCall_KW (pl := pl) (thn (ho.run pins s σ H _ I h) fun u s1 q1 => ?_) ht⟩
  obtain ⟨v, H1, I1, rv, rfl, q1⟩ := q1
  obtain rfl : u = Value.ref C := rv
  refine PySem.W.method_cls I1.kIn rd.ga (ClX.getcval_ok (v := .ref g) I1 rd ⟨fc, rfl⟩ fun s2 I2 => ?_)
  refine PySem.W.callWith_K (h₀ := X.base) I2.ok.mod.kin kp (thn (ha.run pos pins s2 σ H1 _ I2 q1) fun us s3 q3 => ?_) hst hpl
  obtain ⟨vs, H2, I3, r3, q3⟩ := q3
  exact ⟨I3.kIn, wpAny_call (run_fnR F hr hx I3 r3 q3)⟩
/-! ### C() and C(*y) -/
def tMk0 (C : Addr) (sp : Sp) (E : XK) : TE := fun _ H Q => ∀ a dx, H a = none → H dx = none → dx ≠ a → sp [V.ref a] (upd (upd H dx (.own a)) a (.ins C dx [])) (fun v H2 => v = .non ∧ Q (.ref a) H2) E
theorem pe_mk0 (c : Mkc X.prog X.w X.K X.mg X.base CX k C x sp) (hr : Room (k + 1) X.A) (hg : Gl X x) (hx : Passes CX X E) (hdb : (x == ("__debug__" : Str)) = false := by decide) : PE X (.Call (.Name x p) [] [] pos) (tMk0 C sp E) := by
  obtain ⟨f, hm, M, F⟩ := c.ex
  refine ⟨fun pins s σ H Q I h => wpAny_Call_Name_kw (ld_glob I hg hm ?_ hdb)⟩
  exact PySem.W.callWith_K0 I.kIn M.kp (StX.run_makeR (us := []) (vs := []) M F hr hx I .nil h)
def tMkS (K : PySem.W.Frag) (C : Addr) (sp : Sp) (E : XK) (te : TE) : TE := fun σ H Q => te σ H fun y H1 => ∃ b xs, y = V.ref b ∧ (SqT K H1 b xs ∨ SqL K H1 b xs) ∧
  ∀ a dx, H1 a = none → H1 dx = none → dx ≠ a → sp (V.ref a :: xs) (upd (upd H1 dx (.own a)) a (.ins C dx [])) (fun v H2 => v = .non ∧ Q (.ref a) H2) E
theorem pe_mkS (c : Mkc X.prog X.w X.K X.mg X.base CX k C x sp) (hr : Room (k + 1) X.A) (hg : Gl X x) (hx : Passes CX X E) (he : PE X e te) (hdb : (x == ("__debug__" : Str)) = false := by decide)
    (hst : starEach [.Starred e sp_] X.env = [(true, eval e X.env)] := by rfl) : PE X (.Call (.Name x p) [.Starred e sp_] [] pos) (tMkS X.K C sp E te) := by
  obtain ⟨f, hm, M, F⟩ := c.ex
  refine ⟨fun pins s σ H Q I h => wpAny_Call_Name_kw (ld_glob I hg hm ?_ hdb)⟩
  refine PySem.W.callWith_S (h₀ := X.base) I.ok.mod.kin M.kp (thn (he.run pins s σ H _ I h) fun v s1 q1 => ?_) hst
  obtain ⟨y, H1, I1, ry, b, xs, rfl, hxs, q⟩ := q1
  obtain rfl : v = Value.ref b := ry
  exact StX.star_any I1 hxs fun us s2 I2 rv => ⟨I2.kIn, StX.run_makeR M F hr hx I2 rv q⟩
/-! ### xs.count(y), flat items -/
theorem count_eqU {x : V} : ∀ {xs : List V} {us : List Value}, Vals xs us → xs.all flatV = true → us.countP (eqU x) = xs.countP fun y => eqV y x
  | _, _, .nil, _ => rfl
  | y :: xs, u :: us, .cons r t, f => by
    rw [List.all_cons, Bool.and_eq_true] at f
    rw [List.countP_cons, List.countP_cons, eqU_of r f.1, count_eqU t f.2]
def rCntF (K : PySem.W.Frag) : V → List V → Hp → VK → Prop := fun x ys H Q => ∃ (p : Addr) (xs : List V) (y : V), x = .ref p ∧ ys = [y] ∧ SqL K H p xs ∧ flatV y = true ∧ xs.all flatV = true ∧ Q (.int (xs.countP (fun z => eqV z y) : Nat)) H
theorem mt_countF : MtR X "list.count" (rCntF X.K) := by
  intro pins s σ H x ys v us Q I rx rxs h
  obtain ⟨p, xs, y, rfl, rfl, hs, fy, fs, q⟩ := h
  cases rx
  obtain ⟨u, rfl, ru⟩ := rxs.one
  obtain ⟨its, rv, ⟨⟨cls, dd, data, sl⟩, n, ho, hc, hdn, hd⟩, hlen⟩ := I.list hs
  simp only at hc hd
  subst hc hd
  refine call_meets PySem.F.slot_list_count ⟨_, ho, rfl⟩ PySem.F.entry_list_count (PySem.F.args_list_count_2 _ _)
    (SeqAt.list_countAt p its.toArray n dd sl u (eqU y)) ⟨ho, fun z hz => mem_eqAt ru fy rv fs z (by simpa using hz), ?_⟩
  have ec : its.toArray.toList.countP (eqU y) = xs.countP fun z => eqV z y := count_eqU rv fs
  refine ⟨.int (xs.countP (fun z => eqV z y) : Nat), H, I.tok _, ⟨s.toks, ?_⟩, q⟩
  show Value.int ((its.toArray.toList.countP (eqU y) : Nat) : Int) s.toks = _
  rw [ec]
end
/-! ### a def with one star parameter behind the first, or behind two -/
section
variable {P : Program} {w : World} {K : PySem.W.Frag} {mg : Str → Option Value} {base : Heap}
/-- what is left over lies in a new tuple -/
def spStar (n : Nat) (sp : Sp) : Sp := fun vs H Q E => ∃ ws rest, vs = ws ++ rest ∧ ws.length = n ∧ rest.length ≤ sizeLine ∧ ∀ p, H p = none → sp (ws ++ [V.ref p]) (upd H p (.tup rest)) Q E
end
end Ls
namespace Ls
open PySem PySem.Spec PyProof.Rows L2
/-! ### xs.count(y) within a comprehension's block -/
section
variable {X : Cx} {K : PySem.W.Frag} {o e : PySem.Expr} {to : TE} {t : TA} {apos cpos : Pos}
theorem pe_countK (hK : X.K = K) (ho : PE X o to) (ha : PA X [e] t) (hbase : attributeBase o "count" X.env (eval o X.env) = eval o X.env := by rfl)
    (hfew : ((backTo cpos (starEach [e] X.env)).all (fun x => !x.1) && (backToKw cpos (keywordEach [] X.env)).all (fun x => x.1.isSome) && decide (([e] : List PySem.Expr).length + ([] : List Keyword).length + (if ([] : List Keyword).isEmpty then 0 else 1) < 30)) = true := by rfl)
    (hline : (apos.endLine == cpos.line) = true := by rfl) (hs : starEach [e] X.env = (false, eval e X.env) :: starEach [] X.env := by rfl) (hplain : (backTo cpos (starEach [] X.env)).any (·.1) = false := by rfl) :
    PE X (.Call (.Attribute o "count" apos) [e] [] cpos) (tBM K "list" (rCntF K) to t) := by
  subst hK
  exact pe_bm PySem.F.plainAttrs_list PySem.F.slot_list_count PySem.F.type_list_count mt_countF ho ha hbase hfew hline hs hplain
end
/-! ### texts, each once -/
theorem count_strs (z : Str) : ∀ l : List Str, (l.map V.str).countP (fun y => eqV y (.str z)) = l.count z
  | [] => rfl
  | a :: l => by
    rw [List.map_cons, List.countP_cons, List.count_cons, count_strs z l]
    have : eqV (.str a) (.str z) = (a == z) := rfl
    rw [this]
theorem once_iff {l : List Str} : (l.all fun z => l.count z == 1) = true ↔ l.Nodup := by
  rw [List.nodup_iff_count, List.all_eq_true]
  constructor
  · intro h a
    by_cases ha : a ∈ l
    · have := h a ha
      simp at this
      omega
    · rw [List.count_eq_zero.mpr ha]
      omega
  · intro h z hz
    have h1 := h z
    have h2 := List.count_pos_iff.mpr hz
    simp
    omega
theorem card_iff {M l : List Str} (nd : M.Nodup) (hm : ∀ y, y ∈ M ↔ y ∈ l) : M.length = l.length ↔ l.Nodup := by
  constructor
  · intro e
    rw [List.nodup_iff_count]
    intro a
    refine Nat.le_of_not_lt fun h2 => ?_
    have hin : a ∈ l := List.count_pos_iff.mp (by omega)
    have sub : ∀ y ∈ M, y ∈ l.erase a := fun y hy => by
      have hy' := (hm y).mp hy
      by_cases ey : y = a
      · subst ey
        refine List.count_pos_iff.mp ?_
        rw [List.count_erase_self]
        omega
      · exact (List.mem_erase_of_ne ey).mpr hy'
    have h3 := nd.length_le_of_subset sub
    rw [List.length_erase_of_mem hin] at h3
    have := List.length_pos_of_mem hin
    omega
  · intro h
    have h1 := nd.length_le_of_subset fun y hy => (hm y).mp hy
    have h2 := h.length_le_of_subset fun y hy => (hm y).mpr hy
    omega
end Ls
end
section
set_option Elab.async false
set_option linter.all false
set_option maxRecDepth 100000
set_option maxHeartbeats 4000000
/-! Sets of texts: set(xs), len and sorted of it. What HandS.Set says of sets of ints, told of texts; the tables' own lemmas are its. -/
namespace Ls
open PySem PySem.Spec PyProof.Rows L2
/-- the text of an entry -/
def txt (e : Int × Value) : Str := match e.2 with
  | .str z _ => z
  | _ => Str.empty
def EntT (w : World) (e : Int × Value) : Prop := ∃ tk, e.2 = Value.str (txt e) tk ∧ e.1 = hashStr w (txt e)
/-- at a stands a set of texts: those of L, each once -/
def TSet (w : World) (h : Heap) (a : Addr) (L : List Str) : Prop :=
  ∃ o es ep t, h.get? a = some o ∧ (o.ExactSet ∧ o.data = .set es ep t) ∧ ((∀ e ∈ es.toList, EntT w e) ∧ (es.toList.map txt).Perm L ∧ L.Nodup) ∧ (es.size < scanBound ∧ t.fits es.size = true ∧ Ris t.place.toList) ∧ (w.params.followText "set-order" = true ∨ t.led = true)
section
variable {P : Program} {w : World} {A : Around} {E : Value → Shared → Prop} {s : Shared} {a : Addr} {L : List Str}
theorem TSet.keep {h h' : Heap} (R : TSet w h a L) (k : ∀ o, h.get? a = some o → h'.get? a = some o) : TSet w h' a L :=
  let ⟨o, es, ep, t, ho, r⟩ := R
  ⟨o, es, ep, t, k o ho, r⟩
theorem ents {l : List (Int × Value)} (g : ∀ e ∈ l, EntT w e) : ElemsOf (PySem.strKind P w) l := fun e he => by
  obtain ⟨tk, h1, h2⟩ := g e he
  exact ⟨⟨txt e, by rw [h1]; exact strKind_is P w _ _, h2⟩, by rw [h1]; rfl⟩
theorem ent_is {e : Int × Value} (g : EntT w e) (z : Str) : (PySem.strKind P w).is z e.2 = true ↔ txt e = z := by
  obtain ⟨tk, h1, _⟩ := g
  have hk : (PySem.strKind P w).is (txt e) e.2 = true := by rw [h1]; exact strKind_is P w _ _
  rw [KeyKind.is_eq_decide hk z, decide_eq_true_eq]
  exact eq_comm
/-- the entries stored; the table grown where it is too full -/
theorem tset_tail {g : Bool → Sem Unit} (hg : ∀ (b : Bool) (s₁ : Shared) (Q' : Unit → Shared → Prop), Q' () s₁ → wpAny (model P w) A (g b) Q' E s₁) {o : Obj} {es ns : Array (Int × Value)} {ep : Nat} {t u : SetTable} {M : List Str} {dm : Bool} {R : Option Bool → Shared → Prop}
    (ho : s.heap.get? a = some o) (hx : o.ExactSet) (hd : o.data = .set es ep t) (gn : ∀ e ∈ ns.toList, EntT w e) (pm : (ns.toList.map txt).Perm M) (nd : M.Nodup) (hb : ns.size < scanBound) (hf : u.fits ns.size = true) (hr : Ris u.place.toList)
    (hl : w.params.followText "set-order" = true ∨ u.led = true) (hR : ∀ h', Heap.SameBut a s.heap h' → TSet w h' a M → R (some true) { s with heap := h' }) :
    wpAny (model P w) A (do
        storeSet a ns u
        if (!dm && u.tooFull) = true then do
            g (relayAll u ns (SetTable.grown ns.size)).2.2
            storeSet a (relayAll u ns (SetTable.grown ns.size)).1 (relayAll u ns (SetTable.grown ns.size)).2.1
            pure (some true)
          else pure (some true)) R E s := by
  have o1 := store_at (es' := ns) (t' := u) ho hd
  have b1 := Heap.SameBut.update s.heap a (Obj.putSet ns u)
  refine wpAny_bind (wpAny_storeSet_of ho hd ?_ (fits_of_scanBound hb))
  by_cases c : (!dm && u.tooFull) = true
  · rw [if_pos c]
    have q1 := relayAll_perm u ns (SetTable.grown ns.size)
    have q2 := relayAll_fits u ns (SetTable.grown ns.size)
    have q3 := relayAll_ris u ns (SetTable.grown ns.size)
    have q4 := relayAll_led u ns (SetTable.grown ns.size)
    generalize relayAll u ns (SetTable.grown ns.size) = Z at q1 q2 q3 q4 ⊢
    obtain ⟨n2, u2, gv⟩ := Z
    dsimp only at q1 q2 q3 q4 ⊢
    have hz : n2.size < scanBound := by
      have := q1.length_eq
      rw [Array.length_toList, Array.length_toList] at this
      omega
    refine wpAny_bind (hg _ _ _ (wpAny_bind (wpAny_storeSet_of o1 rfl ?_ (fits_of_scanBound hz))))
    refine wpAny_pure (hR _ (b1.trans (Heap.SameBut.update _ a _)) ⟨_, n2, _, u2, store_at o1 rfl, ⟨hx, rfl⟩, ⟨fun e he => gn e (q1.mem_iff.mp he), (q1.map txt).trans pm, nd⟩, ⟨hz, q2, q3⟩, ?_⟩)
    rcases hl with z | z
    · exact .inl z
    · exact .inr (by rw [q4]; exact z)
  · rw [if_neg c]
    exact wpAny_pure (hR _ b1 ⟨_, ns, _, u, o1, ⟨hx, rfl⟩, ⟨gn, pm, nd⟩, ⟨hb, hf, hr⟩, hl⟩)
theorem tset_add {z : Str} {tk : Tok} {Q : Bool → Shared → Prop} (R : TSet w s.heap a L) (room : L.length + 1 < scanBound)
    (hQ : ∀ h' M b, Heap.SameBut a s.heap h' → TSet w h' a M → M.length ≤ L.length + 1 → (∀ y, y ∈ M ↔ y ∈ L ∨ y = z) → Q b { s with heap := h' }) :
    wpAny (model P w) A (setAddHashed a (.str z tk) ((PySem.strKind P w).hash z)) Q E s := by
  obtain ⟨o, es, ep, t, ho, ⟨hx, hd⟩, ⟨ge, pm, nd⟩, ⟨hb, hf, hr⟩, hl⟩ := R
  have el : ElemsOf (PySem.strKind P w) es.toList := ents ge
  have hk : (PySem.strKind P w).is z (.str z tk) = true := strKind_is P w z tk
  unfold setAddHashed setAddHashedIn
  refine wpAny_holding (wpAny_bind (wpAny_setState_of ho hd hf ?_))
  dsimp only
  rw [byScan_of rfl hb el]
  simp only [↓reduceIte]
  unfold setAddByScan
  refine wpAny_bind (wpAny_bind (wpAny_rule (wpAny_bind (wpAny_setScan_of hk ho hd hf el ?_))))
  cases hfi : List.findIdx? (fun e => (PySem.strKind P w).is z e.2) es.toList with
  | some j =>
    dsimp only
    obtain ⟨hj, pj, _⟩ := List.findIdx?_eq_some_iff_getElem.mp hfi
    have hin : z ∈ L := pm.mem_iff.mp (List.mem_map.mpr ⟨_, List.getElem_mem hj, (ent_is (ge _ (List.getElem_mem hj)) z).mp pj⟩)
    refine wpAny_pure (wpAny_pure (hQ s.heap L _ (Heap.SameBut.refl a s.heap) ⟨o, es, ep, t, ho, ⟨hx, hd⟩, ⟨ge, pm, nd⟩, ⟨hb, hf, hr⟩, hl⟩ (Nat.le_succ _) fun y => ⟨.inl, fun q => ?_⟩))
    rcases q with q | q
    · exact q
    · rw [q]; exact hin
  | none =>
    dsimp only
    have hno : z ∉ L := fun q => by
      obtain ⟨e, he, q⟩ := List.mem_map.mp (pm.mem_iff.mpr q)
      have := List.findIdx?_eq_none_iff.mp hfi e he
      rw [(ent_is (ge e he) z).mpr q] at this
      cases this
    have q1 := layNew_perm t es ((PySem.strKind P w).hash z) (.str z tk)
    have q2 := layNew_fits t es ((PySem.strKind P w).hash z) (.str z tk)
    have q3 := layNew_ris t es ((PySem.strKind P w).hash z) (.str z tk) hr
    have q4 := layNew_led t es ((PySem.strKind P w).hash z) (.str z tk)
    generalize layNew t es ((PySem.strKind P w).hash z) (.str z tk) = Z at q1 q2 q3 q4 ⊢
    obtain ⟨ns, u, dm, gv⟩ := Z
    dsimp only at q1 q2 q3 q4 ⊢
    rw [Array.toList_push] at q1
    have q5 : ns.toList.Perm ((hashStr w z, Value.str z tk) :: es.toList) := q1.trans (List.perm_append_singleton _ _)
    have gn : ∀ e ∈ ns.toList, EntT w e := fun e he => by
      rcases List.mem_cons.mp (q5.mem_iff.mp he) with c | c
      · rw [c]; exact ⟨tk, rfl, rfl⟩
      · exact ge e c
    have pn : (ns.toList.map txt).Perm (z :: L) := (q5.map txt).trans (List.Perm.cons z pm)
    have nn : (z :: L).Nodup := List.nodup_cons.mpr ⟨hno, nd⟩
    have hz : ns.size = L.length + 1 := by
      have := pn.length_eq
      rw [List.length_map, Array.length_toList, List.length_cons] at this
      exact this
    have hbn : ns.size < scanBound := by omega
    have hln : w.params.followText "set-order" = true ∨ u.led = true := by
      rcases hl with c | c
      · exact .inl c
      · exact .inr (by rw [q4]; exact c)
    have fin : ∀ h', Heap.SameBut a s.heap h' → TSet w h' a (z :: L) → Q true { s with heap := h' } := fun h' sb r => hQ h' (z :: L) true sb r (Nat.le_refl _) fun y => by
      rw [List.mem_cons]
      exact Or.comm
    have way : ∀ (b : Bool) (s₁ : Shared) (Q' : Unit → Shared → Prop), Q' () s₁ → wpAny (model P w) A (match b with | true => rule "set.scan.the-table-gave-way" | false => pure ()) Q' E s₁ := fun b s₁ Q' q => by
      cases b
      · exact wpAny_pure q
      · exact wpAny_rule q
    refine wpAny_bind (way _ _ _ ?_)
    by_cases hp : u.plain = true
    · rw [if_pos hp]
      refine wpAny_bind ?_
      rw [hashByValue_scannable 8 (show (Value.str z tk).scannable = true from rfl)]
      refine wpAny_pure (tset_tail way ho hx hd gn pn nn hbn ?_ ?_ ?_ fun h' sb r => ?_)
      · split
        · exact q2
        · exact SetTable.fits_plain_off q2
      · split <;> exact q3
      · split <;> exact hln
      · exact wpAny_pure (fin h' sb r)
    · rw [if_neg hp]
      refine wpAny_bind (wpAny_pure ?_)
      simp only [↓reduceIte]
      exact tset_tail way ho hx hd gn pn nn hbn q2 q3 hln fun h' sb r => wpAny_pure (fin h' sb r)
/-! ### set(xs) -/
theorem tset_loop {I : Addr} {fp wr : List Addr} {G : Array GenState → Array GenState → Prop} {n : Nat} {Pv : Nat → Value → Prop} {St : Nat → Shared → Prop} {R : Result → Shared → Prop} (W : WalksS P w A.in1 I fp wr G n Pv St) (hSf : a ∉ fp)
    (xs : List Str) (hn : xs.length = n) (hb : xs.length + 1 < scanBound) (hv : ∀ i v, Pv i v → ∃ z tk, xs[i]? = some z ∧ v = .str z tk) :
    ∀ (d i : Nat) (s : Shared) (L : List Str), i + d = n → St i s → TSet w s.heap a L → L.length ≤ i → (∀ y, y ∈ L ↔ y ∈ xs.take i) →
      (∀ s' M, Moved (a :: wr) G s s' → TSet w s'.heap a M → M.length ≤ n → (∀ y, y ∈ M ↔ y ∈ xs) → R (.ok (.ret .none)) s') →
      codeAny (model P w) A (.builtin "set.update.loop" ⟨[.ref a, .ref I], []⟩) R s := by
  have hSw : a ∉ wr := fun h => hSf (W.sub _ h)
  have more : ∀ b ∈ wr, b ∈ a :: wr := fun b hb => List.mem_cons_of_mem _ hb
  intro d
  induction d with
  | zero =>
    intro i s L hi hst hS hlen hmem hR
    have e : i = n := by omega
    subst e
    refine codeAny_builtin F.entry_set_update_loop ?_
    rw [Around.under_plainId F.plain_set_update_loop _]
    show wpAny _ A.in1 (pyNext (.ref I) >>= _) _ _ s
    refine wpAny_bind (W.done s _ _ hst fun s' hm => ?_)
    refine wpAny_pure (hR s' L (hm.mono more) (hS.keep fun o q => hm.heap a o hSw q) hlen fun y => ?_)
    rw [hmem, List.take_of_length_le (by omega)]
  | succ d ih =>
    intro i s L hi hst hS hlen hmem hR
    refine codeAny_builtin F.entry_set_update_loop ?_
    rw [Around.under_plainId F.plain_set_update_loop _]
    show wpAny _ A.in1 (pyNext (.ref I) >>= _) _ _ s
    refine wpAny_bind (W.item i s _ _ (by omega) hst fun v s1 hP hst1 hm1 => ?_)
    obtain ⟨z, tk, hz, rfl⟩ := hv i v hP
    show wpAny _ A.in1 (holding [Value.str z tk] (setAdd a (.str z tk)) >>= _) _ _ s1
    refine wpAny_bind (wpAny_holding ?_)
    unfold setAdd
    refine wpAny_holding (wpAny_bind ((PySem.strKind P w).pyHash (k := z) (strKind_is _ _ _ _) ?_))
    refine tset_add (s := { s1 with toks := s1.toks + 1 }) (hS.keep fun o q => hm1.heap a o hSw q) (by omega) fun h2 M b sb hM lM mM => ?_
    refine wpAny_pure ⟨plainId_quiet F.plain_set_update_loop _, ih (i + 1) _ M (by omega) (W.frame _ s1 _ _ hst1 (Nat.le_succ _) fun b hb o q => ?_) hM (by omega) (fun y => ?_) fun s3 M3 hm3 h3 l3 e3 => hR s3 M3 (Moved.trans W.gtrans ((hm1.mono more).then_heap (Nat.le_succ _) fun b o hb q => ?_) hm3) h3 l3 e3⟩
    · rw [sb.2 b fun c => hSf (c ▸ hb)]
      exact q
    · rw [mM, hmem, List.take_add_one, hz, List.mem_append]
      simp
    · rw [sb.2 b fun c => hb (c ▸ List.mem_cons_self)]
      exact q
/-- an empty set, laid -/
abbrev set0 (w : World) : Obj := { cls := .type "set", dict := none, data := .set #[] 0 (.fresh 0 0 (!w.params.followText "set-order")) }
theorem tset_fresh {h : Heap} {a : Addr} (ho : h.get? a = some (set0 w)) : TSet w h a [] := by
  refine ⟨_, #[], 0, _, ho, ⟨⟨rfl, rfl, rfl⟩, rfl⟩, ⟨fun e he => by simp at he, List.Perm.refl _, List.nodup_nil⟩, ⟨by decide, by rfl, List.Pairwise.nil⟩, ?_⟩
  show _ ∨ (!w.params.followText "set-order") = true
  cases w.params.followText "set-order"
  · exact .inr rfl
  · exact .inl rfl
theorem call_setT {l : Addr} {items : Array Value} (xs : List Str) {Q : Value → Shared → Prop} (hh : A.handled = none) (hl : s.heap.IsList l items) (hx : StrsAre items.toList xs) (hb : xs.length + 1 < scanBound)
    (h : ∀ (h' : Heap) (tk : Nat) (M : List Str), TSet w h' s.heap.objs.size M → M.length ≤ xs.length → (∀ y, y ∈ M ↔ y ∈ xs) → (∀ b o, s.heap.get? b = some o → h'.get? b = some o) → Q (.ref s.heap.objs.size) { s with heap := h', toks := tk }) :
    wpAny (model P w) A (call (.type "set") [.ref l]) Q E s := by
  have hsz : xs.length = items.size := by rw [← StrsAre.len_eq hx, Array.length_toList]
  obtain ⟨c, tl, hmro⟩ := F.called_set.mro
  have hmade := F.called_set.made
  have hsub := F.called_set.sub
  have n1 := F.called_set.notType
  have n2 := F.called_set.canCreate
  have n3 := F.typeCall_set_1 (.ref l)
  refine wpAny_call (codeAny_of_tree ?_)
  show wpAny _ _ (callAny (.type "set") _) _ _ _
  refine wpAny_pure ⟨Code.quiet_builtin _ (by decide +kernel), codeAny_builtin F.entry_type_call ?_⟩
  rw [Around.under_plain (weight_type_call_type "set" [.ref l] []) rfl]
  repeat (any_goals (first | assumption | wp_step))
  refine codeAny_mono (code_set_led1 (.ref l) (E := E) (Q₁ := fun v s1 => v = .ref s.heap.objs.size ∧ s1 = { s with heap := s.heap.push (set0 w) }) ⟨rfl, rfl⟩) fun r s1 hr => ?_
  match r, hr with
  | .error e, hr => exact hr
  | .ok (.ret v), ⟨e1, e2⟩ =>
    subst e1 e2
    have hS : (s.heap.push (set0 w)).get? s.heap.objs.size = some (set0 w) := Heap.get?_push_size _ rfl
    have hT : Shared.TypeIs { s with heap := s.heap.push (set0 w) } (.ref s.heap.objs.size) "set" := ⟨_, hS, rfl⟩
    have i1 := F.called_set.init.lookup
    have i2 := F.called_set.init.bind (.ref s.heap.objs.size)
    repeat (any_goals (first | assumption | wp_step))
    refine codeAny_mono (codeAny_call_builtin (R := wants (fun r s2 => r = .none ∧ ∃ h' tk M, s2 = { s with heap := h', toks := tk } ∧ TSet w h' s.heap.objs.size M ∧ M.length ≤ xs.length ∧ (∀ y, y ∈ M ↔ y ∈ xs) ∧ (∀ b o, s.heap.get? b = some o → h'.get? b = some o)) E)
      F.called_set.init.plain F.entry_set_init (check_set_init_1 hT ?_)) fun r2 s2 hr2 => ?_
    · obtain ⟨⟨kc, kd, ka, ks⟩, hol, hcl, nl, hdl⟩ := hl
      simp only at hcl hdl
      subst hcl hdl
      have ol : (s.heap.push (set0 w)).get? l = some { cls := .type "list", dict := kd, data := .seq items nl, slots := ks } := Heap.get?_push_of_some _ hol
      have s1 := F.sub_list_set
      have s2 := F.sub_list_frozenset
      have s3 : (Value.type "list" == Value.type "dict") = false := by decide
      have hl1 : (s.heap.push (set0 w)).IsList l items := ⟨_, ol, rfl, nl, rfl⟩
      unfold Builtin.«set.__init__» noKeywords Builtin.Frozenset.updateFrom
      generalize hPI : pyIter = PI
      wp_walk
      subst hPI
      refine wpAny_pyIter_list hl1 (wpAny_bind (wpAny_runValue ?_))
      have hlt : l < s.heap.objs.size := Heap.lt_size hol
      have hz : (s.heap.push (set0 w)).objs.size = s.heap.objs.size + 1 := Heap.size_push ..
      have hA : A.in1.in1.in1.handled = none := by simp [hh]
      have nI : l ≠ (s.heap.push (set0 w)).objs.size := by rw [hz]; exact Nat.ne_of_lt (Nat.lt_succ_of_lt hlt)
      have nS : s.heap.objs.size ∉ [(s.heap.push (set0 w)).objs.size, l] := by
        rw [hz]
        simp only [List.mem_cons, List.not_mem_nil, or_false, not_or]
        exact ⟨Nat.ne_of_lt (Nat.lt_succ_self _), Nat.ne_of_gt hlt⟩
      refine tset_loop ((Walks.list hA _ l nI items).toS) nS xs hsz hb (fun i v hv => ?_) items.size 0 _ [] (by omega) ⟨⟨_, Heap.get?_push_size _ rfl, rfl, rfl⟩, hl1.push _⟩ (tset_fresh (Heap.get?_push_of_some _ hS)) (Nat.le_refl _) (fun y => by simp) fun s' M hm hM lM mM => ?_
      · have hi : i < xs.length := by rw [hsz]; exact (Array.getElem?_eq_some_iff.mp hv).1
        obtain ⟨tk, e⟩ := SS.strs_at hx i v (by rw [Array.getElem?_toList]; exact hv)
        refine ⟨xs[i], tk, List.getElem?_eq_getElem hi, ?_⟩
        rw [e, List.getD_eq_getElem?_getD, List.getElem?_eq_getElem hi]
        rfl
      · obtain ⟨h', g', d', tk', os'⟩ := s'
        obtain rfl : g' = s.gens := hm.gens
        obtain rfl : d' = s.drawn := hm.drawn
        obtain rfl : os' = s.os := hm.os
        show wpAny _ _ _ _ _ _
        refine wpAny_pure ?_
        show wpAny _ _ (ret Value.none) _ _ _
        refine wpAny_pure ⟨rfl, h', tk', M, rfl, hM, by rw [hsz]; exact lM, mM, fun b o q => ?_⟩
        have hb0 : b < s.heap.objs.size := Heap.lt_size q
        refine hm.heap b o ?_ (Heap.get?_push_of_some _ (Heap.get?_push_of_some _ q))
        rw [hz]
        simp only [List.mem_cons, List.not_mem_nil, or_false, not_or]
        exact ⟨Nat.ne_of_lt hb0, Nat.ne_of_lt (Nat.lt_succ_of_lt hb0)⟩
    · match r2, hr2 with
      | .error e, hr2 => exact hr2
      | .ok (.ret v), ⟨e1, h', tk, M, e2, q1, q2, q3, q4⟩ =>
        subst e1 e2
        repeat (any_goals (first | assumption | wp_step))
        exact h _ _ _ q1 q2 q3 q4
end
/-! ### the rules -/
/-- a set of texts, tracked -/
def SetT (w : World) (a : Addr) (L : List Str) : HO := .ext fun h => TSet w h a L
section
variable {X : Cx} {pins : List (Addr × Obj)} {σ : L2.St} {H : Hp} {s : Shared} {a : Addr} {L : List Str}
theorem setT_new {P : Program} {w : World} {H : Hp} {h : Heap} (R : TSet w h a L) : ObjOk P w H h a (SetT w a L) := by
  have ⟨o, _, _, _, ho, _⟩ := R
  exact ⟨R, ⟨o, ho⟩, fun h1 h2 p k => TSet.keep p k⟩
/-- set(xs), xs a list of texts -/
def rSetT (K : PySem.W.Frag) (w : World) : List V → Hp → VK → Prop := fun vs H Q => ∃ (l : Addr) (ys : List Str), vs = [.ref l] ∧ SqL K H l (ys.map V.str) ∧ ys.length ≤ 1000 ∧
  ∀ p M, H p = none → M.Nodup → M.length ≤ ys.length → (∀ y, y ∈ M ↔ y ∈ ys) → Q (.ref p) (upd H p (SetT w p M))
theorem cr_setT (hc : X.calm = true) : CallR X (.type "set") (rSetT X.K X.w) := by
  intro pins s σ H vs us Q I r h
  obtain ⟨l, ys, rfl, hl, hn, q⟩ := h
  rw [Vals.ref1 r]
  obtain ⟨its, rv, pl, hz⟩ := I.list hl
  refine call_setT ys (I.ok.hd hc) pl.isList (by simpa using rv.strs) (by unfold scanBound; omega) fun h' tk M hM lM mM k => ?_
  have nd : M.Nodup := by
    obtain ⟨_, _, _, _, _, _, ⟨_, _, nd⟩, _⟩ := hM
    exact nd
  exact ⟨.ref s.heap.objs.size, upd H s.heap.objs.size (SetT X.w s.heap.objs.size M), I.laid (t' := tk) k (Nat.le_refl _) (setT_new hM), rfl, q _ M (I.hok.fresh (Nat.le_refl _)) nd lM mM⟩
/-- len(set) -/
def rLenT (w : World) : List V → Hp → VK → Prop := fun vs H Q => ∃ (a : Addr) (M : List Str), vs = [.ref a] ∧ H a = some (SetT w a M) ∧ Q (.int M.length) H
theorem cr_lenT : CallR X (.builtin "len") (rLenT X.w) := by
  intro pins s σ H vs us Q I r h
  obtain ⟨a, M, rfl, ha, q⟩ := h
  rw [Vals.ref1 r]
  obtain ⟨o, es, ep, t, ho, ⟨hx, hd⟩, ⟨ge, pm, nd⟩, ⟨hb, hf, hr⟩, hl⟩ := (show TSet X.w s.heap a M from (I.hok a _ ha).1)
  have hz : es.size = M.length := by
    have := pm.length_eq
    rw [List.length_map, Array.length_toList] at this
    exact this
  refine call_len_set ho hx hd hf (by unfold scanBound at hb; omega) ⟨.int M.length, H, I.tok _, ⟨s.toks + 1, ?_⟩, q⟩
  rw [hz]
/-- sorted(set), fewer than 64 -/
def rSortT (w : World) : List V → Hp → VK → Prop := fun vs H Q => ∃ (a : Addr) (M : List Str), vs = [.ref a] ∧ H a = some (SetT w a M) ∧ M.length < 64 ∧ ∀ ys p, ys.Perm M → sortedS ys = true → H p = none → Q (.ref p) (upd H p (.lst (ys.map V.str)))
theorem strs_txt {w : World} : ∀ {l : List (Int × Value)}, (∀ e ∈ l, EntT w e) → StrsAre (l.map (·.2)) (l.map txt)
  | [], _ => .nil
  | e :: l, g => by
    obtain ⟨tk, h1, _⟩ := g e (by simp)
    rw [List.map_cons, List.map_cons, h1]
    exact .cons _ tk (strs_txt fun x hx => g x (List.mem_cons_of_mem _ hx))
theorem strs_perm {vs us : List Value} {ks : List Str} (p : vs.Perm us) (h : StrsAre us ks) : ∃ ks', StrsAre vs ks' ∧ ks'.Perm ks := by
  induction p generalizing ks with
  | nil => exact ⟨ks, h, List.Perm.refl _⟩
  | cons x p ih =>
    cases h with
    | cons k t h =>
      obtain ⟨ks', h1, h2⟩ := ih h
      exact ⟨k :: ks', .cons k t h1, h2.cons k⟩
  | swap x y l =>
    cases h with
    | cons k t h =>
      cases h with
      | cons k2 t2 h => exact ⟨k2 :: k :: _, .cons k2 t2 (.cons k t h), List.Perm.swap _ _ _⟩
  | trans p1 p2 ih1 ih2 =>
    obtain ⟨k2, h2, q2⟩ := ih2 h
    obtain ⟨k1, h1, q1⟩ := ih1 h2
    exact ⟨k1, h1, q1.trans q2⟩
theorem cr_sortT (hc : X.calm = true) : CallR X (.builtin "sorted") (rSortT X.w) := by
  intro pins s σ H vs us Q I r h
  obtain ⟨a, M, rfl, ha, h64, q⟩ := h
  rw [Vals.ref1 r]
  obtain ⟨o, es, ep, t, ho, ⟨hx, hd⟩, ⟨ge, pm, nd⟩, ⟨hb, hf, hr⟩, hl⟩ := (show TSet X.w s.heap a M from (I.hok a _ ha).1)
  refine Calls.call_function_entry kind_sorted plain_sorted entry_sorted (args_sorted1 _) ?_
  unfold Builtin.«sorted»
  refine wpAny_bind (m := checkCount "sorted" 1 1 _) (wpAny_pure ?_)
  refine wpAny_bind (collect_set (A := X.A.in1) (I.ok.hd hc) ⟨o, ho, hx.1, hd⟩ hf hb hr hl fun s1 out k1 hz g1 o1 po => ?_)
  obtain ⟨ks, hS, pk⟩ := strs_perm po (strs_txt ge)
  have hlen : out.length = M.length := by
    have e1 := po.length_eq
    have e2 := pm.length_eq
    rw [List.length_map] at e1 e2
    rw [e1, e2]
  refine wpAny_bind (wpAny_newList ?_ (by rw [hlen, sizeLine_eq]; omega))
  have oL : (s1.heap.push (seqObj "list" out.toArray 0)).get? s1.heap.objs.size = some (seqObj "list" out.toArray 0) := Heap.get?_push_size _ rfl
  refine wpAny_bind (wpAny_holding (wpAny_call_entry slot_list_sort ⟨_, oL, rfl⟩ entry_list_sort
    (list_sort_treeK strKind_oneLt oL hS.keysOf (fun v₁ v₂ rest e => keyKind_strs (by rw [← e]; exact hS)) (by rw [hlen]; exact h64) fun st' hp hs => ⟨_, rfl, ?_⟩) (args_list_sort _)))
  obtain ⟨ys, y1, y2, y3⟩ := sorted_out_str hS hp hs
  obtain ⟨c, hc'⟩ := sortedHeap_at (vs := out) (out := (arrOf st').map (·.2)) oL
  have pM : ys.Perm M := y2.trans (pk.trans pm)
  have hp0 : H s1.heap.objs.size = none := I.hok.fresh hz
  have kk : ∀ b u, s.heap.get? b = some u → (sortedHeap (s1.heap.push (seqObj "list" out.toArray 0)) s1.heap.objs.size out ((arrOf st').map (·.2))).get? b = some u := fun b u e => by
    have e1 := k1 b u e
    have lt := Heap.lt_size e1
    rw [sortedHeap_old (Nat.ne_of_lt lt) (by rw [size_push']; exact Nat.lt_succ_of_lt lt)]
    exact Heap.get?_push_of_some _ e1
  have hys : (ys.map V.str).length ≤ sizeLine := by
    rw [List.length_map, pM.length_eq, sizeLine_eq]
    omega
  refine wpAny_pure ⟨_, rfl, ?_⟩
  generalize hh' : sortedHeap (s1.heap.push (seqObj "list" out.toArray 0)) s1.heap.objs.size out ((arrOf st').map (·.2)) = h' at hc' kk ⊢
  have J : Inv X pins σ (upd H s1.heap.objs.size (.lst (ys.map V.str))) { s with heap := h', gens := s1.gens, drawn := s1.drawn, toks := s1.toks } :=
    I.call (ch := []) (Un.laid kk hz hp0) (I.hok.laid kk hz ⟨hys, ((arrOf st').map (·.2)).toList, c, vals_of_strs y1, by rw [Array.toArray_toList]; exact hc'⟩) (by rw [g1]; exact I.bare) (fun _ z => nomatch z)
  refine ⟨.ref s1.heap.objs.size, _, ?_, rfl, q ys _ pM y3 hp0⟩
  have e : ({ s1 with heap := h' } : Shared) = { s with heap := h', gens := s1.gens, drawn := s1.drawn, toks := s1.toks } := by
    obtain ⟨_, _, _, _, os1⟩ := s1
    obtain ⟨_, _, _, _, os0⟩ := s
    cases o1
    rfl
  rw [e]
  exact J
end
end Ls
end
section
set_option Elab.async false
set_option linter.all false
set_option maxRecDepth 100000
set_option maxHeartbeats 4000000
namespace Ls
open PySem PySem.Spec PyProof.Rows L2
/-! ### e.f, a property that several classes share -/
/-- the classes S have the property f; its getter keeps sp -/
structure Prp (P : Program) (w : World) (K : PySem.W.Frag) (mg : Str → Option Value) (base : Heap) (CX : CXT) (k : Nat) (S : Addr → Prop) (f : Str) (sp : Sp) : Prop where
  ex : ∃ (p g : Addr) (fd : FuncData), (∀ C, S C → Cls K C ∧ PropOf K C f p g) ∧ FnOk P w K mg base CX k g fd ["self"] sp ∧ Binds K fd ["self"] []
def tPrp (S : Addr → Prop) (sp : Sp) (E : XK) (ta : TE) : TE := fun σ H Q => ta σ H fun x H1 => ∃ a C dx fs, x = .ref a ∧ H1 a = some (.ins C dx fs) ∧ S C ∧ sp [.ref a] H1 Q E
section
variable {X : Cx} {CX : CXT} {k : Nat} {S : Addr → Prop} {f : Str} {sp : Sp} {E : XK} {e : PySem.Expr} {pos : Pos} {ta : TE}
theorem pe_prp (c : Prp X.prog X.w X.K X.mg X.base CX k S f sp) (hr : Room (k + 1) X.A) (hx : Passes CX X.nox E) (he : PE X e ta) (hab : attributeBase e f X.env (eval e X.env) = eval e X.env := by rfl) : PE X (.Attribute e f pos) (tPrp S sp E ta) := by
  obtain ⟨p, g, fd, hc, F, hb⟩ := c.ex
  refine ⟨fun pins s σ H Q I h => ?_⟩
  refine attr_of hab (thn (he.run pins s σ H _ I h) fun u s1 ⟨x, H1, I1, rx, a, C, dx, fs, ex, ea, hS, q⟩ => ?_)
  subst ex
  obtain rfl : u = Value.ref a := rx
  exact getprop_ok I1 ea (hc C hS).1 (hc C hS).2 F hr hb .nil hx q
end
/-! ### xs.pop(i) within a comprehension's block -/
section
variable {X : Cx} {K : PySem.W.Frag} {o e : PySem.Expr} {to : TE} {t : TA} {apos cpos : Pos}
theorem pe_popK (hK : X.K = K) (ho : PE X o to) (ha : PA X [e] t) (hbase : attributeBase o "pop" X.env (eval o X.env) = eval o X.env := by rfl)
    (hfew : ((backTo cpos (starEach [e] X.env)).all (fun x => !x.1) && (backToKw cpos (keywordEach [] X.env)).all (fun x => x.1.isSome) && decide (([e] : List PySem.Expr).length + ([] : List Keyword).length + (if ([] : List Keyword).isEmpty then 0 else 1) < 30)) = true := by rfl)
    (hline : (apos.endLine == cpos.line) = true := by rfl) (hs : starEach [e] X.env = (false, eval e X.env) :: starEach [] X.env := by rfl) (hplain : (backTo cpos (starEach [] X.env)).any (·.1) = false := by rfl) :
    PE X (.Call (.Attribute o "pop" apos) [e] [] cpos) (tBM K "list" rPopAt to t) := by
  subst hK
  exact pe_bm PySem.F.plainAttrs_list PySem.F.slot_list_pop PySem.F.type_list_pop mt_popAt ho ha hbase hfew hline hs hplain
end
end Ls
end
section
set_option Elab.async false
set_option linter.all false
set_option maxRecDepth 100000
set_option maxHeartbeats 4000000
namespace Ls
open PySem PySem.Spec PyProof.Rows L2 TL
/-! ### what repr can show: lists and tuples of several -/
theorem show_all : ∀ {ds : List PyData}, (∀ d ∈ ds, d.showable = true) → PyData.showableAll ds = true
  | [], _ => rfl
  | d :: r, h => by
    show (d.showable && PyData.showableAll r) = true
    rw [h d (by simp), show_all fun x hx => h x (List.mem_cons_of_mem _ hx)]
    rfl
theorem depth_all {k : Nat} : ∀ {ds : List PyData}, (∀ d ∈ ds, d.depth ≤ k) → PyData.depthAll ds ≤ k
  | [], _ => Nat.zero_le _
  | d :: r, h => by
    show max d.depth (PyData.depthAll r) ≤ k
    have h1 := h d (by simp)
    have h2 := depth_all (ds := r) fun x hx => h x (List.mem_cons_of_mem _ hx)
    omega
theorem shown_all {n : Nat} : ∀ {ds : List PyData}, (∀ d ∈ ds, d.shown.length ≤ n) → ((PyData.shownAll ds).map (·.length)).sum ≤ ds.length * n ∧ (PyData.shownAll ds).length = ds.length
  | [], _ => ⟨Nat.zero_le _, rfl⟩
  | d :: r, h => by
    obtain ⟨h1, h2⟩ := shown_all (ds := r) fun x hx => h x (List.mem_cons_of_mem _ hx)
    have h0 := h d (by simp)
    show ((d.shown :: PyData.shownAll r).map (·.length)).sum ≤ (r.length + 1) * n ∧ (PyData.shownAll r).length + 1 = r.length + 1
    rw [List.map_cons, List.sum_cons, Nat.add_mul, Nat.one_mul, h2]
    exact ⟨by omega, rfl⟩
theorem Shw.listN {n k : Nat} {ds : List PyData} (h : ∀ d ∈ ds, Shw n d) (hd : ∀ d ∈ ds, d.depth ≤ k) (hk : k < 20) : Shw (ds.length * n + 2 * ds.length + 3) (.list ds) := ⟨show_all fun d hx => (h d hx).sh, by
  have := depth_all hd
  show PyData.depthAll ds + 1 ≤ 20
  omega, by
  obtain ⟨h1, h2⟩ := shown_all fun d hx => (h d hx).ln
  have := listText_len_le (PyData.shownAll ds)
  show (listText (PyData.shownAll ds)).length ≤ _
  omega⟩
theorem Shw.tupN {n k : Nat} {ds : List PyData} (h : ∀ d ∈ ds, Shw n d) (hd : ∀ d ∈ ds, d.depth ≤ k) (hk : k < 20) : Shw (ds.length * n + 2 * ds.length + 3) (.tuple ds) := ⟨show_all fun d hx => (h d hx).sh, by
  have := depth_all hd
  show PyData.depthAll ds + 1 ≤ 20
  omega, by
  obtain ⟨h1, h2⟩ := shown_all fun d hx => (h d hx).ln
  have := tupleText_len_le (PyData.shownAll ds)
  show (tupleText (PyData.shownAll ds)).length ≤ _
  omega⟩
theorem depth_tup {k : Nat} {ds : List PyData} (h : ∀ d ∈ ds, d.depth ≤ k) : (PyData.tuple ds).depth ≤ k + 1 := by
  have := depth_all h
  show PyData.depthAll ds + 1 ≤ k + 1
  omega
theorem depth_lst {k : Nat} {ds : List PyData} (h : ∀ d ∈ ds, d.depth ≤ k) : (PyData.list ds).depth ≤ k + 1 := by
  have := depth_all h
  show PyData.depthAll ds + 1 ≤ k + 1
  omega
theorem tvs_strs {H : Hp} : ∀ us : List Str, TVs H (us.map V.str) (us.map .str)
  | [] => .nil
  | u :: r => .cons (.str u) (tvs_strs r)
end Ls
end
section
set_option Elab.async false
set_option linter.all false
set_option maxRecDepth 100000
set_option maxHeartbeats 4000000
namespace Ls
open PySem PySem.Spec PyProof.Rows L2 TL
/-! ### tuples of texts, compared -/
theorem dp_strs {K : PySem.W.Frag} {H : Hp} : ∀ us : List Str, DpAll K H (us.map V.str) (us.map .str)
  | [] => .nil
  | u :: r => .cons (.str u) (dp_strs r)
theorem lay_strs : ∀ us : List Str, (∀ z ∈ us, PyData.strOk z = true) → PyData.canLayAll0 (us.map .str) = true
  | [], _ => rfl
  | u :: r, h => by
    show (PyData.strOk u && PyData.canLayAll0 (r.map .str)) = true
    rw [h u (by simp), lay_strs r fun z hz => h z (by simp [hz])]
    rfl
theorem shaped_strs (us : List Str) (ho : ∀ z ∈ us, PyData.strOk z = true) : SeqAt.shaped (.tuple (us.map .str)) = true := by
  have h : (PyData.tuple (us.map .str)).depth ≤ 1 := depth_tup fun d hd => by
    obtain ⟨z, _, rfl⟩ := List.mem_map.mp hd
    exact Nat.le_refl _
  show (PyData.canLay0 (.tuple (us.map .str)) && decide ((PyData.tuple (us.map .str)).depth ≤ 64)) = true
  rw [decide_eq_true (Nat.le_trans h (by decide)), Bool.and_true]
  exact lay_strs us ho
theorem eqv_strs (us : List Str) (ho : ∀ z ∈ us, PyData.strOk z = true) : PyData.eqv (.tuple (us.map .str)) (.tuple (us.map .str)) = true := SeqAt.eqv_refl _ (lay_strs us ho)
end Ls
end
section
set_option Elab.async false
set_option linter.all false
set_option maxRecDepth 100000
set_option maxHeartbeats 4000000
namespace Ls
open PySem PySem.Spec PyProof.Rows L2 TL
/-! ### numbers and dicts that repr can show -/
theorem Shw.int10 {a : Int} {k : Nat} (hk : 0 < k) (h : a.natAbs < 10 ^ k) (h2 : k ≤ 450) : Shw (k + 1) (.int a) := ⟨by
  show decide (a.natAbs.log2 < 1920) = true
  refine decide_eq_true ?_
  by_cases e : a.natAbs = 0
  · rw [e]
    decide
  · rw [Nat.log2_lt e]
    refine Nat.lt_trans h (Nat.lt_of_le_of_lt (Nat.pow_le_pow_right (by decide) h2) ?_)
    decide +kernel, Nat.zero_le _, by
  show (Str.ofString (toString a)).length ≤ _
  rw [PySem.ofString_length]
  exact int_text_length_le10 hk h⟩
theorem Shw.dict1 {n m : Nat} {a b : PyData} (ha : Shw n a) (hb : Shw m b) (hd : a.depth < 20) (hd2 : b.depth < 20) : Shw (n + m + 7) (.dict [(a, b)]) := ⟨by
  show (a.showable && b.showable && true) = true
  rw [ha.sh, hb.sh]
  rfl, by
  show max (max a.depth b.depth) 0 + 1 ≤ 20
  omega, by
  have := dictText_len_le [a.shown ++ (": " : Str) ++ b.shown]
  have := ha.ln
  have := hb.ln
  show (dictText [a.shown ++ (": " : Str) ++ b.shown]).length ≤ _
  have e2 : (": " : Str).length = 2 := by decide +kernel
  simp [Str.length_append, e2] at *
  omega⟩
end Ls
end
section
set_option Elab.async false
set_option linter.all false
set_option maxRecDepth 100000
set_option maxHeartbeats 4000000
namespace Ls
open PySem PySem.Spec PyProof.Rows L2
/-! ### C(a = v), no positional argument -/
/-- the class under the module's name x, made by one argument given by its name -/
structure MkcK (P : Program) (w : World) (K : PySem.W.Frag) (mg : Str → Option Value) (base : Heap) (CX : CXT) (k : Nat) (C : Addr) (x a : Str) (sp : Sp) : Prop where
  ex : ∃ f fd, mg x = some (.ref C) ∧ Mk K C f ∧ FnOk P w K mg base CX k f fd ["self", a] sp ∧ KBn K fd ["self", a] 1 [a] (fun us ws => us ++ ws) (fun vs zs => vs ++ zs)
section
variable {X : Cx} {CX : CXT} {k : Nat} {C : Addr} {sp : Sp} {E : XK} {x a : Str} {p pos : Pos} {kws : List Keyword} {tk : TA}
theorem pe_makeK0 (c : MkcK X.prog X.w X.K X.mg X.base CX k C x a sp) (hr : Room (k + 1) X.A) (hg : Gl X x) (hx : Passes CX X E) (hkw : PK X kws tk)
    (hall : (backToKw pos (keywordEach kws X.env)).all (·.1.isSome) = true := by rfl) (hks : (backToKw pos (keywordEach kws X.env)).filterMap (·.1) = [a] := by rfl)
    (hdb : (x == ("__debug__" : Str)) = false := by decide)
    (hpl : ((backTo pos (starEach [] X.env)).any (·.1) || (backToKw pos (keywordEach kws X.env)).any (·.1.isNone)) = false := by rfl) :
    PE X (.Call (.Name x p) [] kws pos) (tMakeN C 0 1 sp (fun vs zs => vs ++ zs) E tNil tk) := by
  obtain ⟨f, fd, hm, M, F, hb⟩ := c.ex
  refine ⟨fun pins s σ H Q I h => ?_⟩
  refine wpAny_Call_Name_kw (ld_glob I hg hm ?_ hdb)
  refine PySem.W.callWith_KW0 (h₀ := X.base) I.ok.mod.kin M.kp hall ?_ hpl
  refine thn (hkw.run pos pins s σ H _ I h) fun ws s2 ⟨zs, H2, I2, rz, l1, l2, q2⟩ => ⟨I2.kIn, ?_⟩
  rw [hks]
  exact run_makeN (us := []) (vs := []) M F hr hb hx I2 .nil rz l1 l2 q2
end
theorem kbn_self {K : PySem.W.Frag} {x qual : Str} {st : Stmt} {f : Addr} {fd : FuncData} {a : Str} (F : Fun K x qual st f fd)
    (h : ∀ (kV doc pm : Value) (an : Option Addr) (cdv ct u v : Value), bindArgs (PySem.W.fnOf x qual (defArgs st) (defBody st) (defScope st) .none kV doc pm an cdv ct) ⟨[u], [(a, v)]⟩ = pure [(("self" : Str), u), (a, v)]) :
    KBn K fd ["self", a] 1 [a] (fun us ws => us ++ ws) (fun vs zs => vs ++ zs) := by
  obtain ⟨oc, od, kV, doc, pm, an, cdv, ct, osl, rfl, lk, hcd⟩ := F.ex
  refine ⟨fun s us ws _ l1 l2 => ?_, fun r1 r2 => r1.append r2⟩
  match us, ws, l1, l2 with
  | [v], [u], _, _ => exact .of_eq (h kV doc pm an cdv ct v u)
/-! ### xs[::-1] within a comprehension's block -/
theorem pe_revLK {X : Cx} {K : PySem.W.Frag} {e : Expr} {te : TE} {k : Nat} {p1 p2 p3 pos : Pos} (hK : X.K = K) (he : PE X e te) : PE X (.Subscript e (.Slice none none (some (.UnaryOp .USub (.Constant (.int 1) k p1) p2)) p3) pos) (tRevL K te) := by
  subst hK
  exact pe_revL he
/-! ### lists of texts, compared -/
theorem eqvAll_strs : ∀ us vs : List Str, PyData.eqvAll (us.map .str) (vs.map .str) = decide (us = vs)
  | [], [] => rfl
  | [], _ :: _ => rfl
  | _ :: _, [] => rfl
  | u :: us, v :: vs => by
    show ((u == v) && PyData.eqvAll (us.map .str) (vs.map .str)) = _
    rw [eqvAll_strs us vs]
    by_cases h : u = v
    · subst h
      simp
    · rw [show (u == v) = false from beq_eq_false_iff_ne.mpr h, Bool.false_and]
      exact (decide_eq_false fun e => h (List.cons.inj e).1).symm
end Ls
end
section
set_option Elab.async false
set_option linter.all false
set_option maxRecDepth 100000
set_option maxHeartbeats 4000000
namespace PySem
open Sem (wp)
set_option maxHeartbeats 1000000 in
theorem ls_meets_enumerate_new1 {v : Value} {o : Obj} {H : Heap → Prop} (B : Begins v o H) :
    Meets (Builtin.«enumerate.__new__» ⟨[.type "enumerate", v], []⟩) (fun _ R s => H s.heap ∧
      R (.ok (.ret (.ref (s.heap.push o).objs.size))) { s with heap := (s.heap.push o).push { cls := .type "enumerate", data := .fields #[.none, .bool false, .ref s.heap.objs.size, rawInt 0, .none, .none] } }) :=
  .of_wp fun prog w A R s h => by
    obtain ⟨hp, g, d, tks, os⟩ := s; obtain ⟨h1, h⟩ := h
    have hsub := sub_enumerate
    have one : ∀ {A' : Around} {E : Value → Shared → Prop} {Q : Value → Shared → Prop}, Q (.ref hp.objs.size) ⟨hp.push o, g, d, tks, os⟩ → wpAny (model prog w) A' (pyIter v) Q E ⟨hp, g, d, tks, os⟩ :=
      fun q => B.iter prog w _ _ ⟨hp, g, d, tks, os⟩ _ h1 q
    wp_walk using one
    refine wpAny_stack_any fun pos_ => wpAny_pure ?_
    split
    · rename_i c _ _ _ _ _
      cases (c == Value.type "enumerate")
      · wp_walk using one
        exact ⟨_, rfl, h⟩
      · wp_walk using one
        exact ⟨_, rfl, h⟩
    · wp_walk using one
      exact ⟨_, rfl, h⟩
section
variable {prog : Program} {w : World} {A : Around} {E : Value → Shared → Prop} {s : Shared}
theorem ls_enum_begins {v : Value} {o : Obj} {H : Heap → Prop} {Q : Value → Shared → Prop} (B : Begins v o H) (h1 : H s.heap)
    (h : ∀ h', IsEnum h' (s.heap.objs.size + 1) s.heap.objs.size 0 .none → h'.get? s.heap.objs.size = some o → h'.objs.size = s.heap.objs.size + 2 →
      (∀ b o, s.heap.get? b = some o → h'.get? b = some o) → Q (.ref (s.heap.objs.size + 1)) { s with heap := h' }) :
    wpAny (model prog w) A (call (.type "enumerate") [v]) Q E s := by
  refine callType_new F.called_enumerate (by decide) (F.typeCall_enumerate_1 _) (F.newCall_enumerate_1 _) (fun obj => F.args_object_init_2 obj _) F.entry_enumerate_new
    (ls_meets_enumerate_new1 B) ⟨h1, ?_⟩
  have szs : (s.heap.push o).objs.size = s.heap.objs.size + 1 := Heap.size_push ..
  show _ ∧ _
  rw [szs]
  have hen : IsEnum ((s.heap.push o).push { cls := .type "enumerate", data := .fields #[.none, .bool false, .ref s.heap.objs.size, rawInt 0, .none, .none] }) (s.heap.objs.size + 1) s.heap.objs.size 0 .none := by
    have := Heap.get?_push_size (s.heap.push o) (o := { cls := .type "enumerate", data := .fields #[.none, .bool false, .ref s.heap.objs.size, rawInt 0, .none, .none] }) rfl
    rw [szs] at this; exact this
  refine ⟨⟨_, hen, rfl⟩, h _ hen (Heap.get?_push_of_some _ (Heap.get?_push_size _ B.free)) (by rw [Heap.size_push, szs]) fun b o x => Heap.get?_push_of_some _ (Heap.get?_push_of_some _ x)⟩
end
end PySem
namespace Ls
open PySem PySem.Spec PyProof.Rows L2
/-! ### enumerate(t), t a tuple -/
def IteT (K : PySem.W.Frag) (a : Addr) : It :=
  ⟨fun i H => ∃ (xs : List V) (x : V), SqT K H a xs ∧ xs[i]? = some x, fun i H v H' => ∃ T x, v = .ref T ∧ H T = none ∧ H' = upd H T (.tup [.int (i : Nat), x]) ∧ ∀ xs, SqT K H a xs → xs[i]? = some x, fun i H => ∃ xs : List V, SqT K H a xs ∧ xs.length ≤ i⟩
theorem turn_enumT {P : Program} {w : World} {K : PySem.W.Frag} {elts : List Expr} {kk : Nat} {tpos : Pos} (a e it : Addr) :
    Turn P w K (.Tuple elts kk tpos) (IteT K a) [e, it] e (fun i h => (∃ prev, IsEnum h e it ((i : Nat) : Int) prev) ∧ h.IsTupleIter it a i ∧ e ≠ it) where
  mem := by simp
  obj := fun i h pos_ b hb => by
    obtain ⟨⟨prev, hen⟩, ⟨o, ho, hc, hd⟩, _⟩ := pos_
    have e' : b = e ∨ b = it := by simpa using hb
    rcases e' with z | z
    · rw [z]; exact ⟨_, hen, fun v q => nomatch q⟩
    · rw [z]; exact ⟨o, ho, fun v q => by rw [hd] at q; cases q⟩
  keep := fun i h h' pos_ k => let ⟨⟨prev, hen⟩, hi, hdf⟩ := pos_; ⟨⟨prev, k e (by simp) _ hen⟩, hi.at fun o q => k it (by simp) o q, hdf⟩
  item := by
    intro X hP hw hK hc i pins s σ H E I hfree pos_ hgo
    subst hP hw hK
    obtain ⟨⟨prev, hen⟩, hti, hdf⟩ := pos_
    obtain ⟨xs, x, hsq, hxi⟩ := hgo
    obtain ⟨vals, rvs, p, szs⟩ := I.tuple hsq
    obtain ⟨u, hu, rel⟩ := rvs.get hxi
    have ltE : e < s.heap.objs.size := Heap.lt_size hen
    have ltI : it < s.heap.objs.size := by obtain ⟨_, q, _⟩ := hti; exact Heap.lt_size q
    have pT : s.heap.IsTuple a vals.toArray := p
    have nai : a ≠ it := fun z => by
      obtain ⟨o1, one, q2, _⟩ := pT
      obtain ⟨o2, q3, q4, _⟩ := hti
      rw [z, q3] at one
      cases one
      rw [q4] at q2
      exact absurd (Value.type.inj q2) (by decide)
    have nea : e ≠ a := fun z => by
      obtain ⟨o1, one, q2, _⟩ := pT
      have he' : s.heap.get? e = _ := hen
      rw [z, one] at he'
      cases he'
      exact absurd (Value.type.inj q2) (by decide)
    have hi : i < vals.toArray.size := by
      rw [List.size_toArray]
      exact (List.getElem?_eq_some_iff.mp hu).1
    refine wpAny_pyNext_enum_itemC (fp := [it, a]) (Draws.tuple (A := X.A.in1) (show X.A.in1.handled = none from I.ok.hd hc) it a nai vals.toArray) hen ⟨hti, pT⟩ hi hdf (by simp [hdf, nea]) fun y h' tks hP ho hit' hT hgrow hkeep => ?_
    have hy : y = u := by
      have hu' : vals.toArray[i]? = some u := by simpa using hu
      rw [hu'] at hP
      exact (Option.some.inj hP).symm
    subst hy
    refine ⟨_, rfl, wpAny_letOwnedTupleGo_enum (s := { s with heap := h', toks := tks + 1 }) ho fun h'' he' same => ?_⟩
    have atT : h''.get? s.heap.objs.size = some { cls := .type "tuple", data := .seq #[.int i tks, y] } := (same.2 _ (Nat.ne_of_gt ltE)).trans hT
    have fresh : ObjOk X.prog X.w (upd H s.heap.objs.size (.tup [.int (i : Nat), x])) h'' s.heap.objs.size (.tup [.int (i : Nat), x]) :=
      ⟨by show 2 ≤ sizeLine; decide, [.int i tks, y], .cons ⟨_, rfl⟩ (.cons rel .nil), ⟨_, atT, rfl, _, rfl⟩⟩
    have I1 : Inv X pins σ (upd H s.heap.objs.size (.tup [.int (i : Nat), x])) { s with heap := h'', toks := tks + 1 } :=
      I.turnedNew (ch := [e, it]) (fun b ob hb q => (same.2 b (fun z => hb (by simp [z]))).trans (hkeep b ob (fun z => hb (by simp [z])) (fun z => hb (by simp [z])) q)) hfree (Nat.le_refl _) fresh
    refine ⟨.ref s.heap.objs.size, _, I1, rfl, ⟨_, x, rfl, I.hok.fresh (Nat.le_refl _), rfl, fun ys hy => by rw [I.tuple_inj hy hsq]; exact hxi⟩, ⟨⟨y, ?_⟩, hit'.1.at fun o q => (same.2 it (Ne.symm hdf)).trans q, hdf⟩, fun b hb => ?_⟩
    · have e1 : ((i + 1 : Nat) : Int) = (i : Int) + 1 := by omega
      rw [e1]; exact he'
    · have hb' : b < s.heap.objs.size := by
        have e' : b = e ∨ b = it := by simpa using hb
        rcases e' with z | z
        · rw [z]; exact ltE
        · rw [z]; exact ltI
      rw [upd_ne (Nat.ne_of_lt hb')]
      exact (hfree b hb).1
  done := by
    intro X hP hw hK hc i pins s σ H E I hfree pos_ hgo
    subst hP hw hK
    obtain ⟨⟨prev, hen⟩, hti, hdf⟩ := pos_
    obtain ⟨xs, hsq, hxi⟩ := hgo
    obtain ⟨vals, rvs, p, szs⟩ := I.tuple hsq
    obtain ⟨f0, f1, f2, f3, f4, f5⟩ := hfree it (by simp)
    have hl := rvs.length
    have pT : s.heap.IsTuple a vals.toArray := p
    have done : ∀ (n : Nat), vals.toArray.size ≤ n → s.heap.IsTupleIter it a n → wpAny (model X.prog X.w) X.A (pyNext (.ref e)) (fun r s' => r = none ∧ Inv X pins σ H s') E s := fun n hn hi => by
      have hT : s.TypeIs (.ref e) "enumerate" := ⟨_, hen, rfl⟩
      unfold pyNext
      refine wpAny_bind (wpAny_attempt (wpAny_callSpecial?_slot (name := Str.ofString "__next__") hT F.slot_enumerate_next
        (wpAny_call_entry F.slot_enumerate_next hT F.entry_enumerate_next ?_ (F.args_enumerate_next_1 _))))
      show wpAny _ _ (field (.ref e) 2 >>= _) _ _ _
      refine wpAny_bind (wpAny_field hen rfl (x := .ref it) rfl ?_)
      refine wpAny_bind (wpAny_nextOf_tuple_end (I.ok.hd hc) hi pT (Array.getElem?_eq_none hn) fun h' x he' hx' => ?_)
      obtain ⟨o, ho, hcs⟩ := hx'
      refine wpAny_bind (wpAny_isInstance (T := "StopIteration") (b := true) ⟨o, ho, hcs⟩ isSubtype_stop ?_)
      exact wpAny_pure ⟨rfl, I.turned (t' := s.toks) (fun b o hb q => he' b o hb q) f0 f1 f3 f4 f5⟩
    exact done i (by simp; omega) hti
  self := fun A i s Q E pos_ h => let ⟨⟨_, hen⟩, _⟩ := pos_; wpAny_pyIter_enum hen h
def iEnumT (K : PySem.W.Frag) (ta : TA) : TI := fun σ H R => ta σ H fun vs H1 => ∃ a xs, vs = [.ref a] ∧ SqT K H1 a xs ∧ R (IteT K a) H1
theorem pi_enumT {X : Cx} {e : Expr} {ta : TA} {p pos tpos : Pos} {elts : List Expr} {kk : Nat} (hgo : Gl X "enumerate") (hm : X.mg "enumerate" = none) (ha : PA X [e] ta) (hs : starEach [e] X.env = [(false, eval e X.env)] := by rfl) :
    PI X (.Tuple elts kk tpos) (.Call (.Name "enumerate" p) [e] [] pos) (iEnumT X.K ta) := by
  refine ⟨fun pins s σ H R I h => ?_⟩
  refine Call_ (ld_blt I hgo hm boot_enumerate (PyProof.Rows.callWith_type1 (thn (ha.run pos pins s σ H _ I h) fun us s1 ⟨vs, H1, I1, r1, one⟩ => ?_) hs rfl))
  obtain ⟨a, xs, ex, hsq, q⟩ := one
  subst ex
  cases r1 with
  | cons r rr =>
    cases rr
    cases r
    obtain ⟨vals, rvs, p', szs⟩ := I1.tuple hsq
    refine ls_enum_begins (begins_tuple a vals.toArray) p' fun h' hen hti hgrow hkeep => wpAny_pyIter_enum hen ?_
    have I2 : Inv X pins σ H1 { s1 with heap := h' } := I1.kept (t' := s1.toks) hkeep
    refine ⟨s1.heap.objs.size + 1, [s1.heap.objs.size + 1, s1.heap.objs.size], _, _, H1, rfl, I2, turn_enumT a (s1.heap.objs.size + 1) s1.heap.objs.size, ⟨⟨.none, hen⟩, ⟨_, hti, rfl, rfl⟩, Nat.succ_ne_self _⟩, fun b hb => ?_, q⟩
    have e' : b = s1.heap.objs.size + 1 ∨ b = s1.heap.objs.size := by simpa using hb
    have above : s1.heap.objs.size ≤ b := by
      rcases e' with z | z
      · rw [z]; exact Nat.le_add_right _ _
      · rw [z]; exact Nat.le_refl _
    exact I1.fpOk above (I1.hok.fresh above)
theorem walk_enumT {K : PySem.W.Frag} {a : Addr} {xs : List V} : Walk (IteT K a) xs.length (fun H => SqT K H a xs) (YPair (fun i => some (.int (i : Nat))) (fun i => xs[i]?)) := by
  refine ⟨fun i _ hi q => ⟨xs, xs[i], q, by simp [hi]⟩, fun _ q => ⟨xs, q, Nat.le_refl _⟩, fun i H v H' _ q y => ?_⟩
  obtain ⟨T, x, h1, h2, h3, h4⟩ := y
  exact ⟨T, .int (i : Nat), x, h1, h2, h3, rfl, h4 xs q⟩
end Ls
end
section
set_option Elab.async false
set_option linter.all false
set_option maxRecDepth 100000
set_option maxHeartbeats 4000000
namespace Ls
open PySem PySem.Spec PyProof.Rows L2 LamX
/-! ### a lambda as a value that is kept -/
abbrev lamObj (X : Cx) (ar : Arguments) (b : PySem.Expr) (sc : Scope) (pm : Value) (c' : Addr) (ctv : Value) : Obj :=
  PySem.W.kla_obj "<lambda>" (X.env.qual ++ "<lambda>") ar b sc (cloFrom X.env.cells sc.names []) pm c' ctv
/-- at f stands the lambda, its code object at c' -/
def LamO (X : Cx) (f c' : Addr) (ar : Arguments) (b : PySem.Expr) (sc : Scope) : HO := .ext fun h => ∃ pm ctv, h.get? f = some (lamObj X ar b sc pm c' ctv)
theorem lamO_ne {X : Cx} {f c' : Addr} {ar : Arguments} {b : PySem.Expr} {sc : Scope} (ps : Array Value) : LamO X f c' ar b sc ≠ .tbl ps := fun z => by
  unfold LamO at z
  cases z
section
variable {X : Cx} {pins : List (Addr × Obj)} {σ : L2.St} {H : Hp} {s : Shared}
/-- the newest object of the heap, a lambda, is tracked -/
theorem lam_tracked {h0 : Heap} {tk : Nat} {c' : Addr} {ar : Arguments} {b : PySem.Expr} {sc : Scope} {pm ctv : Value} {H1 : Hp} (I : Inv X pins σ H s) (le : s.heap.objs.size ≤ h0.objs.size)
    (J : Inv X pins σ H1 { s with heap := h0.push (lamObj X ar b sc pm c' ctv), toks := tk }) (hn : H1 h0.objs.size = none) :
    Inv X pins σ (upd H1 h0.objs.size (LamO X h0.objs.size c' ar b sc)) { s with heap := h0.push (lamObj X ar b sc pm c' ctv), toks := tk } := by
  have old : ∀ {g : Heap} {o : Obj}, g.get? h0.objs.size = some o → g.objs.size ≤ h0.objs.size → False := fun e z => Nat.lt_irrefl _ (Nat.lt_of_lt_of_le (Heap.lt_size e) z)
  have here : (h0.push (lamObj X ar b sc pm c' ctv)).get? h0.objs.size = some (lamObj X ar b sc pm c' ctv) := Heap.get?_push_size _ rfl
  refine inv_track J hn ?_ (Nat.ne_of_gt (Nat.lt_of_lt_of_le I.lt le)) (fun x c e z => ?_) (fun p hp z => ?_) ⟨⟨pm, ctv, here⟩, ⟨_, here⟩, fun h1 h2 ⟨a, b, e⟩ st => ⟨a, b, st _ e⟩⟩
  · cases q : X.s_0.heap.get? h0.objs.size with
    | none => rfl
    | some o => exact (old q (Nat.le_trans I.sz le)).elim
  · obtain ⟨v, o, ho, _⟩ := I.cell x c e
    rw [z] at ho
    exact old ho le
  · obtain ⟨q, _⟩ := I.pin p hp
    rw [z] at q
    exact old q le
theorem pe_lamV {T : List (Addr × Str)} {c P : Addr} {ar : Arguments} {b : PySem.Expr} {sc : Scope} {pos : Pos} (TB : TabB X.base X.mg c P) (hcode : X.env.code = .ref c) (hm : (P, X.env.qual ++ "<lambda>") ∈ T)
    (hu : ∀ p ∈ T, p.1 = P → p.2 = X.env.qual ++ "<lambda>") (hdef : defaultsOf ar X.env = ([], [])) (L : LamS X.env.scope sc) :
    PE X (.Lambda ar b sc pos) (fun σ H Q => Tabs T H ∧ ∀ (f c' : Addr) (H' : Hp), ExtN H H' → Tabs T H' → H f = none → H' f = some (LamO X f c' ar b sc) → H' c' = some (CodeO c' (X.env.qual ++ "<lambda>")) → Q (.ref f) H') := by
  refine ⟨fun pins s σ H Q I ⟨hT, h⟩ => ?_⟩
  have free := L.has I.ok
  have bP : s.heap.BuiltinsAt X.mg P := TB.bm.keeps I.bk
  obtain ⟨ps, hP, ht, ha⟩ := hT _ hm
  have oP : s.heap.get? P = some { cls := .none, data := .fields ps } := I.hok P _ hP
  refine PySem.W.kla_eval hdef ?_
  cases found : codeAmong pos ps.toList with
  | some cv =>
    obtain ⟨c', rfl, hco⟩ := ha pos cv found
    refine PySem.W.kla_makeFunctionHit (mg := X.mg) (c := c) (P := P) (ps := ps) (closure_ok free) I.ok.glob (I.mod.glob.keeps I.bk) hcode (TB.code.keeps I.bk) oP ht found bP fun ctv h' tk keep le => ?_
    have n : H h'.objs.size = none := I.hok.fresh le
    have J : Inv X pins σ H { s with heap := h'.push (lamObj X ar b sc ((X.mg "__name__").getD .none) c' ctv), toks := tk } := I.kept fun b o e => Heap.get?_push_of_some _ (keep b o e)
    have e0 : ∀ d o, H d = some o → upd H h'.objs.size (LamO X h'.objs.size c' ar b sc) d = some o := fun d o e => by
      rw [upd_ne (ne_of_none e n)]
      exact e
    exact ⟨.ref h'.objs.size, _, lam_tracked I le J n, rfl, h _ c' _ (ExtN.of e0) (hT.ext e0) n upd_same (e0 _ _ hco)⟩
  | none =>
    refine PySem.W.kla_makeFunction (mg := X.mg) (c := c) (P := P) (ps := ps) (closure_ok free) I.ok.glob (I.mod.glob.keeps I.bk) hcode (TB.code.keeps I.bk) oP ht found TB.gP bP fun c' ctv h' tk keep ge lt rec tab => ?_
    obtain ⟨_, oc, vs, t, e2, hoc, hd, hv⟩ := rec
    cases e2
    have le : s.heap.objs.size ≤ h'.objs.size := Nat.le_trans ge (Nat.le_of_lt lt)
    have nc : H c' = none := I.hok.fresh ge
    have n : H h'.objs.size = none := I.hok.fresh le
    have nf : h'.objs.size ≠ c' := Nat.ne_of_gt lt
    have nP : h'.objs.size ≠ P := Nat.ne_of_gt (Nat.lt_of_lt_of_le (Heap.lt_size oP) le)
    have cP : P ≠ c' := ne_of_none hP nc
    have J := inv_table (t' := tk) (q := X.env.qual ++ "<lambda>") (more := #[rawInt pos.line, rawInt pos.col, .ref c']) (h' := h'.push (lamObj X ar b sc ((X.mg "__name__").getD .none) c' ctv)) I hP
      (fun b o hb e => Heap.get?_push_of_some _ (keep b o hb e)) (Heap.get?_push_of_some _ tab) ge ⟨oc, vs, t, Heap.get?_push_of_some _ hoc, hd, hv⟩
    have n1 : upd (upd H P (.tbl (ps ++ #[rawInt pos.line, rawInt pos.col, .ref c']))) c' (CodeO c' (X.env.qual ++ "<lambda>")) h'.objs.size = none := by rw [upd_ne nf, upd_ne nP, n]
    have J2 := lam_tracked I le J n1
    generalize hH2 : upd (upd (upd H P (.tbl (ps ++ #[rawInt pos.line, rawInt pos.col, .ref c']))) c' (CodeO c' (X.env.qual ++ "<lambda>"))) h'.objs.size (LamO X h'.objs.size c' ar b sc) = H2 at J2
    have atP : H2 P = some (.tbl (ps ++ #[rawInt pos.line, rawInt pos.col, .ref c'])) := by rw [← hH2, upd_ne (Ne.symm nP), upd_ne cP, upd_same]
    have atc : H2 c' = some (CodeO c' (X.env.qual ++ "<lambda>")) := by rw [← hH2, upd_ne (Ne.symm nf), upd_same]
    have off : ∀ d, d ≠ h'.objs.size → d ≠ c' → d ≠ P → H2 d = H d := fun d a b c => by rw [← hH2, upd_ne a, upd_ne b, upd_ne c]
    have grow : ExtN H H2 := fun d o e nt => by
      rw [off d (ne_of_none e n) (ne_of_none e nc) (fun z => ?_)]
      · exact e
      · rw [z, hP] at e
        exact nt ps (Option.some.inj e).symm
    have tabs : Tabs T H2 := fun p hp => by
      by_cases hb : p.1 = P
      · rw [hu p hp hb, hb]
        have eL : (ps ++ #[rawInt pos.line, rawInt pos.col, .ref c']).toList = ps.toList ++ [rawInt pos.line, rawInt pos.col, .ref c'] := by simp
        refine ⟨_, atP, by rw [eL]; exact PySem.TriplesOk_snoc _ _ _ _ ht, fun p' cv q => ?_⟩
        rw [eL] at q
        rcases among_app _ ht q with z | z
        · obtain ⟨d, e1, e2⟩ := ha p' cv z
          exact ⟨d, e1, grow _ _ e2 codeO_ne⟩
        · exact ⟨c', z, atc⟩
      · obtain ⟨qs, a1, a2, a3⟩ := hT p hp
        refine ⟨qs, (off _ (ne_of_none a1 n) (ne_of_none a1 nc) hb).trans a1, a2, fun p' cv q => ?_⟩
        obtain ⟨d, e1, e2⟩ := a3 p' cv q
        exact ⟨d, e1, grow _ _ e2 codeO_ne⟩
    exact ⟨.ref h'.objs.size, _, J2, rfl, h _ c' H2 grow tabs n (by rw [← hH2]; exact upd_same) atc⟩
/-- v(): a kept lambda under a local name, in the def that made it -/
theorem pe_callV {ar : Arguments} {b : PySem.Expr} {sc : Scope} {k i : Nat} {a : Str} {E : XK} {tb : TE} {p1 p2 : Pos} (L : LamS X.env.scope sc)
    (hbind : ∀ (q : Str) (cl : List (Str × Addr)) (pm cv ctv : Value), bindArgs (PySem.W.kla_fn "<lambda>" q ar b sc cl pm cv ctv) ⟨[], []⟩ = pure [])
    (hx : Passes (L2.CX X.prog X.w) X E) (hr : Room (k + 1) X.A)
    (hbody : ∀ (A : Around) (outer : List Env) (s : Shared) (H : Hp) (f c' : Addr), Room k (A.deeper (lamEnv X sc s.heap.objs.size f c')) → PE (lamCx X A outer s H E sc f c') b tb)
    (hN : X.N[i]? = some a) (hv : Vis X.env.scope a) (hd : (a == ("__debug__" : Str)) = false := by decide) (hcd : (a == ("__classdict__" : Str)) = false := by decide) :
    PE X (.Call (.Name a p1) [] [] p2) (fun σ H Q => ∃ f c', σ[i]? = some (some (.ref f)) ∧ H f = some (LamO X f c' ar b sc) ∧ H c' = some (CodeO c' (X.env.qual ++ "<lambda>")) ∧ tb σ H Q) := by
  refine ⟨fun pins s σ H Q I ⟨f, c', hs, hf, hc, ht⟩ => ?_⟩
  refine wpAny_Call_Name_kw (thn ((pe_var (pos := p1) (i := i) hN hv hd hcd).run pins s σ H (fun v H1 => v = .ref f ∧ H1 = H) I ⟨.ref f, hs, rfl, rfl⟩) fun u s1 ⟨v, H1, I1, r1, ev, eH⟩ => ?_)
  subst ev eH
  obtain rfl : u = Value.ref f := r1
  obtain ⟨⟨pm, ctv, of1⟩, _, _⟩ := I1.hok f _ hf
  obtain ⟨⟨oc, vs, t, hoc, hdc, hvc⟩, _, _⟩ := I1.hok c' _ hc
  refine PySem.W.callWith_F0 ⟨_, _, _, _, of1⟩ ?_
  have rc : codeAny (model X.prog X.w) X.A (.call (.ref f) ⟨[], []⟩) (CR (L2.CX X.prog X.w) X.stack X.prog X.w H1 s1 Q E) s1 := by
    refine PySem.W.kla_callFunE hr.depth of1 rfl L.co L.gen rfl ⟨c', oc, vs, t, rfl, hoc, hdc, hvc⟩ ?_
    rw [hbind]
    refine wpAny_pure (wpAny_newFunctionEnv (fun y hy => (L.own y hy).2) (fun y hy => absurd hy (by simp)) (fun h₁ hns hsb => ⟨I1.nolimit.fresh _ hsb, ?_⟩) L.kind)
    show codeAny _ _ (.expr b (lamEnv X sc s1.heap.objs.size f c')) _ _
    have J := lam_start2 (E := E) (f := f) (c' := c') (tk := s1.toks + ([] : List (Str × Value)).length) I1 L I1.env0 hr.hd (Un.kept fun b o e => e) hns fun b o e => hsb.extBut b o (Nat.ne_of_lt (Heap.lt_size e)) (Heap.get?_push_of_some _ e)
    refine PySem.W.kla_codeExpr (wpAny_mono ((hbody _ _ s1 H1 _ _ (hr.deeper _)).run [] _ _ H1 Q J ht) (fun v s' hq => ?_) fun e s' hq => hq)
    obtain ⟨w', H', J', rv, q⟩ := hq
    exact ⟨w', H', J'.os, J'.bare, J'.base, J'.hok, rv, q⟩
  refine wpAny_call (codeAny_mono rc fun r s' hq => ?_)
  match r, hq with
  | .error e, hq => exact hx pins σ H1 s1 e s' I1 hq
  | .ok (.ret u), hq => exact I1.after hq
/-- one promise or another -/
theorem pe_or {e : PySem.Expr} {t1 t2 : TE} (h1 : PE X e t1) (h2 : PE X e t2) : PE X e (fun σ H Q => t1 σ H Q ∨ t2 σ H Q) := ⟨fun pins s σ H Q I h => h.elim (h1.run pins s σ H Q I) (h2.run pins s σ H Q I)⟩
end
/-- a def whose walk must know its code object -/
theorem okC {P : Program} {w : World} {K : PySem.W.Frag} {mg : Str → Option Value} {base : Heap} {CX : CXT} {x qual : Str} {st : Stmt} {f : Addr} {fd : FuncData} {N ps : List Str} {k : Nat} {sp : Sp} (F : Fun K x qual st f fd) (S : FnScope N ps (defScope st)) (len : ∀ vs H Q E, sp vs H Q E → vs.length = ps.length)
    (walk : ∀ (A : Around) (outer : List Env) (s : Shared) (H : Hp) (vs : List V) (Q : VK) (E : XK), Room k (A.deeper (envOfC qual (defScope st) s.heap.objs.size f fd.code)) → sp vs H Q E →
      ∃ t, PSs (cxOf CX P w K mg base N qual (defScope st) f fd.code A outer s H E) (defBody st) t ∧ t { nx := fun _ H' => Q .non H', rt := Q } (start N vs) H) : FnOk P w K mg base CX (k + 1) f fd ps sp := by
  obtain ⟨_, _, _, _, _, _, _, _, _, rfl, lk, hcd⟩ := F.ex
  exact fn_of lk hcd S len walk
end Ls
end
section
set_option Elab.async false
set_option linter.all false
set_option maxRecDepth 100000
set_option maxHeartbeats 4000000
namespace Ls
open PySem PySem.Spec PyProof.Rows L2
/-! ### x in t, x not in t: t a tuple of plain data, x plain data of any kind -/
def rInTV (neg : Bool) : R2 := fun x y H Q => ∃ d ds, TV H x d ∧ TV H y (.tuple ds) ∧ PyData.canLayAll0 ds = true ∧ d.canLay0 = true ∧ PyData.depthAll ds ≤ 50 ∧ Q (.bl (if neg then !ds.any fun z => PyData.eqv z d else ds.any fun z => PyData.eqv z d)) H
section
variable {X : Cx} {k : Nat}
theorem room_in {A : Around} {ds : List PyData} {d : PyData} (hr : Room k A) (h : PyData.depthAll ds ≤ 50) : A.units + 1 + min (PyData.depthAll ds) d.depth < cLine := by
  have h1 := Nat.min_le_left (PyData.depthAll ds) d.depth
  have h2 := hr.units
  omega
theorem no_sys {pins : List (Addr × Obj)} {σ : L2.St} {H : Hp} {s : Shared} (hb : (X.base.get? sysModules).isSome = true) (I : Inv X pins σ H s) : H sysModules = none := by
  obtain ⟨o, e⟩ := Option.isSome_iff_exists.mp hb
  exact (I.bs _ _ e).2
theorem op_inTV (hb : (X.base.get? sysModules).isSome = true) (hr : Room k X.A) : OpR X (compareOp .In) (rInTV false) := by
  intro pins s σ H x y v u Q I rx ry ⟨d, ds, hd, he, h1, h2, h3, q⟩
  obtain ⟨as, r1, _⟩ := reads_of I (no_sys hb I) hd rx
  obtain ⟨bs, r2, _⟩ := reads_of I (no_sys hb I) he ry
  exact SeqAt.in_tuple_reads r2 r1 h1 h2 (room_in hr h3) ⟨.bl _, H, I, rfl, q⟩
theorem op_notInTV (hb : (X.base.get? sysModules).isSome = true) (hr : Room k X.A) : OpR X (compareOp .NotIn) (rInTV true) := by
  intro pins s σ H x y v u Q I rx ry ⟨d, ds, hd, he, h1, h2, h3, q⟩
  obtain ⟨as, r1, _⟩ := reads_of I (no_sys hb I) hd rx
  obtain ⟨bs, r2, _⟩ := reads_of I (no_sys hb I) he ry
  exact SeqAt.notIn_tuple_reads r2 r1 h1 h2 (room_in hr h3) ⟨.bl _, H, I, rfl, q⟩
end
theorem depth_strs : ∀ us : List Str, PyData.depthAll (us.map .str) ≤ 1
  | [] => by simp [PyData.depthAll]
  | u :: r => by
    have h := depth_strs r
    simp only [List.map_cons, PyData.depthAll, PyData.depth]
    omega
end Ls
end
section
set_option Elab.async false
set_option autoImplicit false
set_option linter.all false
set_option maxRecDepth 100000
set_option maxHeartbeats 4000000
namespace Ls
open PySem PySem.Spec PyProof.Rows L2
/-! ### cuts of lists -/
theorem sIx_pos {n d : Nat} {i : Int} (h : 0 ≤ i) : HT.sIx n d (some i) = min i.toNat n := by
  show (if i < 0 then (i + (n : Int)).toNat else min i.toNat n) = _
  rw [if_neg (by omega)]
theorem cutV_to (xs : List V) {i : Int} (h : 0 ≤ i) : cutV xs none (some i) = xs.take i.toNat := by
  unfold cutV
  rw [sIx_pos h, HT.sIx_none, List.drop_zero, Nat.sub_zero]
  rcases Nat.le_total i.toNat xs.length with h1 | h1
  · rw [Nat.min_eq_left h1]
  · rw [Nat.min_eq_right h1, List.take_of_length_le (Nat.le_refl _), List.take_of_length_le h1]
theorem cutV_from (xs : List V) {i : Int} (h : 0 ≤ i) : cutV xs (some i) none = xs.drop i.toNat := by
  unfold cutV
  rw [sIx_pos h, HT.sIx_none]
  rcases Nat.le_total i.toNat xs.length with h1 | h1
  · rw [Nat.min_eq_left h1]
    exact List.take_of_length_le (by rw [List.length_drop]; omega)
  · rw [Nat.min_eq_right h1, List.drop_of_length_le (Nat.le_refl _), List.drop_of_length_le h1]
    simp
theorem cutM_to (ws : List Str) {i : Int} (h : 0 ≤ i) : cutV (ws.map V.str) none (some i) = (ws.take i.toNat).map V.str := by rw [cutV_to _ h, List.map_take]
theorem cutM_from (ws : List Str) {i : Int} (h : 0 ≤ i) : cutV (ws.map V.str) (some i) none = (ws.drop i.toNat).map V.str := by rw [cutV_from _ h, List.map_drop]
end Ls
end
section
set_option Elab.async false
set_option autoImplicit false
set_option linter.all false
set_option maxRecDepth 100000
set_option maxHeartbeats 4000000
namespace Ls
open PySem PySem.Spec PyProof.Rows L2
/-! ### lists of plain data: new ones, joined, cut, put in between -/
mutual
/-- all of it is new -/
theorem tv_new {S : List Addr} {H H' : Hp} (h : ∀ b ∈ S, H b ≠ none) : ∀ {v : V} {d : PyData}, TV (nw H H') v d → TV (vis S H') v d
  | _, _, .non => .non
  | _, _, .bl b => .bl b
  | _, _, .int i => .int i
  | _, _, .str x => .str x
  | _, _, .lst q t => .lst (vis_new h q fun _ z => by cases z) (tvs_new h t)
  | _, _, .tup q t => .tup (vis_new h q fun _ z => by cases z) (tvs_new h t)
  | _, _, .dct q t1 t2 => .dct (vis_new h q fun _ z => by cases z) (tvs_new h t1) (tvs_new h t2)
theorem tvs_new {S : List Addr} {H H' : Hp} (h : ∀ b ∈ S, H b ≠ none) : ∀ {vs : List V} {ds : List PyData}, TVs (nw H H') vs ds → TVs (vis S H') vs ds
  | _, _, .nil => .nil
  | _, _, .cons t ts => .cons (tv_new h t) (tvs_new h ts)
end
theorem TVs.app {H : Hp} : ∀ {xs ys : List V} {ds es : List PyData}, TVs H xs ds → TVs H ys es → TVs H (xs ++ ys) (ds ++ es)
  | _, _, _, _, .nil, k => k
  | _, _, _, _, .cons h hs, k => .cons h (TVs.app hs k)
theorem TVs.cut {H : Hp} : ∀ {xs : List V} {ds : List PyData} (i : Nat), TVs H xs ds → TVs H (xs.take i) (ds.take i)
  | _, _, _, .nil => by simp only [List.take_nil]; exact .nil
  | _, _, 0, .cons h hs => .nil
  | _, _, i + 1, .cons h hs => .cons h (TVs.cut i hs)
theorem TVs.from {H : Hp} : ∀ {xs : List V} {ds : List PyData} (i : Nat), TVs H xs ds → TVs H (xs.drop i) (ds.drop i)
  | _, _, _, .nil => by simp only [List.drop_nil]; exact .nil
  | _, _, 0, .cons h hs => .cons h hs
  | _, _, i + 1, .cons h hs => TVs.from i hs
theorem TVs.put {H : Hp} {xs : List V} {ds : List PyData} {v : V} {d : PyData} (i : Nat) (h : TVs H xs ds) (hv : TV H v d) : TVs H (xs.take i ++ [v] ++ xs.drop i) (ds.take i ++ [d] ++ ds.drop i) :=
  ((h.cut i).app (.cons hv .nil)).app (h.from i)
theorem TVs.mem {H : Hp} : ∀ {xs : List V} {ds : List PyData} {v : V}, TVs H xs ds → v ∈ xs → ∃ d, d ∈ ds ∧ TV H v d
  | _, _, _, .nil, h => by cases h
  | _, _, v, .cons (d := d) h hs, hm => by
    rcases List.mem_cons.mp hm with rfl | hm
    · exact ⟨d, by simp, h⟩
    · obtain ⟨d', h1, h2⟩ := TVs.mem hs hm
      exact ⟨d', by simp [h1], h2⟩
theorem put_len {α : Type} (xs : List α) (y : α) (i : Nat) : (xs.take i ++ [y] ++ xs.drop i).length = xs.length + 1 := by
  rw [List.length_append, List.length_append, List.length_take, List.length_drop]
  simp
  omega
theorem put_mem {α : Type} {xs : List α} {y z : α} {i : Nat} (h : z ∈ xs.take i ++ [y] ++ xs.drop i) : z ∈ xs ∨ z = y := by
  rcases List.mem_append.mp h with h | h
  · rcases List.mem_append.mp h with h | h
    · exact .inl (List.mem_of_mem_take h)
    · exact .inr (by simpa using h)
  · exact .inl (List.mem_of_mem_drop h)
/-- a place out of sight may be written -/
theorem vis_upd {S : List Addr} {H : Hp} {a : Addr} {o : HO} (h : a ∈ S) : vis S (upd H a o) = vis S H := by
  funext b
  unfold vis
  by_cases hb : b ∈ S
  · rw [if_pos hb, if_pos hb]
  · rw [if_neg hb, if_neg hb, upd_ne fun z => hb (by rw [z]; exact h)]
/-- a place that is not yet there may be put out of sight -/
theorem vis_add {S : List Addr} {H : Hp} {a : Addr} (h : H a = none) : Ext (vis S H) (vis (S ++ [a]) H) := fun b o e => by
  obtain ⟨h1, h2, h3⟩ := vis_some e
  refine vis_at (fun z => ?_) h2 h3
  rcases List.mem_append.mp z with z | z
  · exact h1 z
  · have : b = a := by simpa using z
    rw [this, h] at h2
    cases h2
end Ls
end
section
set_option Elab.async false
set_option autoImplicit false
set_option linter.all false
set_option maxRecDepth 100000
set_option maxHeartbeats 4000000
namespace Ls
open PySem PySem.Spec PyProof.Rows L2

/-! ### x op y, x an instance whose class has the text's own method, y of the same class or of a builtin's type -/
namespace OB
open PySem.W
/-- what a builtin's type has for an operator -/
structure Slots (T nm : String) : Prop where
  fl : ∃ b, fillsNumberSlot (.type T) nm = pure b
  lk : ∃ r, typeLookup (.type T) (dunderR nm) = pure r
theorem slots_of {T nm : String} {f r : Option Value} (hf : typeLookup (.type T) (dunder nm) = pure f) (hr : typeLookup (.type T) (dunderR nm) = pure r) : Slots T nm := ⟨⟨(f.isSome && !isSeqSlot f) || (r.isSome && !isSeqSlot r), by
  unfold fillsNumberSlot
  simp only [hf, hr, pure_bind]⟩, r, hr⟩
/-- the class's own turned form, or none -/
def Turn (K : Frag) (C : Addr) (nm : String) : Prop := ∃ ro, findIn K (.ref C) (dunderR nm) = some ro ∧ (ro = none ∨ ∃ g, ro = some (.ref g))
section
variable {prog : Program} {w : World} {A : Around} {E : Value → Shared → Prop} {s : Shared} {K : Frag} {x C f : Addr} {ox : Obj} {od : Option Obj} {b : Value}
theorem looks_inPy {M : Model} {h : Heap} {nm : String} (X : K.In h) (h1 : findIn K (.ref C) (dunder nm) = some (some (.ref f))) (h2 : Turn K C nm) : Looks M h (numberSlotInPython (.ref C) nm) true := by
  obtain ⟨ro, h2, h3⟩ := h2
  intro A Q E s k q
  unfold numberSlotInPython
  refine wpAny_bind (looks_findIn X h1 A _ E s k ?_)
  refine wpAny_bind (wpAny_pure ?_)
  refine wpAny_bind (looks_findIn X h2 A _ E s k ?_)
  rcases h3 with rfl | ⟨g, rfl⟩
  · exact wpAny_bind (wpAny_pure (wpAny_pure q))
  · exact wpAny_bind (wpAny_pure (wpAny_pure q))
theorem binop1_F {nm T : String} {Q : Value → Shared → Prop} {R : Option Value → Shared → Prop} (X : K.In s.heap) (I : InstAt s.heap x ox C od) (hb : Looks (model prog w) s.heap (typeOf b) (.type T)) (hc : selfFirst K C = true)
    (hs : findIn K (.ref C) (dunder nm) = some (some (.ref f))) (ht : Turn K C nm) (hf : isFn K (.ref f) = true) (hT : Slots T nm) (hsub : subIn K (.type T) (.ref C) = some false)
    (h : wpAny (model prog w) A (call (.ref f) [.ref x, b]) (PySem.W.CmpBack Q) E s) (hR : ∀ v s', Q v s' → R (some v) s') : wpAny (model prog w) A (binaryOp1 nm (.ref x) b) R E s := by
  obtain ⟨cd, hcd, hm⟩ := any_some hc
  obtain ⟨rest, hm⟩ : ∃ rest, cd.mro = .ref C :: rest := by
    cases q : cd.mro with
    | nil => rw [q] at hm; cases hm
    | cons a r => rw [q] at hm; exact ⟨r, by rw [List.head?_cons] at hm; cases (beq_iff_eq.mp hm); rfl⟩
  obtain ⟨⟨fb, hfl⟩, rb, hlk⟩ := hT
  have fin : ∀ {R : Option Value → Shared → Prop}, (∀ v s', Q v s' → R (some v) s') → wpAny (model prog w) A (tryMethod (.ref x) (dunder nm) b) R E s := fun {R} hR => by
    unfold tryMethod
    refine wpAny_bind (special_fn X I hs (beq_iff_eq.mp hf) (wpAny_mono h (fun v s' hv => ?_) fun _ _ e => e))
    cases v <;> first | exact hv.elim | exact wpAny_pure (hR _ _ hv)
  unfold binaryOp1
  refine wpAny_bind (I.type.here (wpAny_bind (hb.here (wpAny_bind ((fills_K X hcd hm hs).here ?_)))))
  rw [if_neg (by simp)]
  refine wpAny_bind (wpAny_of_eq hfl ?_)
  cases fb with
  | false =>
    simp only [Bool.and_false, Bool.false_eq_true, if_false, Bool.false_and]
    refine wpAny_bind (wpAny_pure ?_)
    simp only [Bool.false_eq_true, if_false]
    refine wpAny_bind (m := tryMethod (.ref x) _ b) (fin fun v s' q => ?_)
    exact wpAny_pure (hR _ _ q)
  | true =>
    simp only [Bool.and_self, if_true, Bool.not_false]
    refine wpAny_bind ((looks_subIn X hsub).here ?_)
    simp only [Bool.false_eq_true, if_false, Bool.not_false, Bool.and_self, if_true]
    refine wpAny_bind ((looks_inPy X hs ht).here ?_)
    simp only [if_true]
    refine wpAny_bind (wpAny_pure ?_)
    simp only [Bool.not_false, if_true]
    refine wpAny_bind (wpAny_of_eq hlk ?_)
    refine wpAny_bind (m := tryMethod (.ref x) _ b) (fin fun v s' q => ?_)
    exact wpAny_pure (hR _ _ q)
theorem binop_F {op : Operator} {T : String} {Q : Value → Shared → Prop} (X : K.In s.heap) (I : InstAt s.heap x ox C od) (hb : Looks (model prog w) s.heap (typeOf b) (.type T)) (hc : selfFirst K C = true)
    (hs : findIn K (.ref C) (dunder op.info.2) = some (some (.ref f))) (ht : Turn K C op.info.2) (hf : isFn K (.ref f) = true) (hT : Slots T op.info.2) (hsub : subIn K (.type T) (.ref C) = some false)
    (h : wpAny (model prog w) A (call (.ref f) [.ref x, b]) (PySem.W.CmpBack Q) E s) : wpAny (model prog w) A (binaryOp op (.ref x) b) Q E s := by
  unfold binaryOp
  exact wpAny_holding (wpAny_bind (binop1_F X I hb hc hs ht hf hT hsub h fun v s' q => wpAny_pure q))
theorem binop1_S {nm : String} {Q : Value → Shared → Prop} {R : Option Value → Shared → Prop} (X : K.In s.heap) (I : InstAt s.heap x ox C od) (hb : Looks (model prog w) s.heap (typeOf b) (.ref C)) (hc : selfFirst K C = true)
    (hs : findIn K (.ref C) (dunder nm) = some (some (.ref f))) (hf : isFn K (.ref f) = true)
    (h : wpAny (model prog w) A (call (.ref f) [.ref x, b]) (PySem.W.CmpBack Q) E s) (hR : ∀ v s', Q v s' → R (some v) s') : wpAny (model prog w) A (binaryOp1 nm (.ref x) b) R E s := by
  obtain ⟨cd, hcd, hm⟩ := any_some hc
  obtain ⟨rest, hm⟩ : ∃ rest, cd.mro = .ref C :: rest := by
    cases q : cd.mro with
    | nil => rw [q] at hm; cases hm
    | cons a r => rw [q] at hm; exact ⟨r, by rw [List.head?_cons] at hm; cases (beq_iff_eq.mp hm); rfl⟩
  have fin : ∀ {R : Option Value → Shared → Prop}, (∀ v s', Q v s' → R (some v) s') → wpAny (model prog w) A (tryMethod (.ref x) (dunder nm) b) R E s := fun {R} hR => by
    unfold tryMethod
    refine wpAny_bind (special_fn X I hs (beq_iff_eq.mp hf) (wpAny_mono h (fun v s' hv => ?_) fun _ _ e => e))
    cases v <;> first | exact hv.elim | exact wpAny_pure (hR _ _ hv)
  unfold binaryOp1
  refine wpAny_bind (I.type.here (wpAny_bind (hb.here (wpAny_bind ((fills_K X hcd hm hs).here ?_)))))
  simp only [beq_self_eq_true, if_true]
  refine wpAny_bind (wpAny_pure ?_)
  simp only [Bool.and_false, Bool.false_eq_true, if_false, Bool.false_and]
  refine wpAny_bind (wpAny_pure ?_)
  simp only [Bool.false_eq_true, if_false]
  refine wpAny_bind (m := tryMethod (.ref x) _ b) (fin fun v s' q => ?_)
  exact wpAny_pure (hR _ _ q)
/-- the class over object alone, without the form in place -/
structure NoIp (K : Frag) (C : Addr) (nm : String) : Prop where
  mro : (clsIn K C).any (fun cd => cd.mro == [.ref C, .type "object"]) = true
  no : findIn K (.ref C) (dunderI nm) = some none
  ob : typeLookup (.type "object") (dunderI nm) = pure none
theorem looks_noIp {M : Model} {h : Heap} {nm : String} {add : Bool} (X : K.In h) (n : NoIp K C nm) : Looks M h (fillsInplaceSlot (.ref C) nm add) false := by
  obtain ⟨cd, hcd, hm⟩ := any_some n.mro
  have hm : cd.mro = [.ref C, .type "object"] := beq_iff_eq.mp hm
  intro A Q E s k q
  unfold fillsInplaceSlot
  refine wpAny_bind ((looks_clsIn X hcd).andThen (f := fun cd => pure cd.mro) .now A _ E s k ?_)
  rw [hm, List.anyM_cons]
  refine wpAny_bind (wpAny_bind (looks_findIn X n.no A _ E s k ?_))
  refine wpAny_pure ?_
  simp only [Bool.false_eq_true, if_false]
  rw [List.anyM_cons]
  refine wpAny_bind (wpAny_bind (wpAny_of_eq n.ob ?_))
  refine wpAny_pure ?_
  simp only [Bool.false_eq_true, if_false]
  exact wpAny_pure q
end
end OB
/-- what the top says of the class's own method for an operator, at f -/
structure OwnOp (K : PySem.W.Frag) (C f : Addr) (nm : String) : Prop where
  sf : PySem.W.selfFirst K C = true
  at_ : PySem.W.findIn K (.ref C) (dunder nm) = some (some (.ref f))
  fn : PySem.W.isFn K (.ref f) = true
  tn : OB.Turn K C nm
/-- the other one: of the same class, or of a builtin's type -/
def Beside (K : PySem.W.Frag) (C : Addr) (nm : String) (H : Hp) (y : V) : Prop := (∃ b dy gs, y = .ref b ∧ H b = some (.ins C dy gs)) ∨ ∃ T, TyX K H y (.type T) ∧ OB.Slots T nm ∧ PySem.W.subIn K (.type T) (.ref C) = some false
def rBinO (K : PySem.W.Frag) (nm : String) (C f : Addr) (sp : Sp) (E : XK) : R2 := fun x y H Q => ∃ (a dx : Addr) (fs : List (Str × V)), x = .ref a ∧ H a = some (.ins C dx fs) ∧ Beside K C nm H y ∧ sp [x, y] H Q E
theorem relV_back {v : V} {u : Value} {P : Value → Shared → Prop} {s : Shared} (r : RelV v u) (h : P u s) : PySem.W.CmpBack P u s := by
  cases v <;> first | (obtain ⟨t, rfl⟩ := r; exact h) | (cases r; exact h)
section
variable {X : Cx} {CX : CXT} {n : Nat} {f C : Addr} {sp : Sp} {E : XK} {op : Operator}
theorem op_binO (F : FnR X.prog X.w X.K X.mg X.base CX n f sp) (O : OwnOp X.K C f op.info.2) (hr : Room n X.A) (hx : Passes CX X E) : OpR X (binaryOp op) (rBinO X.K op.info.2 C f sp E) := by
  intro pins s σ H x y v u Q I rx ry h
  obtain ⟨a, dx, fs, rfl, ha, hy, q⟩ := h
  cases (show v = Value.ref a from rx)
  obtain ⟨mA, J, _⟩ := ins_get I.hok ha
  obtain ⟨od, J, _⟩ := J.look
  have cl : wpAny (model X.prog X.w) X.A (call (.ref f) [.ref a, u]) (PySem.W.CmpBack (EP X pins σ Q)) X.xe s := by
    have r2 : Vals [V.ref a, y] [Value.ref a, u] := .cons rfl (.cons ry .nil)
    exact thn (wpAny_call (run_fnR F hr hx I r2 q)) fun w' s' ⟨z, H', I', rz, q'⟩ => relV_back rz ⟨z, H', I', rz, q'⟩
  rcases hy with ⟨b, dy, gs, rfl, hb⟩ | ⟨T, hT, hs, hsub⟩
  · cases (show u = Value.ref b from ry)
    obtain ⟨mB, J2, _⟩ := ins_get I.hok hb
    obtain ⟨od2, J2, _⟩ := J2.look
    unfold binaryOp
    exact wpAny_holding (wpAny_bind (OB.binop1_S I.kIn J J2.type O.sf O.at_ O.fn cl fun v s' q => wpAny_pure q))
  · obtain ⟨P, Z, p, _⟩ := kit_of I ry hT
    exact OB.binop_F I.kIn J (Z.ty _ _ I.kIn p) O.sf O.at_ O.tn O.fn hs hsub cl
theorem ip_own (F : FnR X.prog X.w X.K X.mg X.base CX n f sp) (O : OwnOp X.K C f op.info.2) (no : OB.NoIp X.K C op.info.2) (hr : Room n X.A) (hx : Passes CX X E) : PIp X op (rBinO X.K op.info.2 C f sp E) := by
  intro pins s σ H x y v u Q I rx ry h
  obtain ⟨a, dx, fs, rfl, ha, hy, q⟩ := h
  cases (show v = Value.ref a from rx)
  obtain ⟨mA, J, _⟩ := ins_get I.hok ha
  obtain ⟨od, J, _⟩ := J.look
  have cl : wpAny (model X.prog X.w) X.A (call (.ref f) [.ref a, u]) (PySem.W.CmpBack (EP X pins σ Q)) X.xe s := by
    have r2 : Vals [V.ref a, y] [Value.ref a, u] := .cons rfl (.cons ry .nil)
    exact thn (wpAny_call (run_fnR F hr hx I r2 q)) fun w' s' ⟨z, H', I', rz, q'⟩ => relV_back rz ⟨z, H', I', rz, q'⟩
  unfold inplaceOp
  refine wpAny_holding (wpAny_bind (J.type.here (wpAny_bind ((OB.looks_noIp I.kIn no).here ?_))))
  simp only [Bool.false_eq_true, if_false]
  rcases hy with ⟨b, dy, gs, rfl, hb⟩ | ⟨T, hT, hs, hsub⟩
  · cases (show u = Value.ref b from ry)
    obtain ⟨mB, J2, _⟩ := ins_get I.hok hb
    obtain ⟨od2, J2, _⟩ := J2.look
    exact wpAny_bind (OB.binop1_S I.kIn J J2.type O.sf O.at_ O.fn cl fun v s' q => wpAny_pure q)
  · obtain ⟨P, Z, p, _⟩ := kit_of I ry hT
    exact wpAny_bind (OB.binop1_F I.kIn J (Z.ty _ _ I.kIn p) O.sf O.at_ O.tn O.fn hs hsub cl fun v s' q => wpAny_pure q)
/-! ### x[i] by an own __getitem__ -/
structure OwnGet (K : PySem.W.Frag) (C f : Addr) : Prop where
  at_ : PySem.W.findIn K (.ref C) "__getitem__" = some (some (.ref f))
  fi : PySem.W.fnIn K f = true
  fn : PySem.W.isFn K (.ref f) = true
def rGetO (C : Addr) (sp : Sp) (E : XK) : R2 := fun x y H Q => ∃ (a dx : Addr) (fs : List (Str × V)), x = .ref a ∧ H a = some (.ins C dx fs) ∧ sp [x, y] H Q E
theorem pe_ixO {a b : PySem.Expr} {ta tb : TE} {pos : Pos} (F : FnR X.prog X.w X.K X.mg X.base CX n f sp) (O : OwnGet X.K C f) (hr : Room (n + 1) X.A) (hx : Passes CX X E) (ha : PE X a ta) (hb : PE X b tb)
    (hs : ∀ x i, subscripted b true (.ref x) i = runValue (.builtin "lifetime.subscript" ⟨[.ref x, i], []⟩)) : PE X (.Subscript a b pos) (tOp (rGetO C sp E) ta tb) := by
  refine ⟨fun pins s σ H Q I h => ?_⟩
  refine Subscript_ (binT ha hb I h fun v u s2 x y H2 I2 rx ry q => ?_)
  obtain ⟨c, dx, fs, rfl, hc, q⟩ := q
  cases (show v = Value.ref c from rx)
  obtain ⟨mA, J, _⟩ := ins_get I2.hok hc
  obtain ⟨od, J, _⟩ := J.look
  obtain ⟨m, hF⟩ := I2.fr
  refine PySem.W.sub_K hF I2.ok.mod.kin J O.at_ O.fi O.fn ?_ (hs _ _)
  have r2 : Vals [V.ref c, y] [Value.ref c, u] := .cons rfl (.cons ry .nil)
  exact wpAny_call (SlX.run_at F hr.in1 I2.env0.in1 hx I2 r2 q)
/-! ### o.m(e, ..) by an own method of the class at C -/
structure OwnM (P : Program) (w : World) (K : PySem.W.Frag) (mg : Str → Option Value) (base : Heap) (CX : CXT) (k : Nat) (C : Addr) (m : Str) (sp : Sp) : Prop where
  ex : ∃ f, Cls K C ∧ Meth K C m f ∧ FnR P w K mg base CX k f sp
theorem pe_om {k : Nat} {m : Str} {o e : PySem.Expr} {es : List PySem.Expr} {ta : TE} {t : TA} {apos pos : Pos} {pl : Sem Bool} (c : OwnM X.prog X.w X.K X.mg X.base CX k C m sp) (hr : Room k X.A) (he : PE X o ta) (hx : Passes CX X E) (ha : PA X (e :: es) t)
    (hst : starEach (e :: es) X.env = (false, eval e X.env) :: starEach es X.env := by rfl) (hpl : (backTo pos (starEach es X.env)).any (·.1) = false := by rfl)
    (ht : eval (.Call (.Attribute o m apos) (e :: es) [] pos) X.env = (do
      let ov ← eval o X.env
      standAt apos.atName
      let (f, first) ← holding [ov] (getMethod ov m pl)
      callWith pos f first (backTo pos (starEach (e :: es) X.env)) (backToKw pos (keywordEach [] X.env))) := by rfl) : PE X (.Call (.Attribute o m apos) (e :: es) [] pos) (tMethR C m sp E ta t) := by
  obtain ⟨f, h1, h2, F⟩ := c.ex
  exact pe_methR he h1 h2 F hr hx ha hst hpl ht
end
end Ls
end
section
set_option Elab.async false
set_option autoImplicit false
set_option linter.all false
set_option maxRecDepth 100000
set_option maxHeartbeats 4000000
namespace Ls
open PySem PySem.Spec PyProof.Rows L2
/-! ### i op y, i a whole number, y an instance whose class has the turned form -/
namespace OB
open PySem.W
/-- int's own slot for an operator declines what is no number -/
structure IntSlot (nm id : String) (B : Builtin) : Prop where
  fills : fillsNumberSlot (.type "int") nm = pure true
  slot : Slot "int" (dunder nm) id
  entry : entryFor table id = some B
  args : ∀ a b : Value, argsOk id ⟨[a, b], []⟩
  is : ∃ f nn, B = PySem.Builtin.Int.intBinary nn f
theorem sMul : IntSlot "mul" "int.__mul__" PySem.Builtin.«int.__mul__» := ⟨PySem.F.fills_int_mul, PySem.F.slot_int_mul, PySem.F.entry_int_mul, fun _ _ => PySem.F.args_int_mul_2 _ _, _, _, rfl⟩
theorem sAdd : IntSlot "add" "int.__add__" PySem.Builtin.«int.__add__» := ⟨PySem.F.fills_int_add, PySem.F.slot_int_add, PySem.F.entry_int_add, fun _ _ => PySem.F.args_int_add_2 _ _, _, _, rfl⟩
theorem sSub : IntSlot "sub" "int.__sub__" PySem.Builtin.«int.__sub__» := ⟨PySem.F.fills_int_sub, PySem.F.slot_int_sub, PySem.F.entry_int_sub, fun _ _ => PySem.F.args_int_sub_2 _ _, _, _, rfl⟩
section
variable {prog : Program} {w : World} {A : Around} {E : Value → Shared → Prop} {s : Shared} {K : Frag} {x dx C f : Addr} {od : Option Obj}
theorem fillsR_K {M : Model} {h : Heap} {nm : String} {cd : ClassData} {rest : List Value} (X : K.In h) (hc : clsIn K C = some cd) (hm : cd.mro = .ref C :: rest) (h1 : findIn K (.ref C) (dunder nm) = some none ∨ ∃ g, findIn K (.ref C) (dunder nm) = some (some (.ref g))) (h2 : findIn K (.ref C) (dunderR nm) = some (some (.ref f))) :
    Looks M h (fillsNumberSlot (.ref C) nm) true := by
  rcases h1 with h1 | ⟨g, h1⟩
  · intro A Q E s k q
    unfold fillsNumberSlot
    refine wpAny_bind ((looks_clsIn X hc).andThen (f := fun cd => pure cd.mro) .now A _ E s k ?_)
    rw [hm, List.anyM_cons]
    refine wpAny_bind ?_
    rw [List.anyM_cons]
    refine wpAny_bind (wpAny_bind (looks_findIn X h1 A _ E s k ?_))
    refine wpAny_pure ?_
    simp only [Bool.false_eq_true, if_false]
    rw [List.anyM_cons]
    refine wpAny_bind (wpAny_bind (looks_findIn X h2 A _ E s k ?_))
    dsimp only
    rw [if_pos (show (!ownNameWrapper (.ref f) (dunderR nm)) = true from rfl)]
    refine wpAny_pure ?_
    rw [if_pos rfl]
    refine wpAny_pure ?_
    rw [if_pos rfl]
    exact wpAny_pure q
  · exact fills_K X hc hm h1
theorem declines {nm id : String} {B : Builtin} {Q : Option Value → Shared → Prop} {i : Int} {t : Tok} (S : IntSlot nm id B) (hx : s.heap.get? x = some (instObj C dx)) (hq : Q none s) :
    wpAny (model prog w) A (tryMethod (.int i t) (dunder nm) (.ref x)) Q E s := by
  obtain ⟨g, nn, hB⟩ := S.is
  refine wpAny_tryMethod_declines (typeIs_int s i t) S.slot (wpAny_call (codeAny_call_builtin S.slot.plain S.entry (S.slot.check _ _ _ _ _ _ _ _ (typeIs_int s i t) (S.args _ _) ?_)))
  rw [hB]
  unfold PySem.Builtin.Int.intBinary
  show wpAny _ _ (do let o ← (do match (← load x).data with | .prim (.int i _) => pure (some i) | _ => pure none : Sem (Option Int)); _) _ _ _
  refine wpAny_bind (wpAny_bind (wpAny_load hx (wpAny_pure ?_)))
  exact wpAny_bind (wpAny_rule (wpAny_pure ⟨rfl, hq⟩))
theorem binop1_R {nm id : String} {B : Builtin} {Q : Value → Shared → Prop} {R : Option Value → Shared → Prop} {i : Int} {t : Tok} (X : K.In s.heap) (I : InstAt s.heap x (instObj C dx) C od) (S : IntSlot nm id B) (hc : selfFirst K C = true)
    (h1 : findIn K (.ref C) (dunder nm) = some none ∨ ∃ g, findIn K (.ref C) (dunder nm) = some (some (.ref g))) (h2 : findIn K (.ref C) (dunderR nm) = some (some (.ref f))) (hf : isFn K (.ref f) = true) (hsub : subIn K (.ref C) (.type "int") = some false)
    (h : wpAny (model prog w) A (call (.ref f) [.ref x, .int i t]) (PySem.W.CmpBack Q) E s) (hR : ∀ v s', Q v s' → R (some v) s') : wpAny (model prog w) A (binaryOp1 nm (.int i t) (.ref x)) R E s := by
  obtain ⟨cd, hcd, hm⟩ := any_some hc
  obtain ⟨rest, hm⟩ : ∃ rest, cd.mro = .ref C :: rest := by
    cases q : cd.mro with
    | nil => rw [q] at hm; cases hm
    | cons a r => rw [q] at hm; exact ⟨r, by rw [List.head?_cons] at hm; cases (beq_iff_eq.mp hm); rfl⟩
  have hpy : numberSlotInPython (.type "int") nm = pure false := rfl
  unfold binaryOp1
  refine wpAny_bind (wpAny_typeOf (typeIs_int s i t) (wpAny_bind (I.type.here (wpAny_bind (wpAny_of_eq S.fills ?_)))))
  have hne : (Value.type "int" == Value.ref C) = false := by simp
  simp only [hne, Bool.false_eq_true, if_false]
  refine wpAny_bind ((fillsR_K X hcd hm h1 h2).here ?_)
  simp only [Bool.and_self, if_true]
  refine wpAny_bind ((looks_subIn X hsub).here ?_)
  simp only [Bool.false_eq_true, if_false, Bool.not_false, Bool.and_self, if_true, pure_bind, hpy]
  refine wpAny_bind (declines S I.at_ ?_)
  dsimp only
  unfold tryMethod
  refine wpAny_bind (m := callSpecial? (.ref x) _ [.int i t] >>= _) (wpAny_bind (special_fn X I h2 (beq_iff_eq.mp hf) (wpAny_mono h (fun v s' hv => ?_) fun _ _ e => e)))
  cases v <;> first | exact hv.elim | exact wpAny_pure (wpAny_bind (wpAny_rule (wpAny_pure (hR _ _ hv)))) | exact wpAny_pure (wpAny_rule (wpAny_pure (hR _ _ hv)))
end
end OB
/-- what the top says of the class's own turned form, at f -/
structure OwnOpR (K : PySem.W.Frag) (C f : Addr) (nm : String) : Prop where
  sf : PySem.W.selfFirst K C = true
  fw : PySem.W.findIn K (.ref C) (dunder nm) = some none ∨ ∃ g, PySem.W.findIn K (.ref C) (dunder nm) = some (some (.ref g))
  at_ : PySem.W.findIn K (.ref C) (dunderR nm) = some (some (.ref f))
  fn : PySem.W.isFn K (.ref f) = true
  sub : PySem.W.subIn K (.ref C) (.type "int") = some false
/-- i op y: the class's turned form is called with y and i -/
def rBinR (C : Addr) (sp : Sp) (E : XK) : R2 := fun x y H Q => ∃ (i : Int) (a dx : Addr) (fs : List (Str × V)), x = .int i ∧ y = .ref a ∧ H a = some (.ins C dx fs) ∧ sp [y, x] H Q E
section
variable {X : Cx} {CX : CXT} {n : Nat} {f C : Addr} {sp : Sp} {E : XK} {op : Operator}
theorem op_binR {id : String} {B : Builtin} (F : FnR X.prog X.w X.K X.mg X.base CX n f sp) (S : OB.IntSlot op.info.2 id B) (O : OwnOpR X.K C f op.info.2) (hr : Room n X.A) (hx : Passes CX X E) : OpR X (binaryOp op) (rBinR C sp E) := by
  intro pins s σ H x y v u Q I rx ry h
  obtain ⟨i, a, dx, fs, rfl, rfl, ha, q⟩ := h
  obtain ⟨t, rfl⟩ : ∃ t, v = .int i t := rx
  cases (show u = Value.ref a from ry)
  obtain ⟨mA, J, _⟩ := ins_get I.hok ha
  obtain ⟨od, J, _⟩ := J.look
  have r2 : Vals [V.ref a, V.int i] [Value.ref a, Value.int i t] := .cons rfl (.cons ⟨t, rfl⟩ .nil)
  have cl : wpAny (model X.prog X.w) X.A (call (.ref f) [.ref a, .int i t]) (PySem.W.CmpBack (EP X pins σ Q)) X.xe s :=
    thn (wpAny_call (run_fnR F hr hx I r2 q)) fun w' s' ⟨z, H', I', rz, q'⟩ => relV_back rz ⟨z, H', I', rz, q'⟩
  unfold binaryOp
  exact wpAny_holding (wpAny_bind (OB.binop1_R I.kIn J S O.sf O.fw O.at_ O.fn O.sub cl fun v s' q => wpAny_pure q))
/-! ### -x by an own __neg__ -/
structure OwnNeg (K : PySem.W.Frag) (C f : Addr) : Prop where
  at_ : PySem.W.findIn K (.ref C) "__neg__" = some (some (.ref f))
  fn : PySem.W.isFn K (.ref f) = true
def rNegO (C : Addr) (sp : Sp) (E : XK) : V → Hp → VK → Prop := fun x H Q => ∃ (a dx : Addr) (fs : List (Str × V)), x = .ref a ∧ H a = some (.ins C dx fs) ∧ sp [x] H Q E
theorem un_negO (F : FnR X.prog X.w X.K X.mg X.base CX n f sp) (O : OwnNeg X.K C f) (hr : Room n X.A) (hx : Passes CX X E) : UnR X (unaryOp .USub) (rNegO C sp E) := by
  intro pins s σ H x v Q I rx h
  obtain ⟨a, dx, fs, rfl, ha, q⟩ := h
  cases (show v = Value.ref a from rx)
  obtain ⟨mA, J, _⟩ := ins_get I.hok ha
  obtain ⟨od, J, _⟩ := J.look
  obtain ⟨m, hF⟩ := I.fr
  exact PySem.W.ksp_neg hF I.ok.mod.kin J O.at_ O.fn (wpAny_call (run_fnR F hr hx I (us := [.ref a]) (vs := [.ref a]) (.cons rfl .nil) q))
/-! ### C.f(e, ..), f a static method of the class at C -/
structure Stm (P : Program) (w : World) (K : PySem.W.Frag) (mg : Str → Option Value) (base : Heap) (CX : CXT) (k : Nat) (C : Addr) (m : Str) (sp : Sp) : Prop where
  ex : ∃ (mc : Value) (p g : Addr) (rest : List Value), PySem.W.typeIn K (.ref C) = some mc ∧ ClX.CRead K C mc ∧ PySem.W.findCls K (.ref C) mc m = some (.get (.builtin "staticmethod.__get__") (.ref p) .none (.ref C)) ∧ PySem.W.recIn K p "staticmethod" = some (.ref g :: rest) ∧ PySem.W.keepIn K (.ref g) = true ∧ FnR P w K mg base CX k g sp
end
section
variable {X : Cx} {CX : CXT} {k : Nat} {C : Addr} {m x : Str} {sp : Sp} {E : XK} {o e : PySem.Expr} {es : List PySem.Expr} {ta te : TE} {t : TA} {p apos pos sp_ : Pos} {pl : Sem Bool}
theorem pe_stm (c : Stm X.prog X.w X.K X.mg X.base CX k C m sp) (hr : Room k X.A) (ho : PE X o ta) (hx : Passes CX X E) (ha : PA X (e :: es) t)
    (hst : starEach (e :: es) X.env = (false, eval e X.env) :: starEach es X.env := by rfl) (hpl : (backTo pos (starEach es X.env)).any (·.1) = false := by rfl)
    (ht : eval (.Call (.Attribute o m apos) (e :: es) [] pos) X.env = (do
      let ov ← eval o X.env
      standAt apos.atName
      let (f, first) ← holding [ov] (getMethod ov m pl)
      callWith pos f first (backTo pos (starEach (e :: es) X.env)) (backToKw pos (keywordEach [] X.env))) := by rfl) :
    PE X (.Call (.Attribute o m apos) (e :: es) [] pos) (fun σ H Q => ta σ H fun v H1 => v = .ref C ∧ t σ H1 fun vs H2 => sp vs H2 Q E) := by
  obtain ⟨mc, p', g, rest, ty, rd, fc, hp, kp, F⟩ := c.ex
  refine ⟨fun pins s σ H Q I h => PySem.W.methodCall_KW (pl := pl) (thn (ho.run pins s σ H _ I h) fun u s1 q1 => ?_) ht⟩
  obtain ⟨v, H1, I1, rv, rfl, q1⟩ := q1
  obtain rfl : u = Value.ref C := rv
  refine PySem.W.method_cls I1.kIn rd.ga ?_
  obtain ⟨mm, hF⟩ := I1.fr
  have J : Inv X pins σ H1 { s1 with toks := s1.toks + 1 } := I1.kept fun b o e => e
  refine PySem.W.cls_sm hF I1.ok.mod.kin ty rd.rd fc hp rfl ?_
  refine PySem.W.callWith_K (h₀ := X.base) J.ok.mod.kin kp (thn (ha.run pos pins _ σ H1 _ J q1) fun us s3 q3 => ?_) hst hpl
  obtain ⟨vs, H2, I3, r3, q3⟩ := q3
  exact ⟨I3.kIn, wpAny_call (run_fnR F hr hx I3 r3 q3)⟩
end
end Ls
end
section
set_option Elab.async false
set_option autoImplicit false
set_option linter.all false
set_option maxRecDepth 100000
set_option maxHeartbeats 4000000
namespace Ls
open PySem PySem.Spec PyProof.Rows L2
/-! ### x <= y, x >= y by an own __le__, __ge__ -/
def rCmpO (K : PySem.W.Frag) (nm : Str) (f : Addr) (sp : Sp) (E : XK) : R2 := fun x y H Q => ∃ (a C dx : Addr) (fs : List (Str × V)) (tb : Value), x = .ref a ∧ H a = some (.ins C dx fs) ∧ PySem.W.findIn K (.ref C) nm = some (some (.ref f)) ∧ TyX K H y tb ∧ PySem.W.notFirst K C tb = true ∧
  sp [x, y] H (fun v H' => ∃ r, v = .bl r ∧ Q (.bl r) H') E
section
variable {X : Cx} {CX : CXT} {n : Nat} {f : Addr} {sp : Sp} {E : XK}
theorem op_leO (F : FnR X.prog X.w X.K X.mg X.base CX n f sp) (hf : PySem.W.isFn X.K (.ref f) = true) (hr : Room n X.A) (hx : Passes CX X E) : OpR X (compareOp .LtE) (rCmpO X.K "__le__" f sp E) := by
  intro pins s σ H x y v u Q I rx ry h
  obtain ⟨a, C, dx, fs, tb, rfl, ha, hs, ty, hn, q⟩ := h
  cases (show v = Value.ref a from rx)
  obtain ⟨mA, J, _⟩ := ins_get I.hok ha
  obtain ⟨od, J, _⟩ := J.look
  obtain ⟨m, hF⟩ := I.fr
  obtain ⟨P, Z, p, _⟩ := kit_of I ry ty
  show wpAny (model X.prog X.w) X.A (richCompare .LtE (.ref a) u) (EP X pins σ Q) X.xe s
  refine PySem.W.cmp_K (op := .LtE) hr.units0 hF I.ok.mod.kin J (Z.ty _ _ I.kIn p) hn hs hf ?_
  have r2 : Vals [V.ref a, y] [Value.ref a, u] := .cons rfl (.cons ry .nil)
  refine thn (wpAny_call (run_fnR F hr hx I r2 q)) fun w' s' ⟨z, H', I', rz, r, ez, q'⟩ => ?_
  subst ez
  cases rz
  exact ⟨.bl r, H', I', rfl, q'⟩
theorem op_geO (F : FnR X.prog X.w X.K X.mg X.base CX n f sp) (hf : PySem.W.isFn X.K (.ref f) = true) (hr : Room n X.A) (hx : Passes CX X E) : OpR X (compareOp .GtE) (rCmpO X.K "__ge__" f sp E) := by
  intro pins s σ H x y v u Q I rx ry h
  obtain ⟨a, C, dx, fs, tb, rfl, ha, hs, ty, hn, q⟩ := h
  cases (show v = Value.ref a from rx)
  obtain ⟨mA, J, _⟩ := ins_get I.hok ha
  obtain ⟨od, J, _⟩ := J.look
  obtain ⟨m, hF⟩ := I.fr
  obtain ⟨P, Z, p, _⟩ := kit_of I ry ty
  show wpAny (model X.prog X.w) X.A (richCompare .GtE (.ref a) u) (EP X pins σ Q) X.xe s
  refine PySem.W.cmp_K (op := .GtE) hr.units0 hF I.ok.mod.kin J (Z.ty _ _ I.kIn p) hn hs hf ?_
  have r2 : Vals [V.ref a, y] [Value.ref a, u] := .cons rfl (.cons ry .nil)
  refine thn (wpAny_call (run_fnR F hr hx I r2 q)) fun w' s' ⟨z, H', I', rz, r, ez, q'⟩ => ?_
  subst ez
  cases rz
  exact ⟨.bl r, H', I', rfl, q'⟩
end
end Ls
end
section
set_option Elab.async false
set_option autoImplicit false
set_option linter.all false
set_option maxRecDepth 100000
set_option maxHeartbeats 4000000
namespace Ls
open PySem PySem.Spec PyProof.Rows L2 GenW
/-! ### for, in a generator def -/
def tGFor (wi : TI) (g : TG) (tb : TGn) : TGn := fun D ys σ H => wi σ H fun J H1 => ∃ W : Nat → Nat → List V → L2.St → Hp → Prop, (∃ m, W 0 m ys σ H1) ∧ ∀ i m ys σ H, W i m ys σ H →
  (J.stop i H ∧ D.nx ys σ H) ∨ (J.go i H ∧ ∃ N : List V → L2.St → Hp → Prop, (∀ ys' σ' H', N ys' σ' H' → ∃ m', m' < m ∧ W (i + 1) m' ys' σ' H') ∧ ∀ x H', J.yld i H x H' → g x σ H' fun σ2 H2 => tb { D with nx := N, ct := N, bk := D.nx } ys σ2 H2)
section
variable {X : Cx}
theorem gs_for {tg iter : PySem.Expr} {body : List Stmt} {pos : Pos} {wi : TI} {g : TG} {tb : TGn} (hp : PassesOwn (model X.prog X.w) X.A X.env X.xe) (hc : X.calm = true) (hi : PI X tg iter wi) (hg : PG X tg g) (hb : GSs X body tb)
    (hs : ∀ x, foldedSetIterable iter X.env x = pure x := by intro _; rfl) : GS X (.For tg iter body [] pos) (tGFor wi g tb) := by
  refine ⟨fun A S ip R n ys s₀ c fs K J gd lv s σ H D gc hn k hI ht => ?_⟩
  obtain ⟨acc, cc, r, I⟩ := hI
  rw [exec_For]
  refine seg_bind_wrap (wpAny_standAt ?_)
  refine seg_bind_wrap ?_
  rw [gc.over]
  refine wpAny_mono (hi.run _ s σ H _ I ht) (fun v s1 h1 => ?_) fun x s' hx => k.exc n s₀ x s' hx
  refine seg_bind_wrap (wpAny_of_eq (hs v) ?_)
  refine seg_bind_wrap (wpAny_standAt ?_)
  refine seg_bind_wrap (wpAny_holding ?_)
  rw [gc.over]
  refine wpAny_mono h1 (fun itv s2 h2 => ?_) fun x s' hx => k.exc n s₀ x s' hx
  obtain ⟨it, fp, tn, Jt, H2, e, I2, T, st2, f2, W, ⟨m0, w0⟩, turn⟩ := h2
  subst e
  refine seg_call fun p => ?_
  have gl := fun (kk : Result → Sem PySem.Fin) => gc_loop (k := kk) (c' := .forLoop tg (.ref it) body [] X.env) (l := lv []) (kp := []) (p := p) gc rfl rfl
  have stat : ∀ {H' : Hp} {acc' : Array Value} {c' : Nat}, (∀ b ∈ fp, H' b = none) → ∀ b ∈ fp, FpOk X ((S, lstObj acc' c') :: ip) H' b := fun {H' acc' c'} hn b hb => by
    obtain ⟨_, q1, q2, q3, q4, q5⟩ := f2 b hb
    refine ⟨hn b hb, q1, q2, q3, q4, fun p hp => ?_⟩
    rcases List.mem_append.mp hp with hp | hp
    · exact q5 p (List.mem_append_left _ hp)
    · rcases List.mem_cons.mp hp with hp | hp
      · rw [hp]
        exact q5 (S, lstObj acc cc) (List.mem_append_right _ List.mem_cons_self)
      · exact q5 p (List.mem_append_right _ (List.mem_cons_of_mem _ hp))
  have loop : ∀ (m i n : Nat) (ys : List V) (s₀ s : Shared) (σ : L2.St) (H : Hp), n + ys.length = sizeLine → W i m ys σ H → GI X S ip ys σ H s → tn i s.heap → (∀ b ∈ fp, H b = none) →
      Seg (model X.prog X.w) A R (GY X S) n s₀ (.forLoop tg (.ref it) body [] X.env) ((model X.prog X.w).den (.forLoop tg (.ref it) body [] X.env))
        (.ret (fun r => ((match r with | .ok f => (.pure f : Sem Flow) | .error e => .raise e).onRaise (cameBack X.env)).wrap K J gd lv) none (gd false) (lv []) c p [] :: fs) s := by
    intro m
    induction m using Nat.strongRecOn with
    | ind m ih =>
      intro i n ys s₀ s σ H hn w hI hst hfr
      have ee : ∀ (n : Nat) (s₀ : Shared) (x : Value) (s' : Shared), X.xe x s' → Seg (model X.prog X.w) A R (GY X S) n s₀ (.forLoop tg (.ref it) body [] X.env)
          ((do noteFrame x X.env; theTreesLotGoes x : Sem Unit).bind (fun _ => .raise x))
          (.ret (fun r => ((match r with | .ok f => (.pure f : Sem Flow) | .error e => .raise e).onRaise (cameBack X.env)).wrap K J gd lv) none (gd false) (lv []) c p [] :: fs) s' := fun n s₀ x s' hx => by
        rw [Sem.bind_eq_wrap]
        refine seg_wrap ?_
        rw [(gl _).over]
        refine wpAny_bind (wpAny_mono (hp x s' hx) (fun _ s'' hcb => wpAny_theTreesLotGoes ?_) fun y s'' hcb => ?_)
        · exact seg_leaf (.error x) (seg_cameBack gc k hcb)
        · exact seg_leaf (.error y) (seg_cameBack gc k hcb)
      obtain ⟨acc3, c3, r3, I3⟩ := hI
      show Seg _ A R _ n s₀ _ ((forTurn tg (.ref it) body [] X.env).onRaise (fun x => do noteFrame x X.env; theTreesLotGoes x)) _ s
      rw [Sem.onRaise_eq_wrap]
      simp only [forTurn]
      refine seg_bind_wrap (wpAny_standAt ?_)
      refine seg_bind_wrap (wpAny_onRaise ?_)
      rw [(gl _).over]
      rcases turn i m ys σ H w with ⟨stop, qn⟩ | ⟨go, N, hN, step⟩
      · refine wpAny_mono (T.done X rfl rfl rfl hc i _ s σ H X.xe I3 (stat hfr) hst stop) (fun r' s4 ⟨hr, I4⟩ => ?_) fun x s' hx => wpAny_standAt (ee n s₀ x s' hx)
        subst hr
        refine seg_again rfl ?_
        exact seg_leaf (.ok .next) (k.ok n ys s₀ s4 .next hn ⟨σ, H, ⟨acc3, c3, r3, I4⟩, qn⟩)
      · refine wpAny_mono (T.item X rfl rfl rfl hc i _ s σ H X.xe I3 (stat hfr) hst go) (fun r' s4 ⟨u, hr, h4⟩ => ?_) fun x s' hx => wpAny_standAt (ee n s₀ x s' hx)
        subst hr
        refine seg_bind_wrap ?_
        rw [(gl _).over]
        refine wpAny_mono h4 (fun _ s5 ⟨x, H5, I5, r5, y5, st5, fr5⟩ => ?_) fun x s' hx => ee n s₀ x s' hx
        have I5' := I5.pinned (stat fr5) (T.obj _ _ st5)
        refine seg_bind_wrap ?_
        rw [(gl _).over]
        refine wpAny_mono (hg.run _ s5 σ H5 x u _ I5' r5 (step x H5 y5)) (fun _ s6 ⟨σ6, H6, I6, q6⟩ => ?_) fun x s' hx => ee n s₀ x s' hx
        rw [Sem.bind_eq_wrap', Sem.wrap_wrap]
        have ipn : ∀ p ∈ ip ++ pinsAt fp s5.heap, p.1 ≠ S := fun p hp => by
          rcases List.mem_append.mp hp with hp | hp
          · exact gc.ip p hp
          · intro z
            obtain ⟨hb, _⟩ := of_pinsAt hp
            obtain ⟨_, _, _, _, _, q5⟩ := f2 p.1 hb
            exact q5 (S, lstObj acc cc) (List.mem_append_right _ List.mem_cons_self) z.symm
        have gl2 := gl (fun r => ((match r with | .ok f => (.pure f : Sem Flow) | .error e => .raise e).onRaise (cameBack X.env)).wrap K J gd lv)
        have again : ∀ {ys7 : List V} {σ7 : L2.St} {H7 : Hp} {s7 : Shared} (n' : Nat) (s₀' : Shared), n' + ys7.length = sizeLine → GI X S (ip ++ pinsAt fp s5.heap) ys7 σ7 H7 s7 → N ys7 σ7 H7 →
            Seg (model X.prog X.w) A R (GY X S) n' s₀' (.forLoop tg (.ref it) body [] X.env) (.pure (.again (.forLoop tg (.ref it) body [] X.env)))
              (.ret (fun r => ((match r with | .ok f => (.pure f : Sem Flow) | .error e => .raise e).onRaise (cameBack X.env)).wrap K J gd lv) none (gd false) (lv []) c p [] :: fs) s7 := fun {ys7 σ7 H7 s7} n' s₀' hn' hG n7 => by
          obtain ⟨m', hm, w7⟩ := hN ys7 σ7 H7 n7
          obtain ⟨acc7, c7, r7, I7⟩ := hG
          have pin7 : ∀ b ∈ fp, ∀ o, s5.heap.get? b = some o → s7.heap.get? b = some o ∧ H7 b = none := fun b hb o e => by
            obtain ⟨z1, z2, _⟩ := I7.pin (b, o) (List.mem_append_right _ (List.mem_cons_of_mem _ (List.mem_append_right _ (mem_pinsAt hb e))))
            exact ⟨z1, z2⟩
          refine seg_again rfl (ih m' hm (i + 1) n' ys7 s₀' s7 σ7 H7 hn' w7 ⟨acc7, c7, r7, Inv.unpinned (pins := (S, lstObj acc7 c7) :: ip) I7⟩ (T.keep _ _ _ st5 fun b hb o e => (pin7 b hb o e).1) fun b hb => ?_)
          obtain ⟨o, e, _⟩ := T.obj _ _ st5 b hb
          exact (pin7 b hb o e).2
        refine hb.run A S (ip ++ pinsAt fp s5.heap) R n ys s₀ _ _ _ _ id id s6 σ6 H6 { D with nx := N, ct := N, bk := D.nx } ⟨gl2.pn, ipn, gl2.apart, gl2.over, gl2.split, gl2.guard, gl2.gd⟩ hn ⟨fun n' ys' s₀' s7 f hn' hs7 => ?_, fun n' s₀' x s7 hx => ee n' s₀' x s7 hx⟩ ⟨acc3, c3, r3, I6⟩ q6
        have un : ∀ {ys' : List V} {σ' : L2.St} {H' : Hp}, GI X S (ip ++ pinsAt fp s5.heap) ys' σ' H' s7 → GI X S ip ys' σ' H' s7 := fun {ys' σ' H'} hG => by
          obtain ⟨acc7, c7, r7, I7⟩ := hG
          exact ⟨acc7, c7, r7, Inv.unpinned (pins := (S, lstObj acc7 c7) :: ip) I7⟩
        cases f with
        | next =>
          obtain ⟨σ7, H7, I7, n7⟩ := hs7
          exact again n' s₀' hn' I7 n7
        | cont =>
          obtain ⟨σ7, H7, I7, n7⟩ := hs7
          exact again n' s₀' hn' I7 n7
        | brk =>
          obtain ⟨σ7, H7, I7, q7⟩ := hs7
          exact seg_leaf (.ok .next) (k.ok n' ys' s₀' s7 .next hn' ⟨σ7, H7, un I7, q7⟩)
        | ret v =>
          obtain ⟨x7, σ7, H7, I7, r7, q7⟩ := hs7
          exact seg_leaf (.ok (.ret v)) (k.ok n' ys' s₀' s7 (.ret v) hn' ⟨x7, σ7, H7, un I7, r7, q7⟩)
  exact loop m0 0 n ys s₀ s2 σ H2 hn w0 ⟨acc, cc, r, I2⟩ st2 fun b hb => (f2 b hb).1
end
end Ls
end
section
set_option Elab.async false
set_option autoImplicit false
set_option linter.all false
set_option maxRecDepth 100000
set_option maxHeartbeats 4000000
namespace Ls
open PySem PySem.Spec PyProof.Rows L2 GenW
/-! ### o.m(a = v) -/
section
variable (P : Program) (w : World) (K : PySem.W.Frag) (mg : Str → Option Value) (base : Heap) (CX : CXT) (k : Nat)
structure OwnMK (C : Addr) (m a : Str) (sp : Sp) : Prop where
  ex : ∃ f fd c, Cls K C ∧ Meth K C m f ∧ FnOk P w K mg base CX k f fd [c, a] sp ∧ ∀ (s : Shared) (v u : Value), BindsTo s fd ⟨[v], [(a, u)]⟩ [(c, v), (a, u)]
structure GenMK (C : Addr) (m a : Str) (sp : SpG) : Prop where
  ex : ∃ f fd c, Cls K C ∧ Meth K C m f ∧ GFn P w K mg base k f fd [c, a] sp ∧ ∀ (s : Shared) (v u : Value), BindsTo s fd ⟨[v], [(a, u)]⟩ [(c, v), (a, u)]
structure GenM (C : Addr) (m : Str) (sp : SpG) : Prop where
  ex : ∃ f fd ps, Cls K C ∧ Meth K C m f ∧ GFn P w K mg base k f fd ps sp ∧ Binds K fd ps []
end
section
variable {X : Cx} {CX : CXT} {k : Nat} {C : Addr} {sp : Sp} {spg : SpG} {E : XK} {m a : Str} {pos apos : Pos} {o : PySem.Expr} {kws : List Keyword} {ta : TE} {tk : TA} {pl : Sem Bool}
def tMethK (C : Addr) (m : Str) (sp : Sp) (E : XK) (ta : TE) (tk : TA) : TE := fun σ H Q => ta σ H fun x H1 => ∃ b dx fs, x = .ref b ∧ H1 b = some (.ins C dx fs) ∧ fs.lookup m = none ∧ tk σ H1 fun zs H2 => ∃ z, zs = [z] ∧ sp [.ref b, z] H2 Q E
theorem pe_omk (c : OwnMK X.prog X.w X.K X.mg X.base CX k C m a sp) (hr : Room k X.A) (ho : PE X o ta) (hx : Passes CX X E) (hkw : PK X kws tk)
    (hall : (backToKw pos (keywordEach kws X.env)).all (·.1.isSome) = true := by rfl) (hks : (backToKw pos (keywordEach kws X.env)).filterMap (·.1) = [a] := by rfl)
    (hpl : ((backTo pos (starEach [] X.env)).any (·.1) || (backToKw pos (keywordEach kws X.env)).any (·.1.isNone)) = false := by rfl)
    (ht : eval (.Call (.Attribute o m apos) [] kws pos) X.env = (do
      let ov ← eval o X.env
      standAt apos.atName
      let (f, first) ← holding [ov] (getMethod ov m pl)
      callWith pos f first (backTo pos (starEach [] X.env)) (backToKw pos (keywordEach kws X.env))) := by rfl) :
    PE X (.Call (.Attribute o m apos) [] kws pos) (tMethK C m sp E ta tk) := by
  obtain ⟨f, fd, cn, cl, hm, F, hb⟩ := c.ex
  refine ⟨fun pins s σ H Q I h => ?_⟩
  refine PySem.W.methodCall_KW (pl := pl) (thn (ho.run pins s σ H _ I h) fun u s1 ⟨x, H1, I1, rx, b, dx, fs, ex, eb, l, q⟩ => ?_) ht
  subst ex
  obtain rfl : u = Value.ref b := rx
  refine getmeth_ok I1 eb cl hm l ?_
  refine PySem.W.callWith_of (P := X.K.In) hpl (PySem.W.keeps_K hm.kp) (evalArgs_kw2_nil hall ?_)
  refine thn (hkw.run pos _ s1 σ H1 _ I1 q) fun ws s3 ⟨zs, H2, I3, rz, z, ez, q3⟩ => ?_
  subst ez
  refine ⟨I3.kIn, ?_⟩
  rw [hks]
  obtain ⟨u, rfl, ru⟩ := vals1 rz
  have r2 : Vals [V.ref b, z] [Value.ref b, u] := .cons rfl (.cons ru .nil)
  have run := F.run X.A X.stack s3 H2 ⟨[.ref b], [(a, u)]⟩ [.ref b, u] [.ref b, z] Q E hr I3.env0 (hb s3 (.ref b) u) r2 q3
  refine wpAny_call (codeAny_mono run fun res s' hq => ?_)
  match res, hq with
  | .error e, hq => exact hx _ σ H2 s3 e s' I3 hq
  | .ok (.ret u), hq => exact I3.after hq
  | .ok .next, hq => exact hq.elim
  | .ok .brk, hq => exact hq.elim
  | .ok .cont, hq => exact hq.elim
/-! ### generator methods -/
def tGenM (C : Addr) (m : Str) (sp : SpG) (E : XK) (ta : TE) (t : TA) : TGen := fun σ H cont => ta σ H fun x H1 => ∃ a dx fs, x = .ref a ∧ H1 a = some (.ins C dx fs) ∧ fs.lookup m = none ∧ t σ H1 fun vs H2 => sp (x :: (vs ++ [])) H2 cont E
theorem pgen_m {e : PySem.Expr} {es : List PySem.Expr} {t : TA} (c : GenM X.prog X.w X.K X.mg X.base k C m spg) (hr : Room k X.A) (he : PE X o ta) (ha : PA X (e :: es) t)
    (hst : starEach (e :: es) X.env = (false, eval e X.env) :: starEach es X.env := by rfl) (hpl : (backTo pos (starEach es X.env)).any (·.1) = false := by rfl)
    (ht : eval (.Call (.Attribute o m apos) (e :: es) [] pos) X.env = (do
      let ov ← eval o X.env
      standAt apos.atName
      let (f, first) ← holding [ov] (getMethod ov m pl)
      callWith pos f first (backTo pos (starEach (e :: es) X.env)) (backToKw pos (keywordEach [] X.env))) := by rfl) :
    PGen X k (.Call (.Attribute o m apos) (e :: es) [] pos) (tGenM C m spg E ta t) E := by
  obtain ⟨f, fd, ps, cl, hm, F, hb⟩ := c.ex
  exact pgen_meth he cl hm F hr hb .nil ha hst hpl ht
def tGenMK (C : Addr) (m : Str) (sp : SpG) (E : XK) (ta : TE) (tk : TA) : TGen := fun σ H cont => ta σ H fun x H1 => ∃ b dx fs, x = .ref b ∧ H1 b = some (.ins C dx fs) ∧ fs.lookup m = none ∧ tk σ H1 fun zs H2 => ∃ z, zs = [z] ∧ sp [.ref b, z] H2 cont E
theorem pgen_mk (c : GenMK X.prog X.w X.K X.mg X.base k C m a spg) (hr : Room k X.A) (ho : PE X o ta) (hkw : PK X kws tk)
    (hall : (backToKw pos (keywordEach kws X.env)).all (·.1.isSome) = true := by rfl) (hks : (backToKw pos (keywordEach kws X.env)).filterMap (·.1) = [a] := by rfl)
    (hpl : ((backTo pos (starEach [] X.env)).any (·.1) || (backToKw pos (keywordEach kws X.env)).any (·.1.isNone)) = false := by rfl)
    (ht : eval (.Call (.Attribute o m apos) [] kws pos) X.env = (do
      let ov ← eval o X.env
      standAt apos.atName
      let (f, first) ← holding [ov] (getMethod ov m pl)
      callWith pos f first (backTo pos (starEach [] X.env)) (backToKw pos (keywordEach kws X.env))) := by rfl) :
    PGen X k (.Call (.Attribute o m apos) [] kws pos) (tGenMK C m spg E ta tk) E := by
  obtain ⟨f, fd, cn, cl, hm, F, hb⟩ := c.ex
  refine ⟨fun pins s σ H cont I h => ?_⟩
  refine PySem.W.methodCall_KW (pl := pl) (thn (ho.run pins s σ H _ I h) fun u s1 ⟨x, H1, I1, rx, b, dx, fs, ex, eb, l, q⟩ => ?_) ht
  subst ex
  obtain rfl : u = Value.ref b := rx
  refine getmeth_ok I1 eb cl hm l ?_
  refine PySem.W.callWith_of (P := X.K.In) hpl (PySem.W.keeps_K hm.kp) (evalArgs_kw2_nil hall ?_)
  refine thn (hkw.run pos _ s1 σ H1 _ I1 q) fun ws s3 ⟨zs, H2, I3, rz, z, ez, q3⟩ => ?_
  subst ez
  refine ⟨I3.kIn, ?_⟩
  rw [hks]
  obtain ⟨u, rfl, ru⟩ := vals1 rz
  have r2 : Vals [V.ref b, z] [Value.ref b, u] := .cons rfl (.cons ru .nil)
  refine wpAny_call (codeAny_mono (F.run X.A X.stack s3 H2 ⟨[.ref b], [(a, u)]⟩ [.ref b, u] [.ref b, z] cont E hr I3.env0 (hb s3 (.ref b) u) r2 q3) fun r s' hq => ?_)
  match r, hq with
  | .error e, hq => exact hq.elim
  | .ok (.ret u), hq => exact ⟨H2, s3, [], I3, .nil, hq⟩
  | .ok .next, hq => exact hq.elim
  | .ok .brk, hq => exact hq.elim
  | .ok .cont, hq => exact hq.elim
end
/-! ### what leaves a generator's body -/
section
variable {P : Program} {w : World} {K : PySem.W.Frag} {mg : Str → Option Value} {base : Heap} {N : List Str} {qual : Str} {scope : Scope} {f : Addr} {cd : Value} {A : Around} {outer : List Env} {s : Shared} {H : Hp} {E : XK} {pn : List (Addr × Obj)}
theorem passG : Passes (L2.CX P w) (gcxOf P w K mg base N qual scope f cd A outer s H E pn) E := passes_call takes_gcx fun _ _ _ _ h => h
end
/-- one class alone is let out -/
def onlyC (C : Addr) (E : XK) : XK := fun cls d H => E cls d H ∧ cls = .ref C
section
variable {X : Cx} {A : Around} {outer : List Env} {s : Shared} {H : Hp} {E : XK} {scope : Scope} {f c' C : Addr} {K : PySem.W.Frag}
theorem passLm1 : Passes (L2.CX X.prog X.w) (LamX.lamCx X A outer s H E scope f c') (onlyC C E) := passes_call tkL fun _ _ _ _ h => h.1
theorem noStop_only (h : PySem.W.subIn K (.ref C) (.type "StopIteration") = some false) : NoStop K (onlyC C E) := fun cls d H h' => by
  rw [h'.2]
  exact h
theorem noStop0 : NoStop K (fun _ _ _ => False) := fun _ _ _ h => h.elim
end
/-- list(g); what is let out is looked at last -/
theorem pe_listGC {X : Cx} {CXx : CXT} {k : Nat} {p pos : Pos} {e : PySem.Expr} {tg : TGen} {E : XK} {nm : Str} (h : PGen X k e tg E) (hx : Passes CXx X E) (hns : NoStop X.K E) (hr : Room (k + 3) X.A) (hg : Gl X nm) (hmg : X.mg nm = none) (hv : bootBuiltins nm = some (.type "list")) (hnm : nm ≠ "__name__" := by decide) (hdb : (nm == ("__debug__" : Str)) = false := by decide)
    (he : starEach [e] X.env = (false, eval e X.env) :: starEach [] X.env := by rfl) (hCX : CXx = L2.CX X.prog X.w := by rfl) : PE X (.Call (.Name nm p) [e] [] pos) (tListG tg) := by
  subst hCX
  exact pe_listG h hx hns hr hg hmg hv hnm hdb he
/-- the turns of a generator's for over a range -/
theorem forG_range {lo : Int} {n : Nat} {g : TG} {tb : TGn} {D : GEnds} {ys : List V} {σ : L2.St} {H : Hp} (Pv : Nat → List V → L2.St → Hp → Prop) (h0 : Pv 0 ys σ H)
    (hs : ∀ i ys σ H, i < n → Pv i ys σ H → g (.int (lo + i)) σ H fun σ2 H2 => tb { D with nx := Pv (i + 1), ct := Pv (i + 1), bk := D.nx } ys σ2 H2) (hd : ∀ ys σ H, Pv n ys σ H → D.nx ys σ H) :
    ∃ W : Nat → Nat → List V → L2.St → Hp → Prop, (∃ m, W 0 m ys σ H) ∧ ∀ i m ys σ H, W i m ys σ H →
      ((Itr lo n).stop i H ∧ D.nx ys σ H) ∨ ((Itr lo n).go i H ∧ ∃ N : List V → L2.St → Hp → Prop, (∀ ys' σ' H', N ys' σ' H' → ∃ m', m' < m ∧ W (i + 1) m' ys' σ' H') ∧ ∀ x H', (Itr lo n).yld i H x H' → g x σ H' fun σ2 H2 => tb { D with nx := N, ct := N, bk := D.nx } ys σ2 H2) := by
  refine ⟨fun i m ys σ H => m = n - i ∧ i ≤ n ∧ Pv i ys σ H, ⟨n, by simp, Nat.zero_le _, h0⟩, ?_⟩
  rintro i m ys σ H ⟨rfl, hi, p⟩
  by_cases hlt : i < n
  · refine .inr ⟨?_, Pv (i + 1), fun ys' σ' H' p' => ⟨n - (i + 1), by omega, rfl, hlt, p'⟩, fun x H' y => ?_⟩
    · exact hlt
    · obtain ⟨e, y⟩ := y
      subst e
      subst y
      exact hs i ys σ _ hlt p
  · have e : i = n := by omega
    subst e
    exact .inl ⟨Nat.le_refl _, hd ys σ H p⟩
end Ls
end
section
set_option Elab.async false
set_option autoImplicit false
set_option linter.all false
set_option maxRecDepth 100000
set_option maxHeartbeats 4000000
namespace Ls
open PySem PySem.Spec PyProof.Rows L2
/-! ### x in y, x not in y by an own __contains__ -/
def rInO (K : PySem.W.Frag) (neg : Bool) (f : Addr) (sp : Sp) (E : XK) : R2 := fun x y H Q => ∃ (a C dx : Addr) (fs : List (Str × V)), y = .ref a ∧ H a = some (.ins C dx fs) ∧ PySem.W.findIn K (.ref C) "__contains__" = some (some (.ref f)) ∧
  sp [y, x] H (fun v H' => ∃ r, v = .bl r ∧ Q (.bl (if neg then !r else r)) H') E
section
variable {X : Cx} {CX : CXT} {n : Nat} {f : Addr} {sp : Sp} {E : XK}
theorem op_inO (F : FnR X.prog X.w X.K X.mg X.base CX n f sp) (hf : PySem.W.isFn X.K (.ref f) = true) (hr : Room n X.A) (hx : Passes CX X E) : OpR X (compareOp .In) (rInO X.K false f sp E) := by
  intro pins s σ H x y v u Q I rx ry h
  obtain ⟨a, C, dx, fs, rfl, ha, hs, q⟩ := h
  cases (show u = Value.ref a from ry)
  obtain ⟨mA, J, _⟩ := ins_get I.hok ha
  obtain ⟨od, J, _⟩ := J.look
  obtain ⟨m, hF⟩ := I.fr
  refine PySem.W.in_K hF I.ok.mod.kin J hs hf ?_
  have r2 : Vals [V.ref a, x] [Value.ref a, v] := .cons rfl (.cons rx .nil)
  refine thn (wpAny_call (run_fnR F hr hx I r2 q)) fun w' s' ⟨z, H', I', rz, r, ez, q'⟩ => ?_
  subst ez
  cases rz
  exact wpAny_truthy_bool ⟨.bl r, H', I', rfl, q'⟩
theorem op_notInO (F : FnR X.prog X.w X.K X.mg X.base CX n f sp) (hf : PySem.W.isFn X.K (.ref f) = true) (hr : Room n X.A) (hx : Passes CX X E) : OpR X (compareOp .NotIn) (rInO X.K true f sp E) := by
  intro pins s σ H x y v u Q I rx ry h
  obtain ⟨a, C, dx, fs, rfl, ha, hs, q⟩ := h
  cases (show u = Value.ref a from ry)
  obtain ⟨mA, J, _⟩ := ins_get I.hok ha
  obtain ⟨od, J, _⟩ := J.look
  obtain ⟨m, hF⟩ := I.fr
  refine PySem.W.notIn_K hF I.ok.mod.kin J hs hf ?_
  have r2 : Vals [V.ref a, x] [Value.ref a, v] := .cons rfl (.cons rx .nil)
  refine thn (wpAny_call (run_fnR F hr hx I r2 q)) fun w' s' ⟨z, H', I', rz, r, ez, q'⟩ => ?_
  subst ez
  cases rz
  exact wpAny_truthy_bool ⟨.bl (!r), H', I', rfl, q'⟩
end
/-! ### the same in a comprehension's block -/
section
variable {X : Cx} {P : Program} {w : World} {K : PySem.W.Frag} {mg : Str → Option Value} {base : Heap} {CX : CXT} {n : Nat} {f : Addr} {sp : Sp} {E : XK} {A : Around}
theorem op_inOK (F : FnR P w K mg base CX n f sp) (hf : PySem.W.isFn K (.ref f) = true) (hr : Room n A) (hP : X.prog = P) (hw : X.w = w) (hK : X.K = K) (hmg : X.mg = mg) (hb : X.base = base) (hA : X.A = A) (hx : Passes CX X E) : OpR X (compareOp .In) (rInO K false f sp E) := by
  subst hP hw hK hmg hb hA
  exact op_inO F hf hr hx
theorem op_notInOK (F : FnR P w K mg base CX n f sp) (hf : PySem.W.isFn K (.ref f) = true) (hr : Room n A) (hP : X.prog = P) (hw : X.w = w) (hK : X.K = K) (hmg : X.mg = mg) (hb : X.base = base) (hA : X.A = A) (hx : Passes CX X E) : OpR X (compareOp .NotIn) (rInO K true f sp E) := by
  subst hP hw hK hmg hb hA
  exact op_notInO F hf hr hx
end
section
variable {X : Cx} {K : PySem.W.Frag} {e : PySem.Expr} {te : TE} {f : Str} {pos : Pos}
theorem op_in_seqK (hK : X.K = K) : OpR X (compareOp .In) (rIn K false) := by subst hK; exact op_in_seq
theorem op_notIn_seqK (hK : X.K = K) : OpR X (compareOp .NotIn) (rIn K true) := by subst hK; exact op_notIn_seq
theorem cr_setTK {w : World} (hK : X.K = K) (hw : X.w = w) (hc : X.calm = true) : CallR X (.type "set") (rSetT K w) := by subst hK hw; exact cr_setT hc
theorem cr_sortTK {w : World} (hw : X.w = w) (hc : X.calm = true) : CallR X (.builtin "sorted") (rSortT w) := by subst hw; exact cr_sortT hc
theorem sl_listK (hK : X.K = K) : SlR X (rSlL K) := by subst hK; exact sl_list
theorem pe_fldK (hK : X.K = K) (he : PE X e te) (hab : attributeBase e f X.env (eval e X.env) = eval e X.env := by rfl) : PE X (.Attribute e f pos) (tFld K te f) := by subst hK; exact pe_fld he hab
end
/-! ### C(a = u, b = v), no positional argument -/
/-- the class under the module's name x, made by n arguments by position and others by name: gV puts them in the parameters' order -/
structure MkcN (P : Program) (w : World) (K : PySem.W.Frag) (mg : Str → Option Value) (base : Heap) (CX : CXT) (k : Nat) (C : Addr) (x : Str) (n : Nat) (ks : List Str) (gV : List V → List V → List V) (sp : Sp) : Prop where
  ex : ∃ f fd ps g, mg x = some (.ref C) ∧ Mk K C f ∧ FnOk P w K mg base CX k f fd ps sp ∧ KBn K fd ps (n + 1) ks g gV
section
variable {X : Cx} {CX : CXT} {k n : Nat} {C : Addr} {sp : Sp} {E : XK} {x : Str} {p pos : Pos} {e : PySem.Expr} {es : List PySem.Expr} {kws : List Keyword} {ks : List Str} {gV : List V → List V → List V} {t tk : TA}
theorem pe_mkN0 (c : MkcN X.prog X.w X.K X.mg X.base CX k C x 0 ks gV sp) (hr : Room (k + 1) X.A) (hg : Gl X x) (hx : Passes CX X E) (hkw : PK X kws tk)
    (hall : (backToKw pos (keywordEach kws X.env)).all (·.1.isSome) = true := by rfl) (hks : (backToKw pos (keywordEach kws X.env)).filterMap (·.1) = ks := by rfl)
    (hdb : (x == ("__debug__" : Str)) = false := by decide)
    (hpl : ((backTo pos (starEach [] X.env)).any (·.1) || (backToKw pos (keywordEach kws X.env)).any (·.1.isNone)) = false := by rfl) :
    PE X (.Call (.Name x p) [] kws pos) (tMakeN C 0 ks.length sp gV E tNil tk) := by
  obtain ⟨f, fd, ps, g, hm, M, F, hb⟩ := c.ex
  refine ⟨fun pins s σ H Q I h => ?_⟩
  refine wpAny_Call_Name_kw (ld_glob I hg hm ?_ hdb)
  refine PySem.W.callWith_KW0 (h₀ := X.base) I.ok.mod.kin M.kp hall ?_ hpl
  refine thn (hkw.run pos pins s σ H _ I h) fun ws s2 ⟨zs, H2, I2, rz, l1, l2, q2⟩ => ⟨I2.kIn, ?_⟩
  rw [hks]
  exact run_makeN (us := []) (vs := []) M F hr hb hx I2 .nil rz l1 l2 q2
theorem pe_mkN (c : MkcN X.prog X.w X.K X.mg X.base CX k C x n ks gV sp) (hr : Room (k + 1) X.A) (hg : Gl X x) (hx : Passes CX X E) (ha : PA X (e :: es) t) (hkw : PK X kws tk)
    (hall : (backToKw pos (keywordEach kws X.env)).all (·.1.isSome) = true := by rfl) (hks : (backToKw pos (keywordEach kws X.env)).filterMap (·.1) = ks := by rfl)
    (hdb : (x == ("__debug__" : Str)) = false := by decide) (he : starEach (e :: es) X.env = (false, eval e X.env) :: starEach es X.env := by rfl)
    (hpl : ((backTo pos (starEach (e :: es) X.env)).any (·.1) || (backToKw pos (keywordEach kws X.env)).any (·.1.isNone)) = false := by rfl) :
    PE X (.Call (.Name x p) (e :: es) kws pos) (tMakeN C n ks.length sp gV E t tk) := by
  obtain ⟨f, fd, ps, g, hm, M, F, hb⟩ := c.ex
  exact pe_makeN M F hr hg hm hb hx ha hkw hall hks hdb he hpl
end
theorem at_new {H : Hp} {D c : Addr} {o o' : HO} (hD : H D = none) (h : H c = some o) : upd H D o' c = some o := by rw [upd_ne (ne_of_none h hD)]; exact h
/-! ### a comprehension that changes nothing: f tells what an item gives, or that it is left out -/
section
variable {J : It} {G : Hp → Prop} {g : TG} {tt : TT} {te : TE} {vs : List Nat} {σ : L2.St} {H1 : Hp} {D : Addr} {Qd : Hp → Prop} {xs : List V}
theorem lc_pure (w : Walk J xs.length G (YAt xs)) (f : V → Option V) (hn : xs.length ≤ 100000) (hG : ∀ l, G (upd H1 D (.lst l)))
    (hs : ∀ (i : Nat) (x : V) (l : List V) (C : VK) (N : Hp → Prop), xs[i]? = some x → (∀ y, f x = some y → C y (upd H1 D (.lst l))) → (f x = none → N (upd H1 D (.lst l))) →
      g x (wipe σ vs) (upd H1 D (.lst l)) fun σ2 H2 => wipe σ2 vs = wipe σ vs ∧ tt σ2 H2 fun b H3 => if b = true then te σ2 H3 C else N H3)
    (hd : Qd (upd H1 D (.lst (xs.filterMap f)))) :
    ∃ W : Nat → Nat → Hp → Prop, (∃ m, W 0 m (upd H1 D (.lst []))) ∧ ∀ i m H, W i m H →
      (J.stop i H ∧ Qd H) ∨ (J.go i H ∧ ∃ Nx : Hp → Prop, (∀ H', Nx H' → ∃ m', m' < m ∧ W (i + 1) m' H') ∧ ∀ x H', J.yld i H x H' → g x (wipe σ vs) H' fun σ2 H2 => wipe σ2 vs = wipe σ vs ∧ tt σ2 H2 fun b H3 =>
        if b = true then te σ2 H3 fun y H4 => ∃ acc, H4 D = some (.lst acc) ∧ acc.length < sizeLine ∧ Nx (upd H4 D (.lst (acc ++ [y]))) else Nx H3) := by
  have h4 : sizeLine = 16777216 := sizeLine_eq
  refine lc_it w (fun i Hx => Hx = upd H1 D (.lst ((xs.take i).filterMap f))) (by simp) (fun i Hx _ e => by rw [e]; exact hG _) ?_ ?_
  · rintro i x Hx H' hi rfl ⟨rfl, hx⟩
    have tk : xs.take (i + 1) = xs.take i ++ [x] := by rw [List.take_add_one, hx]; rfl
    refine hs i x _ _ _ hx (fun y hy => ?_) fun hy => ?_
    · refine ⟨_, upd_same, ?_, ?_⟩
      · have h1 := List.length_filterMap_le f (xs.take i)
        have h2 := List.length_take_le i xs
        omega
      · rw [upd_upd, tk, List.filterMap_append]
        simp [hy]
    · rw [tk, List.filterMap_append]
      simp [hy]
  · rintro Hx rfl
    rw [List.take_length]
    exact hd
theorem lc_strs {zs : List Str} (w : Walk J (zs.map V.str).length G (YAt (zs.map V.str))) (p : Str → Option V) (hn : zs.length ≤ 100000) (hG : ∀ l, G (upd H1 D (.lst l)))
    (hs : ∀ (i : Nat) (z : Str) (l : List V) (C : VK) (N : Hp → Prop), zs[i]? = some z → (∀ y, p z = some y → C y (upd H1 D (.lst l))) → (p z = none → N (upd H1 D (.lst l))) →
      g (.str z) (wipe σ vs) (upd H1 D (.lst l)) fun σ2 H2 => wipe σ2 vs = wipe σ vs ∧ tt σ2 H2 fun b H3 => if b = true then te σ2 H3 C else N H3)
    (hd : Qd (upd H1 D (.lst (zs.filterMap p)))) :
    ∃ W : Nat → Nat → Hp → Prop, (∃ m, W 0 m (upd H1 D (.lst []))) ∧ ∀ i m H, W i m H →
      (J.stop i H ∧ Qd H) ∨ (J.go i H ∧ ∃ Nx : Hp → Prop, (∀ H', Nx H' → ∃ m', m' < m ∧ W (i + 1) m' H') ∧ ∀ x H', J.yld i H x H' → g x (wipe σ vs) H' fun σ2 H2 => wipe σ2 vs = wipe σ vs ∧ tt σ2 H2 fun b H3 =>
        if b = true then te σ2 H3 fun y H4 => ∃ acc, H4 D = some (.lst acc) ∧ acc.length < sizeLine ∧ Nx (upd H4 D (.lst (acc ++ [y]))) else Nx H3) := by
  refine lc_pure w (fun x => match x with | .str z => p z | _ => none) (by rw [List.length_map]; exact hn) hG (fun i x l C N hx hC hN => ?_) ?_
  · rw [List.getElem?_map] at hx
    obtain ⟨z, hz, rfl⟩ := Option.map_eq_some_iff.mp hx
    exact hs i z l C N hz hC hN
  · rw [List.filterMap_map]
    exact hd
/-- the heap may grow; what each turn gives is known -/
theorem lc_det {n : Nat} {Y : Nat → Hp → V → Hp → Prop} (w : Walk J n G Y) (ys : List V) (hl : ys.length = n) (hn : n ≤ 100000) (hD : H1 D = none) (hG : ∀ H, Ext H1 H → G H)
    (hs : ∀ (i : Nat) (x : V) (H H' : Hp) (C : VK), i < n → Ext H1 H → Y i H x H' → (∀ y H4, Ext H H4 → ys[i]? = some y → C y H4) → g x (wipe σ vs) H' fun σ2 H2 => wipe σ2 vs = wipe σ vs ∧ te σ2 H2 C)
    (hd : ∀ H, Ext H1 H → H D = some (.lst ys) → Qd H) :
    ∃ W : Nat → Nat → Hp → Prop, (∃ m, W 0 m (upd H1 D (.lst []))) ∧ ∀ i m H, W i m H →
      (J.stop i H ∧ Qd H) ∨ (J.go i H ∧ ∃ Nx : Hp → Prop, (∀ H', Nx H' → ∃ m', m' < m ∧ W (i + 1) m' H') ∧ ∀ x H', J.yld i H x H' → g x (wipe σ vs) H' fun σ2 H2 => wipe σ2 vs = wipe σ vs ∧ tYes σ2 H2 fun b H3 =>
        if b = true then te σ2 H3 fun y H4 => ∃ acc, H4 D = some (.lst acc) ∧ acc.length < sizeLine ∧ Nx (upd H4 D (.lst (acc ++ [y]))) else Nx H3) := by
  have ex : ∀ {H : Hp}, Ext (hid [D] H1) (hid [D] H) → Ext H1 H := fun {H} e b o q => Ext.at' e (by simpa using ne_of_none q hD) q
  refine lc_map w [D] (by simp) (fun _ => True) (fun j y _ => ys[j]? = some y) hn (fun _ _ _ _ _ h => h) (fun _ _ _ => trivial) trivial (fun H e _ => hG H (ex e)) ?_ ?_
  · intro i x H H' acc C hi e _ hDs y hC
    exact hs i x H H' C hi (ex e) y fun y H4 e4 hy => hC y H4 (e4 _ _ hDs) (hid_mono e4) trivial hy
  · intro H zs e _ hDs hl' hz
    have : zs = ys := by
      refine List.ext_getElem? fun j => ?_
      cases q : zs[j]? with
      | none =>
        have := List.getElem?_eq_none_iff.mp q
        symm
        rw [List.getElem?_eq_none_iff]
        omega
      | some y => exact (hz j y q).symm
    subst this
    exact hd H (ex e) hDs
end
end Ls
end
section
set_option Elab.async false
set_option autoImplicit false
set_option linter.all false
set_option maxRecDepth 100000
set_option maxHeartbeats 4000000
namespace Ls
open PySem PySem.Spec PyProof.Rows L2
/-! ### d[k] = v as a target of several -/
def rSetD : L2.TSet := fun o i v H Q => ∃ a H', o = .ref a ∧ DPut H a i v H' ∧ Q H'
theorem set_dict {X : Cx} (hu : X.A.units + 1 < cLine) : PSet X rSetD := by
  intro pins s σ H o i v ov iv u Q I ro ri rv h
  obtain ⟨a, H', rfl, g, q⟩ := h
  cases (show ov = Value.ref a from ro)
  exact d_setItem hu I g ri rv fun s' I' => ⟨H', I', q⟩
/-! ### y in d, y not in d, as an operator -/
def rInD (neg : Bool) : R2 := fun y x H Q => ∃ a o, x = .ref a ∧ DGet H a y o ∧ Q (.bl (if neg then !o.isSome else o.isSome)) H
theorem op_inD {X : Cx} (hu : X.A.units + 1 < cLine) : OpR X (compareOp .In) (rInD false) := by
  intro pins s σ H x y v u Q I rx ry h
  obtain ⟨a, o, rfl, g, q⟩ := h
  cases (show u = Value.ref a from ry)
  exact d_in hu I g rx fun s' I' => ⟨.bl o.isSome, H, I', rfl, q⟩
theorem op_notInD {X : Cx} (hu : X.A.units + 1 < cLine) : OpR X (compareOp .NotIn) (rInD true) := by
  intro pins s σ H x y v u Q I rx ry h
  obtain ⟨a, o, rfl, g, q⟩ := h
  cases (show u = Value.ref a from ry)
  exact d_notIn hu I g rx fun s' I' => ⟨.bl (!o.isSome), H, I', rfl, q⟩
/-! ### *d in a display: the keys of a dict -/
def keysV (kvs : List (Key × V)) : List V := kvs.map fun kv => kV kv.1
section
variable {X : Cx} {pins : List (Addr × Obj)} {σ : L2.St} {H : Hp} {s : Shared}
theorem star_dict {a : Addr} {kvs : List (Key × V)} {E : Value → Shared → Prop} {Q : List Value → Shared → Prop} (hc : X.calm = true) (I : Inv X pins σ H s) (h : H a = some (.dK kvs)) (hQ : ∀ us s', Inv X pins σ H s' → Vals (keysV kvs) us → Q us s') : PySem.W.StarOf (model X.prog X.w) X.A E (.ref a) Q s := by
  obtain ⟨z, lo, vs, rk, hd⟩ := (show ObjOk X.prog X.w H s.heap a (.dK kvs) from I.hok a _ h)
  obtain ⟨ep, hat⟩ := hd.dictAt
  have hl : kvs.length = vs.length := Paired.length rk
  have hT : s.TypeIs (.ref a) "dict" := hd.typeIs
  have z2 : wpAny (model X.prog X.w) X.A (collect (.ref a)) Q E s := by
    refine PySem.W.kdu_collect (PySem.W.kdl_dict (knd := mixKind X.prog X.w) (kvs := vs) (ep := ep) lo) (I.ok.hd hc) hat (by rw [← hl]; exact z) fun h' tk acc hk hacc => ?_
    refine hQ acc.toList _ (I.kept (t' := tk) hk) ?_
    have el : acc.toList.length = acc.size := by simp
    refine vals_of_at (by rw [keysV, List.length_map, el, hacc.1, hl]) fun j x w h1 h2 => ?_
    obtain ⟨k, y, hky, hi⟩ := hacc.2 j w (by rw [← Array.getElem?_toList]; exact h2)
    have e1 : (kvs.map (·.1))[j]? = some k := by
      rw [KV.keys rk, List.getElem?_map, hky] <;> rfl
    have e2 : (keysV kvs)[j]? = some (kV k) := by
      have e3 : keysV kvs = (kvs.map (·.1)).map kV := by rw [List.map_map] <;> rfl
      rw [e3, List.getElem?_map, e1] <;> rfl
    rw [e2] at h1
    cases h1
    exact keyIs_rel hi
  unfold PySem.W.StarOf notIterableAtAll
  exact wpAny_bind (wpAny_specialOf hT PySem.F.slot_dict_iter.lookup (wpAny_pure ⟨rfl, z2⟩))
end
def tStarD (te : TE) (t : TA) : TA := fun σ H Q => te σ H fun x H1 => ∃ p kvs, x = V.ref p ∧ H1 p = some (.dK kvs) ∧ t σ H1 fun ys H2 => Q (keysV kvs ++ ys) H2
theorem pa_starD {X : Cx} {e : Expr} {es : List Expr} {te : TE} {t : TA} {p : Pos} (hc : X.calm = true) (he : PE X e te) (hr : PA X es t) (hs : starEach (.Starred e p :: es) X.env = (true, eval e X.env) :: starEach es X.env := by rfl) : PA X (.Starred e p :: es) (tStarD te t) := by
  refine ⟨fun pos pins s σ H Q I h => ?_⟩
  refine PySem.W.items_star (thn (he.run pins s σ H _ I h) fun v s1 ⟨y, H1, I1, ry, a, kvs, ey, hx, q⟩ => ?_) hs
  subst ey
  obtain rfl : v = Value.ref a := ry
  refine star_dict hc I1 hx fun us s2 I2 rv => ?_
  exact thn (hr.run pos pins s2 σ H1 _ I2 q) fun ws s3 ⟨vs, H3, I3, r3, q3⟩ => ⟨keysV kvs ++ vs, H3, I3, rv.append r3, q3⟩
/-! ### f(e, .., k = v, ..) -/
/-- the def under the module's name x, called by n arguments by position and others by name -/
structure CalN (P : Program) (w : World) (K : PySem.W.Frag) (mg : Str → Option Value) (base : Heap) (CX : CXT) (k : Nat) (x : Str) (n : Nat) (ks : List Str) (gV : List V → List V → List V) (sp : Sp) : Prop where
  ex : ∃ f fd ps g, mg x = some (.ref f) ∧ PySem.W.keepIn K (.ref f) = true ∧ FnOk P w K mg base CX k f fd ps sp ∧ KBn K fd ps n ks g gV
section
variable {X : Cx} {CX : CXT} {k n : Nat} {sp : Sp} {E : XK} {x : Str} {p pos : Pos} {e : PySem.Expr} {es : List PySem.Expr} {kws : List Keyword} {ks : List Str} {gV : List V → List V → List V} {t tk : TA}
theorem pe_calN (c : CalN X.prog X.w X.K X.mg X.base CX k x n ks gV sp) (hr : Room k X.A) (hg : Gl X x) (hx : Passes CX X E) (ha : PA X (e :: es) t) (hkw : PK X kws tk)
    (hall : (backToKw pos (keywordEach kws X.env)).all (·.1.isSome) = true := by rfl) (hks : (backToKw pos (keywordEach kws X.env)).filterMap (·.1) = ks := by rfl)
    (hdb : (x == ("__debug__" : Str)) = false := by decide) (he : starEach (e :: es) X.env = (false, eval e X.env) :: starEach es X.env := by rfl)
    (hpl : ((backTo pos (starEach (e :: es) X.env)).any (·.1) || (backToKw pos (keywordEach kws X.env)).any (·.1.isNone)) = false := by rfl) :
    PE X (.Call (.Name x p) (e :: es) kws pos) (tCallN n ks.length sp gV E t tk) := by
  obtain ⟨f, fd, ps, g, hm, kp, F, hb⟩ := c.ex
  exact pe_callN F hr hg hm kp hb hx ha hkw hall hks hdb he hpl
theorem pe_calN0 (c : CalN X.prog X.w X.K X.mg X.base CX k x 0 ks gV sp) (hr : Room k X.A) (hg : Gl X x) (hx : Passes CX X E) (hkw : PK X kws tk)
    (hall : (backToKw pos (keywordEach kws X.env)).all (·.1.isSome) = true := by rfl) (hks : (backToKw pos (keywordEach kws X.env)).filterMap (·.1) = ks := by rfl)
    (hdb : (x == ("__debug__" : Str)) = false := by decide)
    (hpl : ((backTo pos (starEach [] X.env)).any (·.1) || (backToKw pos (keywordEach kws X.env)).any (·.1.isNone)) = false := by rfl) :
    PE X (.Call (.Name x p) [] kws pos) (tCallN 0 ks.length sp gV E tNil tk) := by
  obtain ⟨f, fd, ps, g, hm, kp, F, hb⟩ := c.ex
  refine ⟨fun pins s σ H Q I h => ?_⟩
  refine wpAny_Call_Name_kw (ld_glob I hg hm ?_ hdb)
  refine PySem.W.callWith_KW0 (h₀ := X.base) I.ok.mod.kin kp hall ?_ hpl
  refine thn (hkw.run pos pins s σ H _ I h) fun ws s2 ⟨zs, H2, I2, rz, l1, l2, q2⟩ => ⟨I2.kIn, ?_⟩
  rw [hks]
  exact run_fnN (us := []) (vs := []) F hr hb hx I2 .nil rz l1 l2 q2
end
/-! ### f() -/
def tCl0 (sp : Sp) (E : XK) : TE := fun σ H Q => sp [] H Q E
theorem pe_cal0 {X : Cx} {CX : CXT} {k : Nat} {sp : Sp} {E : XK} {x : Str} {p pos : Pos} (c : Cal X.prog X.w X.K X.mg X.base CX k x sp) (hr : Room k X.A) (hg : Gl X x) (hx : Passes CX X E) (hd : (x == ("__debug__" : Str)) = false := by decide) : PE X (.Call (.Name x p) [] [] pos) (tCl0 sp E) := by
  obtain ⟨f, hm, hk, F⟩ := c.ex
  refine ⟨fun pins s σ H Q I h => ?_⟩
  refine wpAny_Call_Name_kw (ld_glob I hg hm ?_ hd)
  exact PySem.W.callWith_K0 I.kIn hk (wpAny_call (run_fnR (us := []) (vs := []) F hr hx I .nil h))
/-! ### o.m() -/
theorem pe_om0 {X : Cx} {CX : CXT} {k : Nat} {C : Addr} {m : Str} {sp : Sp} {E : XK} {o : PySem.Expr} {ta : TE} {apos pos : Pos} {pl : Sem Bool} (c : OwnM X.prog X.w X.K X.mg X.base CX k C m sp) (hr : Room k X.A) (he : PE X o ta) (hx : Passes CX X E)
    (ht : eval (.Call (.Attribute o m apos) [] [] pos) X.env = (do
      let ov ← eval o X.env
      standAt apos.atName
      let (f, first) ← holding [ov] (getMethod ov m pl)
      callWith pos f first (backTo pos (starEach [] X.env)) (backToKw pos (keywordEach [] X.env))) := by rfl) : PE X (.Call (.Attribute o m apos) [] [] pos) (tMethR C m sp E ta tNil) := by
  obtain ⟨f, h1, h2, F⟩ := c.ex
  refine ⟨fun pins s σ H Q I h => ?_⟩
  refine PySem.W.methodCall_KW (pl := pl) (thn (he.run pins s σ H _ I h) fun u s1 ⟨x, H1, I1, rx, a, dx, fs, ex, ea, l, q⟩ => ?_) ht
  subst ex
  obtain rfl : u = Value.ref a := rx
  refine getmeth_ok I1 ea h1 h2 l ?_
  exact PySem.W.callWith_K0 (first := [.ref a]) I1.kIn h2.kp (wpAny_call (run_fnR (us := [.ref a]) (vs := [.ref a]) F hr hx I1 (.cons rfl .nil) q))
/-! ### e or (), e or [] -/
def tOrNilT (K : PySem.W.Frag) (ta : TE) : TE := fun σ H Q => ta σ H fun x H1 => ∃ xs : List V, ((x = .non ∧ xs = []) ∨ ∃ t, x = .ref t ∧ SqT K H1 t xs) ∧ ∀ t H2, Ext H1 H2 → SqT K H2 t xs → Q (.ref t) H2
def tOrNilL (K : PySem.W.Frag) (ta : TE) : TE := fun σ H Q => ta σ H fun x H1 => ∃ xs : List V, ((x = .non ∧ xs = []) ∨ ∃ t, x = .ref t ∧ SqL K H1 t xs) ∧ ∀ t H2, Ext H1 H2 → SqL K H2 t xs → Q (.ref t) H2
section
variable {X : Cx} {K : PySem.W.Frag} {a : PySem.Expr} {ta : TE} {pos p0 : Pos} {k0 : Nat}
theorem pe_monoE {e : PySem.Expr} {t : TE} (h : PE X e t) : PE X e (fun σ H Q => ∃ Q0 : VK, t σ H Q0 ∧ ∀ x H1, Q0 x H1 → Q x H1) :=
  ⟨fun pins s σ H Q I ⟨Q0, h0, k⟩ => thn (h.run pins s σ H Q0 I h0) fun u s1 ⟨v, H1, I1, r, q⟩ => ⟨v, H1, I1, r, k _ _ q⟩⟩
theorem pe_orNilT (hK : X.K = K) (ha : PE X a ta) : PE X (.BoolOp .Or [a, .Tuple [] k0 p0] pos) (tOrNilT K ta) := by
  subst hK
  refine ⟨fun pins s σ H Q I h => (pe_orT (pe_monoE ha) (pe_one (pe_tup pa_nil))).run pins s σ H Q I ⟨_, h, ?_⟩⟩
  rintro x H1 ⟨xs, hx, k⟩
  have nil : xs = [] → tTup tNil σ H1 Q := fun e => ⟨(by show 0 ≤ sizeLine; decide), fun t nt => k t _ (Ext.upd nt) (by rw [e]; exact SqT.of upd_same)⟩
  rcases hx with ⟨rfl, e⟩ | ⟨t, rfl, ht⟩
  · exact ⟨false, rfl, by rw [if_neg Bool.false_ne_true]; exact nil e⟩
  · refine ⟨_, .inr (.inl ⟨xs, ht, rfl⟩), ?_⟩
    cases xs with
    | nil => exact nil rfl
    | cons y ys => exact k t H1 Ext.rfl' ht
theorem pe_orNilL (hK : X.K = K) (ha : PE X a ta) : PE X (.BoolOp .Or [a, .List [] p0] pos) (tOrNilL K ta) := by
  subst hK
  refine ⟨fun pins s σ H Q I h => (pe_orT (pe_monoE ha) (pe_one (pe_lst pa_nil))).run pins s σ H Q I ⟨_, h, ?_⟩⟩
  rintro x H1 ⟨xs, hx, k⟩
  have nil : xs = [] → tLst tNil σ H1 Q := fun e => ⟨(by show 0 ≤ sizeLine; decide), fun t nt => k t _ (Ext.upd nt) (by rw [e]; exact SqL.of upd_same)⟩
  rcases hx with ⟨rfl, e⟩ | ⟨t, rfl, ht⟩
  · exact ⟨false, rfl, by rw [if_neg Bool.false_ne_true]; exact nil e⟩
  · refine ⟨_, .inl ⟨xs, ht, rfl⟩, ?_⟩
    cases xs with
    | nil => exact nil rfl
    | cons y ys => exact k t H1 Ext.rfl' ht
end
/-! ### zip of two tuples -/
theorem walk_zipT {K : PySem.W.Frag} {a b : Addr} {xs ys : List V} {n : Nat} (h1 : xs.length = n) (h2 : ys.length = n) : Walk (RZ.ItzT K a b) n (fun H => SqT K H a xs ∧ SqT K H b ys) (YPair (fun i => xs[i]?) (fun i => ys[i]?)) := by
  refine ⟨fun i _ hi q => ⟨xs, ys, xs[i]'(by omega), ys[i]'(by omega), q.1, q.2, List.getElem?_eq_getElem _, List.getElem?_eq_getElem _⟩, fun _ q => ⟨xs, ys, q.1, q.2, .inl (by omega)⟩, fun i H v H' _ q y => ?_⟩
  obtain ⟨T, x, y, e1, e2, e3, e4, e5⟩ := y
  exact ⟨T, x, y, e1, e2, e3, e4 _ q.1, e5 _ q.2⟩
/-! ### the keys of a locked dict -/
theorem walk_keysV {d : Addr} {o : Obj} {kvs : List (Key × V)} {n : Nat} (hn : n = kvs.length) : Walk (Itk d o kvs) n (fun H => H d = some (.frz o (.dK kvs))) (YAt (keysV kvs)) := by
  subst hn
  refine walk_keys.mono (fun _ h => h) fun i H x H' hi _ y => ?_
  obtain ⟨e, k, v, h1, h2⟩ := y
  exact ⟨e, by rw [keysV, List.getElem?_map, h1, h2]; rfl⟩
/-- one item a turn of a list of texts; nothing else changes -/
theorem lc_str1 {J : It} {G : Hp → Prop} {g : TG} {te : TE} {vs : List Nat} {σ : L2.St} {H1 : Hp} {D : Addr} {Qd : Hp → Prop} {zs : List Str} (w : Walk J (zs.map V.str).length G (YAt (zs.map V.str))) (p : Str → V) (hn : zs.length ≤ 100000) (hG : ∀ l, G (upd H1 D (.lst l)))
    (hs : ∀ (i : Nat) (z : Str) (l : List V) (C : VK), zs[i]? = some z → C (p z) (upd H1 D (.lst l)) → g (.str z) (wipe σ vs) (upd H1 D (.lst l)) fun σ2 H2 => wipe σ2 vs = wipe σ vs ∧ te σ2 H2 C)
    (hd : Qd (upd H1 D (.lst (zs.map p)))) :
    ∃ W : Nat → Nat → Hp → Prop, (∃ m, W 0 m (upd H1 D (.lst []))) ∧ ∀ i m H, W i m H →
      (J.stop i H ∧ Qd H) ∨ (J.go i H ∧ ∃ Nx : Hp → Prop, (∀ H', Nx H' → ∃ m', m' < m ∧ W (i + 1) m' H') ∧ ∀ x H', J.yld i H x H' → g x (wipe σ vs) H' fun σ2 H2 => wipe σ2 vs = wipe σ vs ∧ tYes σ2 H2 fun b H3 =>
        if b = true then te σ2 H3 fun y H4 => ∃ acc, H4 D = some (.lst acc) ∧ acc.length < sizeLine ∧ Nx (upd H4 D (.lst (acc ++ [y]))) else Nx H3) :=
  lc_strs w (fun z => some (p z)) hn hG (fun i z l C N hz hC _ => hs i z l C hz (hC _ rfl)) (by rw [List.filterMap_eq_map']; exact hd)
theorem lock_back {H : Hp} {d D : Addr} {u f o : HO} (h : H d = some u) (hD : H D = none) : upd (upd (upd H d f) D o) d u = upd H D o := by
  have ne : d ≠ D := ne_of_none h hD
  funext b
  by_cases e : b = d
  · subst e
    rw [upd_same, upd_ne ne, h]
  · rw [upd_ne e]
    by_cases e2 : b = D
    · subst e2
      rw [upd_same, upd_same]
    · rw [upd_ne e2, upd_ne e2, upd_ne e]
/-! ### a comprehension of two fors: the heap may grow; what each inner turn gives is known -/
/-- the inner loop gives ys -/
def InnerOk (D : Addr) (g1 : TG) (te : TE) (vs1 : List Nat) (σ2 : L2.St) (J1 : It) (H4 : Hp) (ys : List V) : Prop := ∃ (n1 : Nat) (G1 : Hp → Prop) (Y1 : Nat → Hp → V → Hp → Prop), Walk J1 n1 G1 Y1 ∧ ys.length = n1 ∧
  (∀ H, Ext (hid [D] H4) (hid [D] H) → G1 H) ∧ ∀ (j : Nat) (x : V) (H H' : Hp) (C : VK), j < n1 → Ext (hid [D] H4) (hid [D] H) → (∃ acc, H D = some (.lst acc)) → Y1 j H x H' → (∀ y H7, Ext H H7 → ys[j]? = some y → C y H7) →
    g1 x (wipe σ2 vs1) H' fun σ3 H5 => wipe σ3 vs1 = wipe σ2 vs1 ∧ te σ3 H5 C
theorem lc2_det {J : It} {G : Hp → Prop} {n : Nat} {Y : Nat → Hp → V → Hp → Prop} {g : TG} {tt : TT} {wi1 : TI} {g1 : TG} {te : TE} {vs vs1 : List Nat} {σ : L2.St} {H1 : Hp} {D : Addr} {Qd : Hp → Prop}
    (w : Walk J n G Y) (yss : List (List V)) (hl : yss.length = n) (hz : yss.flatten.length ≤ 100000) (hD : H1 D = none) (hG : ∀ H, Ext H1 H → G H)
    (hs : ∀ (i : Nat) (x : V) (H H' : Hp) (ys : List V) (R : L2.St → It → Hp → Prop) (N : Hp → Prop), i < n → Ext H1 H → (∃ acc, H D = some (.lst acc)) → Y i H x H' → yss[i]? = some ys →
      (∀ σ2 J1 H4, Ext H H4 → InnerOk D g1 te vs1 σ2 J1 H4 ys → R σ2 J1 H4) → (ys = [] → ∀ H3, Ext H H3 → N H3) →
      g x (wipe σ vs) H' fun σ2 H2 => wipe σ2 vs = wipe σ vs ∧ tt σ2 H2 fun b H3 => if b = true then wi1 σ2 H3 (R σ2) else N H3)
    (hd : ∀ H, Ext H1 H → H D = some (.lst yss.flatten) → Qd H) :
    ∃ W : Nat → Nat → Hp → Prop, (∃ m, W 0 m (upd H1 D (.lst []))) ∧ ∀ i m H, W i m H →
      (J.stop i H ∧ Qd H) ∨ (J.go i H ∧ ∃ Nx : Hp → Prop, (∀ H', Nx H' → ∃ m', m' < m ∧ W (i + 1) m' H') ∧ ∀ x H', J.yld i H x H' → g x (wipe σ vs) H' fun σ2 H2 => wipe σ2 vs = wipe σ vs ∧ tt σ2 H2 fun b H3 =>
        if b = true then wi1 σ2 H3 fun J1 H4 => ∃ W1 : Nat → Nat → Hp → Prop, (∃ m, W1 0 m H4) ∧ ∀ j k H, W1 j k H →
          (J1.stop j H ∧ Nx H) ∨ (J1.go j H ∧ ∃ Nx1 : Hp → Prop, (∀ H', Nx1 H' → ∃ k', k' < k ∧ W1 (j + 1) k' H') ∧ ∀ x H', J1.yld j H x H' → g1 x (wipe σ2 vs1) H' fun σ3 H5 => wipe σ3 vs1 = wipe σ2 vs1 ∧ tYes σ3 H5 fun b H6 =>
            if b = true then te σ3 H6 fun y H7 => ∃ acc, H7 D = some (.lst acc) ∧ acc.length < sizeLine ∧ Nx1 (upd H7 D (.lst (acc ++ [y]))) else Nx1 H6)
        else Nx H3) := by
  have h4 : sizeLine = 16777216 := sizeLine_eq
  let Pv : Nat → Hp → Prop := fun i H => Ext H1 H ∧ H D = some (.lst (yss.take i).flatten)
  have e1 : ∀ {H : Hp} {o : HO}, Ext H1 H → Ext H1 (upd H D o) := fun {H o} e b u q => by rw [upd_ne (ne_of_none q hD)]; exact e b u q
  refine ⟨fun i m H => m = n - i ∧ i ≤ n ∧ Pv i H, ⟨n, by simp, Nat.zero_le _, e1 Ext.rfl', by simp [upd_same]⟩, ?_⟩
  rintro i m H ⟨rfl, hi, e, hDi⟩
  have q := hG H e
  by_cases hlt : i < n
  · have hy : yss[i]? = some yss[i] := List.getElem?_eq_getElem (by omega)
    generalize yss[i] = ys at hy
    have tk : yss.take (i + 1) = yss.take i ++ [ys] := by rw [List.take_add_one, hy]; rfl
    have fl : (yss.take (i + 1)).flatten = (yss.take i).flatten ++ ys := by rw [tk, List.flatten_append]; simp
    have cut : ((yss.take i).flatten ++ ys).length ≤ yss.flatten.length := by
      rw [← fl]
      have : yss.flatten = (yss.take (i + 1)).flatten ++ (yss.drop (i + 1)).flatten := by rw [← List.flatten_append, List.take_append_drop]
      rw [this, List.length_append]
      omega
    refine .inr ⟨w.goes i H hlt q, Pv (i + 1), fun H' p' => ⟨n - (i + 1), by omega, rfl, hlt, p'⟩, fun x H' y => ?_⟩
    refine hs i x H H' ys _ _ hlt e ⟨_, hDi⟩ (w.yields i H x H' hlt q y) hy (fun σ2 J1 H4 e4 ok => ?_) (fun hn H3 e3 => ⟨e.trans e3, by rw [fl, hn, List.append_nil]; exact e3 _ _ hDi⟩)
    obtain ⟨n1, G1, Y1, w1, hl1, hG1, hs1⟩ := ok
    have hD4 := e4 _ _ hDi
    refine ⟨fun j k H => k = n1 - j ∧ j ≤ n1 ∧ Ext (hid [D] H4) (hid [D] H) ∧ H D = some (.lst ((yss.take i).flatten ++ ys.take j)), ⟨n1, by simp, Nat.zero_le _, Ext.rfl', by simpa using hD4⟩, ?_⟩
    rintro j k H5 ⟨rfl, hj, e5, hD5⟩
    have q5 := hG1 H5 e5
    have x1 : ∀ {H : Hp}, Ext (hid [D] H4) (hid [D] H) → Ext H1 H := fun {H} e' b o z => Ext.at' e' (by simpa using ne_of_none z hD) (e4 _ _ (e _ _ z))
    by_cases hltj : j < n1
    · refine .inr ⟨w1.goes j H5 hltj q5, fun H => Ext (hid [D] H4) (hid [D] H) ∧ H D = some (.lst ((yss.take i).flatten ++ ys.take (j + 1))), fun H' p' => ⟨n1 - (j + 1), by omega, rfl, hltj, p'⟩, fun x2 H6 y2 => ?_⟩
      refine hs1 j x2 H5 H6 _ hltj e5 ⟨_, hD5⟩ (w1.yields j H5 x2 H6 hltj q5 y2) fun y7 H7 e7 hy7 => ?_
      have hD7 := e7 _ _ hD5
      refine ⟨_, hD7, ?_, ?_, ?_⟩
      · have := List.length_take_le j ys
        rw [List.length_append] at cut ⊢
        omega
      · rw [hid_upd (by simp)]
        exact e5.trans (hid_mono e7)
      · rw [upd_same, List.append_assoc, List.take_add_one, hy7]
        rfl
    · have : j = n1 := by omega
      subst this
      refine .inl ⟨w1.stops H5 q5, x1 e5, ?_⟩
      rw [hD5, fl, ← hl1, List.take_length]
  · have : i = n := by omega
    subst this
    refine .inl ⟨w.stops H q, hd H e ?_⟩
    rw [hDi, ← hl, List.take_length]
/-- no test at the outer for -/
theorem lc2_det1 {J : It} {G : Hp → Prop} {n : Nat} {Y : Nat → Hp → V → Hp → Prop} {g : TG} {wi1 : TI} {g1 : TG} {te : TE} {vs vs1 : List Nat} {σ : L2.St} {H1 : Hp} {D : Addr} {Qd : Hp → Prop}
    (w : Walk J n G Y) (yss : List (List V)) (hl : yss.length = n) (hz : yss.flatten.length ≤ 100000) (hD : H1 D = none) (hG : ∀ H, Ext H1 H → G H)
    (hs : ∀ (i : Nat) (x : V) (H H' : Hp) (ys : List V) (R : L2.St → It → Hp → Prop), i < n → Ext H1 H → (∃ acc, H D = some (.lst acc)) → Y i H x H' → yss[i]? = some ys →
      (∀ σ2 J1 H4, Ext H H4 → InnerOk D g1 te vs1 σ2 J1 H4 ys → R σ2 J1 H4) →
      g x (wipe σ vs) H' fun σ2 H2 => wipe σ2 vs = wipe σ vs ∧ wi1 σ2 H2 (R σ2))
    (hd : ∀ H, Ext H1 H → H D = some (.lst yss.flatten) → Qd H) :
    ∃ W : Nat → Nat → Hp → Prop, (∃ m, W 0 m (upd H1 D (.lst []))) ∧ ∀ i m H, W i m H →
      (J.stop i H ∧ Qd H) ∨ (J.go i H ∧ ∃ Nx : Hp → Prop, (∀ H', Nx H' → ∃ m', m' < m ∧ W (i + 1) m' H') ∧ ∀ x H', J.yld i H x H' → g x (wipe σ vs) H' fun σ2 H2 => wipe σ2 vs = wipe σ vs ∧ tYes σ2 H2 fun b H3 =>
        if b = true then wi1 σ2 H3 fun J1 H4 => ∃ W1 : Nat → Nat → Hp → Prop, (∃ m, W1 0 m H4) ∧ ∀ j k H, W1 j k H →
          (J1.stop j H ∧ Nx H) ∨ (J1.go j H ∧ ∃ Nx1 : Hp → Prop, (∀ H', Nx1 H' → ∃ k', k' < k ∧ W1 (j + 1) k' H') ∧ ∀ x H', J1.yld j H x H' → g1 x (wipe σ2 vs1) H' fun σ3 H5 => wipe σ3 vs1 = wipe σ2 vs1 ∧ tYes σ3 H5 fun b H6 =>
            if b = true then te σ3 H6 fun y H7 => ∃ acc, H7 D = some (.lst acc) ∧ acc.length < sizeLine ∧ Nx1 (upd H7 D (.lst (acc ++ [y]))) else Nx1 H6)
        else Nx H3) :=
  lc2_det w yss hl hz hD hG (fun i x H H' ys R N hi e a y hy kR _ => hs i x H H' ys R hi e a y hy kR) hd
end Ls
end
section
set_option Elab.async false
set_option autoImplicit false
set_option linter.all false
set_option maxRecDepth 100000
set_option maxHeartbeats 4000000
namespace Ls
open PySem PySem.Spec PyProof.Rows L2 HT
/-! ### t[::-1], t a tuple -/
section
variable {prog : PySem.Program} {w : World} {A : Around} {E : Value → Shared → Prop} {s : Shared}
theorem fm_congr {α β : Type} {f g : α → Option β} : ∀ {l : List α}, (∀ x ∈ l, f x = g x) → l.filterMap f = l.filterMap g
  | [], _ => rfl
  | a :: l, h => by rw [List.filterMap_cons, List.filterMap_cons, h a (by simp), fm_congr fun x hx => h x (List.mem_cons_of_mem _ hx)]
theorem places_rev (n : Nat) : Builtin.Slice.slicePlaces ((n : Int) - 1) (-1) (-1) = n := by
  unfold Builtin.Slice.slicePlaces
  have h1 : ¬ ((-1 : Int) > 0) := by decide
  rw [if_neg h1]
  by_cases h : (n : Int) - 1 > -1
  · rw [if_pos h, show (-(-1) : Int) = 1 from rfl, Int.ediv_one]
    omega
  · rw [if_neg h]
    omega
theorem sliceApplied_rev {sl : Addr} {vl vu vs : Value} {n : Nat} {Q : Int × Int × Nat → Shared → Prop} (hs : s.heap.IsSliceOf sl vl vu vs) (pl : IsPart vl none) (pu : IsPart vu none) (ps : IsPart vs (some (-1)))
    (h : Q ((n : Int) - 1, -1, n) s) : wpAny (model prog w) A (Builtin.Slice.sliceApplied (.ref sl) (pure (n : Int))) Q E s := by
  obtain ⟨os, hos, hcs, hds⟩ := id hs
  unfold Builtin.Slice.sliceApplied Builtin.Slice.sliceFields
  refine wpAny_bind (wpAny_bind (wpAny_field hos hds (x := vl) rfl (wpAny_bind (wpAny_field hos hds (x := vu) rfl (wpAny_bind (wpAny_field hos hds (x := vs) rfl (wpAny_pure ?_)))))))
  refine wpAny_bind (slicePart_ ps ?_)
  show wpAny _ _ (if ((-1 : Int) == 0) = true then _ else _) _ _ s
  rw [if_neg (by decide)]
  refine wpAny_bind (slicePart_ pl (wpAny_bind (slicePart_ pu (wpAny_bind (wpAny_pure ?_)))))
  show wpAny _ _ (pure ((n : Int) - 1, (-1 : Int), Builtin.Slice.slicePlaces ((n : Int) - 1) (-1) (-1))) _ _ s
  rw [places_rev]
  exact wpAny_pure h
theorem pick_rev (xs : Array Value) : ((List.range xs.size).filterMap fun (m : Nat) => xs[((xs.size : Int) - 1 + (m : Int) * -1).toNat]?).toArray = xs.toList.reverse.toArray := by
  have e : (List.range xs.size).filterMap (fun (m : Nat) => xs[((xs.size : Int) - 1 + (m : Int) * -1).toNat]?) = ((List.range xs.size).map fun k => xs.size - 1 - k).filterMap (xs[·]?) := by
    rw [List.filterMap_map]
    refine fm_congr fun m hm => ?_
    have := List.mem_range.mp hm
    show xs[((xs.size : Int) - 1 + (m : Int) * -1).toNat]? = xs[xs.size - 1 - m]?
    rw [show ((xs.size : Int) - 1 + (m : Int) * -1).toNat = xs.size - 1 - m by omega]
  rw [e, PySem.W.krv_range, List.filterMap_reverse, PySem.W.krv_all]
theorem getItem_tuple_rev {t sl : Addr} {items : Array Value} {vl vu vs : Value} {Q : Value → Shared → Prop} (ht : IsTup s.heap t items) (hs : s.heap.IsSliceOf sl vl vu vs) (pl : IsPart vl none) (pu : IsPart vu none) (ps : IsPart vs (some (-1)))
    (h : Q (.ref s.heap.objs.size) { s with heap := s.heap.push { cls := .type "tuple", data := .seq items.toList.reverse.toArray } })
    (hsz : items.size ≤ sizeLine) : wpAny (model prog w) A (getItem (.ref t) (.ref sl)) Q E s := by
  have htake : sizeOk (.seq items.toList.reverse.toArray) := by
    show items.toList.reverse.toArray.size ≤ sizeLine
    rw [List.size_toArray, List.length_reverse, Array.length_toList]
    exact hsz
  obtain ⟨os, hos, hcs, hds⟩ := id hs
  have hTs : s.TypeIs (.ref sl) "slice" := ⟨os, hos, hcs⟩
  unfold getItem
  try with_reducible refine wpAny_holding ?_
  first | refine wpAny_bind (wpAny_pure ?_) | skip
  refine wpAny_bind (wpAny_sequenceKey ht.typeIs (by decide) ?_)
  refine wpAny_bind (wpAny_callSpecial?_slot (name := Str.ofString "__getitem__") ht.typeIs PyProof.Rows.slot_tuple_getitem
    (wpAny_call_entry PyProof.Rows.slot_tuple_getitem ht.typeIs entry_tuple_getitem ?_ (args_tuple_getitem _ _)))
  show wpAny _ _ (Builtin.Tuple.tupleItemsOf (.ref t) >>= _) _ _ s
  refine wpAny_bind (tupleItemsOf_ ht ?_)
  refine wpAny_bind (wpAny_typeOf hTs ?_)
  rw [if_pos (by decide)]
  refine wpAny_bind (sliceApplied_rev hs pl pu ps ?_)
  have hno : ¬ ((((items.size : Int) - 1) == 0 && (-1 : Int) == 1 && items.size == items.size) = true) := by
    intro q
    rw [Bool.and_eq_true, Bool.and_eq_true] at q
    exact absurd q.1.2 (by decide)
  show wpAny _ _ (if (((items.size : Int) - 1) == 0 && (-1 : Int) == 1 && items.size == items.size) = true then _ else _) _ _ s
  rw [if_neg hno, pick_rev]
  first
    | exact wpAny_bind (m := Builtin.Tuple.tupleExact _) (wpAny_newObj_type (wpAny_pure ⟨_, rfl, wpAny_pure h⟩) htake)
    | exact wpAny_bind (m := Builtin.Tuple.tupleExact _) (wpAny_newObj_type (wpAny_bind (wpAny_pure (wpAny_pure ⟨_, rfl, wpAny_pure h⟩))) htake)
    | exact wpAny_bind (wpAny_bind (m := Builtin.Tuple.tupleExact _) (wpAny_newObj_type (wpAny_pure (wpAny_pure ⟨_, rfl, wpAny_pure h⟩)) htake))
    | exact wpAny_bind (wpAny_bind (m := Builtin.Tuple.tupleExact _) (wpAny_newObj_type (wpAny_pure ⟨_, rfl, wpAny_pure h⟩) htake))
end
def tRevT (K : PySem.W.Frag) (te : TE) : TE := fun σ H Q => te σ H fun x H1 => ∃ a xs, x = .ref a ∧ SqT K H1 a xs ∧ ∀ p, H1 p = none → Q (.ref p) (upd H1 p (.tup xs.reverse))
theorem pe_revT {X : Cx} {e : PySem.Expr} {te : TE} {k : Nat} {p1 p2 p3 pos : Pos} (he : PE X e te) : PE X (.Subscript e (.Slice none none (some (.UnaryOp .USub (.Constant (.int 1) k p1) p2)) p3) pos) (tRevT X.K te) := by
  refine ⟨fun pins s σ H Q I h => ?_⟩
  refine Subscript_ (thn (he.run pins s σ H _ I h) fun v s1 ⟨x, H1, I1, r1, q1⟩ => ?_)
  obtain ⟨a, xs, ex, hx, q⟩ := q1
  subst ex
  cases r1
  have hst : PO X (some (.UnaryOp .USub (.Constant (.int 1) k p1) p2)) (tPart (tUn (rU fun i => .int (-i)) (tC (.int 1)))) := po_some (pe_un un_neg pe_int)
  refine wpAny_Slice (thn (po_none.run pins s1 σ H1 (fun o H2 => o = none ∧ H2 = H1) I1 ⟨rfl, rfl⟩) fun vl s2 ⟨l, H2, I2, pl, el, e2⟩ => ?_)
  subst el e2
  refine thn (po_none.run pins s2 σ H2 (fun o H3 => o = none ∧ H3 = H2) I2 ⟨rfl, rfl⟩) fun vu s3 ⟨u, H3, I3, pu, eu, e3⟩ => ?_
  subst eu e3
  refine thn (hst.run pins s3 σ H3 (fun o H4 => o = some (-1) ∧ H4 = H3) I3 ⟨1, rfl, -1, rfl, rfl, rfl⟩) fun vs s4 ⟨o, H4, I4, ps, eo, e4⟩ => ?_
  subst eo e4
  have I5 : Inv X pins σ H4 { s4 with heap := s4.heap.push { cls := .type "slice", data := .fields #[vl, vu, vs] } } := I4.kept (t' := s4.toks) fun b ob q => Heap.get?_push_of_some _ q
  obtain ⟨its, r, ht, hz⟩ := I5.tuple hx
  have hlen := r.length
  show wpAny (model X.prog X.w) X.A (subscriptTail e (.Slice none none (some (.UnaryOp .USub (.Constant (.int 1) k p1) p2)) p3) (.ref a) (.ref s4.heap.objs.size)) (EP X pins σ Q) X.xe { s4 with heap := s4.heap.push { cls := .type "slice", data := .fields #[vl, vu, vs] } }
  refine tail_any (ops := [.ref a, .ref s4.heap.objs.size]) ht.typeIs (PyProof.Rows.slot_tuple_getitem.lookup) ?_ (by with_unfolding_all rfl)
  refine getItem_tuple_rev ht (Heap.IsSliceOf.new _ vl vu vs) pl pu ps ?_ (by rw [List.size_toArray]; omega)
  refine ⟨.ref _, _, I5.laid (t' := s4.toks) (o := .tup xs.reverse) (fun b ob q => Heap.get?_push_of_some _ q) (Nat.le_refl _) ?_, rfl, q _ (I5.hok.fresh (Nat.le_refl _))⟩
  exact ⟨by rw [List.length_reverse]; exact hz, _, r.reverse, IsTup.new _ _⟩
end Ls
end
section
set_option Elab.async false
set_option linter.all false
set_option maxRecDepth 100000
set_option maxHeartbeats 4000000
namespace K33
open PySem PySem.Spec PyProof.Rows L2 Ls
open C8 (pss_cut tCut)
open TL
def top (i : Nat) : Stmt := PySem.Challenge.pw_loopstow_k33_needed_in_loops.main.body.getD i (.Pass ⟨0, 0, 0, 0⟩)
def inClass (s : Stmt) (j : Nat) : Stmt := match s with
  | .ClassDef _ _ _ body .. => body.getD j (.Pass ⟨0, 0, 0, 0⟩)
  | _ => .Pass ⟨0, 0, 0, 0⟩
def bns : List Str := ["len", "bool", "int", "abs", "list", "str", "isinstance", "all", "range", "tuple", "super", "repr", "set", "sorted", "enumerate", "zip", "dict", "min", "max", "ValueError"]
def lettersS : Str := "abcdefghijklmnopqrstuvwxyz"
def partsS : List Str := ["ahead", "loop", "between", "second", "behind"]
/-- what the top has left, for the defs -/
structure Tx (K : PySem.W.Frag) (mg : Str → Option Value) (CE CD CU CM CO CP tP : Addr) (tk : Str → Tok) : Prop where
  bn : ∀ x ∈ bns, mg x = none
  m_LETTERS : mg "LETTERS" = some (.str lettersS (tk "LETTERS"))
  m_LONGEST_NAME : mg "LONGEST_NAME" = some (.int 6 (tk "LONGEST_NAME"))
  m_MOST_USED : mg "MOST_USED" = some (.int 3 (tk "MOST_USED"))
  m_MOST_AHEAD : mg "MOST_AHEAD" = some (.int 200 (tk "MOST_AHEAD"))
  m_MOST_DEEDS : mg "MOST_DEEDS" = some (.int 24 (tk "MOST_DEEDS"))
  m_MOST_NAMES : mg "MOST_NAMES" = some (.int 6 (tk "MOST_NAMES"))
  m_MOST_PRICE : mg "MOST_PRICE" = some (.int 9 (tk "MOST_PRICE"))
  m_PARTS : mg "PARTS" = some (.ref tP)
  parts : ∀ H, SqT K H tP (partsS.map V.str)
  pob : ∃ o, K.lookup tP = some o ∧ o.cls = .type "tuple" ∧ o.dict = none
  m_StowError : mg "StowError" = some (.ref CE)
  m_Deed : mg "Deed" = some (.ref CD)
  m_Use : mg "Use" = some (.ref CU)
  m_Make : mg "Make" = some (.ref CM)
  m_Do : mg "Do" = some (.ref CO)
  m_Program : mg "Program" = some (.ref CP)
/-! ### the pen -/
/-- a pen stands at p, its cells at c; at most n cells were read -/
def PenAt (H : Hp) (p c : Addr) (n : Nat) : Prop := ∃ (ns : List Int) (a r : Int), H p = some (.lst [.ref c, .int a, .int r]) ∧ H c = some (.lst (ns.map V.int)) ∧ p ≠ c ∧ 0 ≤ a ∧ a ≤ n ∧ 0 ≤ r ∧ ns.length ≤ 63
theorem PenAt.mono {H : Hp} {p c : Addr} {n m : Nat} (h : PenAt H p c n) (l : n ≤ m) : PenAt H p c m := let ⟨ns, a, r, h1, h2, h3, h4, h5, h6, h7⟩ := h; ⟨ns, a, r, h1, h2, h3, h4, by omega, h6, h7⟩
theorem PenAt.upd {H : Hp} {p c a : Addr} {n : Nat} {o : HO} (h : PenAt H p c n) (np : p ≠ a) (nc : c ≠ a) : PenAt (upd H a o) p c n := by
  obtain ⟨ns, b, r, h1, h2, h3⟩ := h
  exact ⟨ns, b, r, by rw [upd_ne np]; exact h1, by rw [upd_ne nc]; exact h2, h3⟩
theorem PenAt.ext {H H' : Hp} {p c : Addr} {n : Nat} (h : PenAt H p c n) (e : Ext H H') : PenAt H' p c n := by
  obtain ⟨ns, b, r, h1, h2, h3⟩ := h
  exact ⟨ns, b, r, e _ _ h1, e _ _ h2, h3⟩
theorem PenAt.ne {H : Hp} {p c a : Addr} {n : Nat} (h : PenAt H p c n) (ha : H a = none) : p ≠ a ∧ c ≠ a := by
  obtain ⟨ns, b, r, h1, h2, _⟩ := h
  exact ⟨ne_of_none h1 ha, ne_of_none h2 ha⟩
theorem PenAt.tabs {H H' : Hp} {p c : Addr} {n : Nat} {TT : List (Addr × Str)} (h : PenAt H p c n) (t : LamX.Tabs TT H) (k : Keep p c H H') : LamX.Tabs TT H' := by
  obtain ⟨ns, b, r, h1, h2, _⟩ := h
  exact tabs_keep t k h1 h2
theorem PenAt.extN {H H' : Hp} {p c : Addr} {n : Nat} (h : PenAt H p c n) (e : LamX.ExtN H H') : PenAt H' p c n := by
  obtain ⟨ns, b, r, h1, h2, h3⟩ := h
  exact ⟨ns, b, r, e _ _ h1 (fun ps z => nomatch z), e _ _ h2 (fun ps z => nomatch z), h3⟩
def spDraw : Sp := fun vs H Q _ => ∃ (p c : Addr) (n : Nat) (many : Int), vs = [.ref p, .int many] ∧ PenAt H p c n ∧ n < 1048576 ∧ 0 < many ∧ many < 1073741824 ∧
  ∀ (j : Int) (H' : Hp), 0 ≤ j → j < many → PenAt H' p c (n + 1) → Keep p c H H' → Q (.int j) H'
section
variable {P : PySem.Program} {w : World} {K : PySem.W.Frag} {mg : Str → Option Value} {base : Heap} {CE CD CU CM CO CP tP : Addr} {tk : Str → Tok}
abbrev s__law_draw : Stmt := top 67
abbrev N__law_draw : List Str := ["_law_pen_here", "_law_many", "_law_digit", "_law_at", "_law_cell", "_law_great", "_law_mixed"]
theorem sc__law_draw : FnScope N__law_draw ["_law_pen_here", "_law_many"] (defScope s__law_draw) := ⟨rfl, rfl, rfl, by decide +kernel, rfl, by decide +kernel, by decide +kernel⟩
theorem pow18 : ((10 : Int) ^ (18 : Int).toNat) = 1000000000000000000 := by decide +kernel
theorem ok_draw {f : Addr} {fd : FuncData} (F : Fun K "_law_draw" "_law_draw" s__law_draw f fd) (T : Tx K mg CE CD CU CM CO CP tP tk) : FnOk P w K mg base CX0 1 f fd ["_law_pen_here", "_law_many"] spDraw := by
  refine F.ok sc__law_draw (fun vs H Q E h => ?_) (fun cdv A outer s H vs Q E hr h => ?_)
  · obtain ⟨p, c, n, many, rfl, _⟩ := h
    rfl
  · obtain ⟨p, c, n, many, rfl, ⟨ns, a, r, hp, hc, npc, a0, an, r0, hz⟩, n1, m0, m1, k⟩ := h
    have hu := hu_of hr
    refine ⟨_, (pss_cons (ps_if (pt_cmpR op_gt (pe_ix ix_list (pv 0) pe_int (fun _ _ => rfl)) pe_int (nomark _)) (pss_cons (ps_set (i := 2) sc__law_draw.nd rfl (by first | exact Or.inl rfl | exact Or.inr rfl) (pe_op op_mod (pe_callTy call_int1 (by rfl) (T.bn _ (by decide +kernel)) (by decide +kernel) (pa_cons (pe_ix ix_list (pv 0) pe_int (fun _ _ => rfl)) pa_nil)) (pv 1)))
      (pss_cons (ps_asg (pe_op op_fdiv (pe_callTy call_int1 (by rfl) (T.bn _ (by decide +kernel)) (by decide +kernel) (pa_cons (pe_ix ix_list (pv 0) pe_int (fun _ _ => rfl)) pa_nil)) (pv 1)) (pg_sub (pv 0) pe_int set_list))
      (pss_one (ps_ret (pv 2))))) pss_nil)
      (pss_cons (ps_set (i := 3) sc__law_draw.nd rfl (by first | exact Or.inl rfl | exact Or.inr rfl) (pe_ix ix_list (pv 0) pe_int (fun _ _ => rfl)))
      (pss_cons (ps_asg (pe_op op_add (pv 3) pe_int) (pg_sub (pv 0) pe_int set_list))
      (pss_cons (ps_set (i := 4) sc__law_draw.nd rfl (by first | exact Or.inl rfl | exact Or.inr rfl) (pe_op op_add (pe_op op_mul pe_int (pv 3)) pe_int))
      (pss_cut (ps_if (pt_cmpR (op_neNil hr) (pe_ix ix_list (pv 0) pe_int (fun _ _ => rfl)) (pe_lst pa_nil) (nomark _)) (pss_one (ps_set (i := 4) sc__law_draw.nd rfl (by first | exact Or.inl rfl | exact Or.inr rfl) (pe_ix ix_list (pe_ix ix_list (pv 0) pe_int (fun _ _ => rfl)) (pe_op op_mod (pe_callTy call_int1 (by rfl) (T.bn _ (by decide +kernel)) (by decide +kernel) (pa_cons (pv 3) pa_nil)) (pe_callB call_len_seq (by rfl) (T.bn _ (by decide +kernel)) (by decide +kernel) (pa_cons (pe_ix ix_list (pv 0) pe_int (fun _ _ => rfl)) pa_nil))) (fun _ _ => rfl)))) pss_nil)
      (pss_cut (ps_if ((pw_and (pt_cmpR op_lt (pv 3) (pe_callB call_len_seq (by rfl) (T.bn _ (by decide +kernel)) (by decide +kernel) (pa_cons (pe_ix ix_list (pv 0) pe_int (fun _ _ => rfl)) pa_nil)) (nomark _)) (pw_and1 (pt_cmpR op_ge (pe_callB call_abs (by rfl) (T.bn _ (by decide +kernel)) (by decide +kernel) (pa_cons (pv 4) pa_nil)) (pe_op op_pow pe_int pe_int) (nomark _))))).pt (pss_cons (ps_set (i := 5) sc__law_draw.nd rfl (by first | exact Or.inl rfl | exact Or.inr rfl) (pe_op op_add (pe_op op_mul pe_int (pe_op op_sub (pe_callB call_abs (by rfl) (T.bn _ (by decide +kernel)) (by decide +kernel) (pa_cons (pv 4) pa_nil)) (pe_op op_pow pe_int pe_int))) (pe_callTy call_int1 (by rfl) (T.bn _ (by decide +kernel)) (by decide +kernel) (pa_cons (pe_cmpR op_lt (pv 4) pe_int (nomark _)) pa_nil))))
      (pss_cons (ps_asg (pe_op op_fdiv (pe_callTy call_int1 (by rfl) (T.bn _ (by decide +kernel)) (by decide +kernel) (pa_cons (pv 5) pa_nil)) (pv 1)) (pg_sub (pv 0) pe_int set_list))
      (pss_one (ps_ret (pe_op op_mod (pe_callTy call_int1 (by rfl) (T.bn _ (by decide +kernel)) (by decide +kernel) (pa_cons (pv 5) pa_nil)) (pv 1)))))) pss_nil)
      (pss_cons (ps_set (i := 6) sc__law_draw.nd rfl (by first | exact Or.inl rfl | exact Or.inr rfl) (pe_op op_mod (pe_callTy call_int1 (by rfl) (T.bn _ (by decide +kernel)) (by decide +kernel) (pa_cons (pe_op op_pow (pe_op op_add (pe_op op_add (pe_op op_mod (pe_callTy call_int1 (by rfl) (T.bn _ (by decide +kernel)) (by decide +kernel) (pa_cons (pv 4) pa_nil)) pe_int) (pe_op op_mul pe_int (pv 3))) pe_int) pe_int) pa_nil)) pe_int))
      (pss_cons (ps_set (i := 6) sc__law_draw.nd rfl (by first | exact Or.inl rfl | exact Or.inr rfl) (pe_op op_mod (pe_callTy call_int1 (by rfl) (T.bn _ (by decide +kernel)) (by decide +kernel) (pa_cons (pe_op op_pow (pe_op op_add (pe_op op_add (pe_op op_mul (pv 6) (pe_op op_add (pe_op op_mul pe_int (pv 3)) pe_int)) (pe_op op_mul (pe_op op_mul pe_int (pv 3)) (pv 3))) pe_int) pe_int) pa_nil)) pe_int))
      (pss_one (ps_ret (pe_op op_mod (pe_callTy call_int1 (by rfl) (T.bn _ (by decide +kernel)) (by decide +kernel) (pa_cons (pe_op op_fdiv (pv 6) pe_int) pa_nil)) (pv 1)))))))))))), ?_⟩
    refine ⟨_, rfl, p, _, 2, .int r, rfl, rfl, SqL.of hp, atI_nat (j := 2) rfl, r, 0, rfl, rfl, _, rfl, ?_⟩
    refine ite2 (fun hpos => ?_) (fun hno => ?_)
    · have hpos' : 0 < r := by simpa using hpos
      refine ⟨_, rfl, p, _, 2, .int r, rfl, rfl, SqL.of hp, atI_nat (j := 2) rfl, .inl ⟨r, rfl, _, rfl, _, _, rfl, rfl, m0, ?_⟩⟩
      refine ⟨_, rfl, p, _, 2, .int r, rfl, rfl, SqL.of hp, atI_nat (j := 2) rfl, .inl ⟨r, rfl, _, rfl, _, _, rfl, rfl, ⟨m0, m1⟩, ?_⟩⟩
      refine ⟨_, rfl, p, _, 2, 2, rfl, rfl, hp, rfl, ?_⟩
      refine ⟨_, rfl, k _ _ (Int.emod_nonneg _ (by omega)) (Int.emod_lt_of_pos _ m0) ⟨ns, a, r / many, upd_same, by rw [upd_ne npc.symm]; exact hc, npc, a0, by omega, Int.ediv_nonneg (by omega) (by omega), hz⟩ Keep.upd1⟩
    · refine ⟨_, rfl, p, _, 1, .int a, rfl, rfl, SqL.of hp, atI_nat (j := 1) rfl, ?_⟩
      refine ⟨_, rfl, _, _, rfl, rfl, ?_⟩
      refine ⟨_, rfl, p, _, 1, 1, rfl, rfl, hp, rfl, ?_⟩
      have hp1 : (upd H p (.lst [.ref c, .int (a + 1), .int r])) p = some (.lst [.ref c, .int (a + 1), .int r]) := upd_same
      have hc1 : (upd H p (.lst [.ref c, .int (a + 1), .int r])) c = some (.lst (ns.map V.int)) := by rw [upd_ne npc.symm]; exact hc
      have kp1 : Keep p c H (upd H p (.lst [.ref c, .int (a + 1), .int r])) := Keep.upd1
      refine ⟨_, rfl, _, _, rfl, rfl, .inl ⟨by decide, by decide⟩, _, _, rfl, rfl, ?_⟩
      -- behind the if: the cell is a number
      refine ⟨fun σ' H' => ∃ z : Int, σ' = [some (.ref p), some (.int many), none, some (.int a), some (.int z), none, none] ∧ H' p = some (.lst [.ref c, .int (a + 1), .int r]) ∧ H' c = some (.lst (ns.map V.int)) ∧ Keep p c H H', ?_, ?_⟩
      · refine ⟨_, rfl, p, _, 0, .ref c, rfl, rfl, SqL.of hp1, atI_nat (j := 0) rfl, (by show 0 ≤ sizeLine; decide), fun l hl => ?_⟩
        have npl : p ≠ l := ne_of_none hp1 hl
        have ncl : c ≠ l := ne_of_none hc1 hl
        refine ⟨c, l, _, rfl, rfl, by rw [upd_ne ncl]; exact hc1, upd_same, _, rfl, ?_⟩
        have hp2 : (upd (upd H p (.lst [.ref c, .int (a + 1), .int r])) l (.lst [])) p = some (.lst [.ref c, .int (a + 1), .int r]) := by rw [upd_ne npl]; exact hp1
        have hc2 : (upd (upd H p (.lst [.ref c, .int (a + 1), .int r])) l (.lst [])) c = some (.lst (ns.map V.int)) := by rw [upd_ne ncl]; exact hc1
        have kp2 : Keep p c H (upd (upd H p (.lst [.ref c, .int (a + 1), .int r])) l (.lst [])) := kp1.trans (Keep.new hl)
        cases ns with
        | nil =>
          refine iteF ?_
          exact ⟨_, rfl, hp2, hc2, kp2⟩
        | cons n0 ns =>
          refine iteT ?_
          have hlen : (0 : Int) < (((n0 :: ns).map V.int).length : Nat) := by simp
          have j0 := Int.emod_nonneg a (Int.ne_of_gt hlen)
          have j1 := Int.emod_lt_of_pos a hlen
          refine ⟨_, rfl, p, _, 0, .ref c, rfl, rfl, SqL.of hp2, atI_nat (j := 0) rfl, _, rfl, .inl ⟨a, rfl, _, rfl, p, _, 0, .ref c, rfl, rfl, SqL.of hp2, atI_nat (j := 0) rfl, c, _, rfl, .inl (SqL.of hc2), _, _, rfl, rfl, hlen, ?_⟩⟩
          have hj : (a % (((n0 :: ns).map V.int).length : Nat)).toNat < ((n0 :: ns).map V.int).length := by omega
          refine ⟨c, _, _, ((n0 :: ns).map V.int)[(a % (((n0 :: ns).map V.int).length : Nat)).toNat], rfl, rfl, SqL.of hc2, atI_at (j := (a % (((n0 :: ns).map V.int).length : Nat)).toNat) (by omega) (List.getElem?_eq_getElem hj), ?_⟩
          rw [List.getElem_map]
          exact ⟨_, rfl, hp2, hc2, kp2⟩
      · rintro σ' H1 ⟨z, rfl, hp1, hc1, kp1⟩
        have ab : (0 : Int) ≤ (if z < 0 then -z else z) := by split <;> omega
        have last : ∀ j : Int, 0 ≤ j → j < many → Q (.int j) H1 := fun j j0 j1 => k j H1 j0 j1 ⟨ns, a + 1, r, hp1, hc1, npc, by omega, by omega, r0, hz⟩ kp1
        refine ⟨fun σ' H' => σ' = [some (.ref p), some (.int many), none, some (.int a), some (.int z), none, none] ∧ H' = H1, ?_, ?_⟩
        · refine ⟨_, rfl, _, rfl, p, _, 0, .ref c, rfl, rfl, SqL.of hp1, atI_nat (j := 0) rfl, c, _, rfl, .inl (SqL.of hc1), _, _, rfl, rfl, _, rfl, ?_⟩
          refine ite2 (fun h1 => ?_) (fun h1 => ?_)
          · refine ⟨_, rfl, z, rfl, _, _, rfl, rfl, ⟨by decide, by decide, by decide⟩, _, _, rfl, rfl, _, rfl, ?_⟩
            refine ite2 (fun h2 => ?_) (fun h2 => ?_)
            · refine ⟨_, rfl, z, rfl, _, _, rfl, rfl, ⟨by decide, by decide, by decide⟩, _, _, rfl, rfl, _, _, rfl, rfl, .inl ⟨by decide, by decide⟩, ?_⟩
              refine ⟨_, rfl, _, _, rfl, rfl, .inr ⟨_, rfl, _, _, rfl, rfl, ?_⟩⟩
              refine ⟨_, rfl, .inl ⟨_, rfl, _, rfl, _, _, rfl, rfl, ⟨m0, m1⟩, ?_⟩⟩
              refine ⟨_, rfl, p, _, 2, 2, rfl, rfl, hp1, rfl, ?_⟩
              refine ⟨_, rfl, .inl ⟨_, rfl, _, rfl, _, _, rfl, rfl, m0, ?_⟩⟩
              refine k _ _ (Int.emod_nonneg _ (by omega)) (Int.emod_lt_of_pos _ m0) ⟨ns, a + 1, _, upd_same, by rw [upd_ne npc.symm]; exact hc1, npc, by omega, by omega, ?_, hz⟩ (kp1.trans Keep.upd1)
              refine Int.ediv_nonneg ?_ (by omega)
              have : (0 : Int) ≤ (if decide (z < 0) = true then 1 else 0) := by split <;> decide
              have h3 : ((10 : Int) ^ (18 : Int).toNat) ≤ (if z < 0 then -z else z) := by simpa using h2
              omega
            · exact ⟨rfl, rfl⟩
          · exact ⟨rfl, rfl⟩
        · rintro σ' H' ⟨rfl, rfl⟩
          have z0 := Int.emod_nonneg z (show (2147483587 : Int) ≠ 0 by decide)
          have z1 := Int.emod_lt_of_pos z (show (0 : Int) < 2147483587 by decide)
          refine ⟨_, rfl, .inl ⟨z, rfl, _, _, rfl, rfl, (by show (0 : Int) < 2147483587; decide), ?_⟩⟩
          refine ⟨_, rfl, _, _, rfl, rfl, .inl ⟨by decide, by decide⟩, _, _, rfl, rfl, _, _, rfl, rfl, _, _, rfl, rfl, ⟨by decide, by decide, ?_⟩, .inl ⟨_, rfl, _, _, rfl, rfl, (by show (0 : Int) < 2147483647; decide), ?_⟩⟩
          · show (z % 2147483587 + 50123 * a + 151).natAbs < 2 ^ 64
            have : (2 : Nat) ^ 64 = 18446744073709551616 := by decide
            omega
          obtain ⟨m, hm⟩ : ∃ m, (z % 2147483587 + 50123 * a + 151) ^ (3 : Int).toNat % 2147483647 = m := ⟨_, rfl⟩
          have q0 : 0 ≤ m := by rw [← hm]; exact Int.emod_nonneg _ (by decide)
          have q1 : m < 2147483647 := by rw [← hm]; exact Int.emod_lt_of_pos _ (by decide)
          have a1 : a ≤ 1048576 := by omega
          have e1 : m * (2 * a + 157) ≤ 2147483647 * 2097309 := Int.mul_le_mul (by omega) (by omega) (by omega) (by decide)
          have e2 : 0 ≤ m * (2 * a + 157) := Int.mul_nonneg q0 (by omega)
          have e3 : 61211 * a * a ≤ 61211 * 1048576 * 1048576 := Int.mul_le_mul (by omega) a1 a0 (by decide)
          have e4 : 0 ≤ 61211 * a * a := Int.mul_nonneg (by omega) a0
          refine ⟨_, rfl, _, rfl, _, _, rfl, rfl, .inl ⟨by decide, by decide⟩, _, _, rfl, rfl, _, _, rfl, rfl, .inl ⟨by omega, by omega⟩, ?_⟩
          refine ⟨_, rfl, _, _, rfl, rfl, .inl ⟨by decide, by decide⟩, _, rfl, _, _, rfl, rfl, .inr ⟨by omega, by omega⟩, _, _, rfl, rfl, _, _, rfl, rfl, _, _, rfl, rfl, ⟨by decide, by decide, ?_⟩, .inl ⟨_, rfl, _, _, rfl, rfl, (by show (0 : Int) < 2147483563; decide), ?_⟩⟩
          · show ((z % 2147483587 + 50123 * a + 151) ^ (3 : Int).toNat % 2147483647 * (2 * a + 157) + 61211 * a * a + 59).natAbs < 2 ^ 64
            rw [hm]
            have : (2 : Nat) ^ 64 = 18446744073709551616 := by decide
            generalize m * (2 * a + 157) = u at e1 e2
            generalize 61211 * a * a = v at e3 e4
            omega
          refine ⟨_, rfl, _, _, rfl, rfl, ⟨by decide, by decide⟩, .inl ⟨_, rfl, _, rfl, _, _, rfl, rfl, m0, ?_⟩⟩
          exact last _ (Int.emod_nonneg _ (by omega)) (Int.emod_lt_of_pos _ m0)
/-! ### the pen made; a pick -/
def spPen (K : PySem.W.Frag) : Sp := fun vs H Q _ => ∃ (a : Addr) (ns : List Int), vs = [.ref a] ∧ SqL K H a (ns.map V.int) ∧ ns.length ≤ 1000 ∧ ∀ p c H', PenAt H' p c 0 → Ext H H' → H p = none → H c = none → Q (.ref p) H'
abbrev s__law_pen : Stmt := top 66
abbrev N__law_pen : List Str := ["_law_script"]
theorem sc__law_pen : FnScope N__law_pen ["_law_script"] (defScope s__law_pen) := ⟨rfl, rfl, rfl, by decide +kernel, rfl, by decide +kernel, by decide +kernel⟩
theorem ok_pen {f : Addr} {fd : FuncData} (F : Fun K "_law_pen" "_law_pen" s__law_pen f fd) (T : Tx K mg CE CD CU CM CO CP tP tk) : FnOk P w K mg base CX0 1 f fd ["_law_script"] (spPen K) := by
  refine F.ok sc__law_pen (fun vs H Q E h => ?_) (fun cdv A outer s H vs Q E hr h => ?_)
  · obtain ⟨a, ns, rfl, _⟩ := h
    rfl
  · obtain ⟨a, ns, rfl, ha, hn, k⟩ := h
    refine ⟨_, (pss_one (ps_ret (pe_lst (pa_cons (pe_callTy call_list_of (by rfl) (T.bn _ (by decide +kernel)) (by decide +kernel) (pa_cons (pe_slice sl_list (pv 0) po_none (po_some pe_int)) pa_nil)) (pa_cons pe_int (pa_cons pe_int pa_nil)))))), ?_⟩
    refine ⟨_, rfl, 63, rfl, a, _, rfl, ha, fun q hq => ?_⟩
    refine ⟨q, _, rfl, .inl (SqL.of upd_same), fun c hc => ?_⟩
    have nqc : q ≠ c := ne_of_none upd_same hc
    refine ⟨(by show 3 ≤ sizeLine; decide), fun p hp => ?_⟩
    have npc : p ≠ c := (ne_of_none upd_same hp).symm
    have e1 := Ext.upd (o := HO.lst (((ns.map V.int).drop (HT.sIx (ns.map V.int).length 0 none)).take (HT.sIx (ns.map V.int).length (ns.map V.int).length (some 63) - HT.sIx (ns.map V.int).length 0 none))) hq
    refine k p c _ ⟨(ns.drop (HT.sIx (ns.map V.int).length 0 none)).take (HT.sIx (ns.map V.int).length (ns.map V.int).length (some 63) - HT.sIx (ns.map V.int).length 0 none), 0, 0, upd_same, ?_, npc, by decide, by decide, by decide, ?_⟩ ((e1.trans (Ext.upd hc)).trans (Ext.upd hp)) ?_ ?_
    · rw [upd_ne npc.symm, upd_same, List.map_take, List.map_drop]
      rfl
    · have : HT.sIx (ns.map V.int).length (ns.map V.int).length (some 63) ≤ 63 := by
        unfold HT.sIx
        simp
        omega
      rw [List.length_take]
      omega
    · exact ext_free (e1.trans (Ext.upd hc)) hp
    · exact ext_free e1 hc
def spPick (K : PySem.W.Frag) : Sp := fun vs H Q _ => ∃ (p c : Addr) (n : Nat) (v : V), vs = [.ref p, v] ∧ PenAt H p c n ∧ n < 1048576 ∧
  ((∃ (l : Addr) (xs : List V), v = .ref l ∧ l ≠ p ∧ l ≠ c ∧ H l = some (.lst xs) ∧ 0 < xs.length ∧ xs.length ≤ 1000 ∧ ∀ x H', x ∈ xs → PenAt H' p c (n + 1) → Keep p c H H' → Q x H') ∨
    ∃ z : Str, v = .str z ∧ 0 < z.length ∧ z.length ≤ 1000 ∧ ∀ c' H', c' ∈ tl z → PenAt H' p c (n + 1) → Keep p c H H' → Q (.str ⟨#[c']⟩) H')
abbrev s__law_pick : Stmt := top 68
abbrev N__law_pick : List Str := ["_law_pen_here", "_law_some_here"]
theorem sc__law_pick : FnScope N__law_pick ["_law_pen_here", "_law_some_here"] (defScope s__law_pick) := ⟨rfl, rfl, rfl, by decide +kernel, rfl, by decide +kernel, by decide +kernel⟩
theorem ok_pick {f : Addr} {fd : FuncData} (F : Fun K "_law_pick" "_law_pick" s__law_pick f fd) (T : Tx K mg CE CD CU CM CO CP tP tk) (c__law_draw : Cal P w K mg base CX0 1 "_law_draw" spDraw) : FnOk P w K mg base CX0 2 f fd ["_law_pen_here", "_law_some_here"] (spPick K) := by
  refine F.ok sc__law_pick (fun vs H Q E h => ?_) (fun cdv A outer s H vs Q E hr h => ?_)
  · obtain ⟨p, c, n, v, rfl, _⟩ := h
    rfl
  · obtain ⟨p, c, n, v, rfl, hp, hn, h⟩ := h
    refine ⟨_, (pss_one (ps_ret (pe_ix ix_seq (pv 1) (pe_cal c__law_draw (hr.mono (by decide)) (by rfl) pass0 (pa_cons (pv 0) (pa_cons (pe_callB (CallR.or call_len_seq call_len_str) (by rfl) (T.bn _ (by decide +kernel)) (by decide +kernel) (pa_cons (pv 1) pa_nil)) pa_nil))) (fun _ _ => rfl)))), ?_⟩
    rcases h with ⟨l, xs, rfl, n1, n2, hl, h0, h1, k⟩ | ⟨z, rfl, h0, h1, k⟩
    · refine ⟨_, rfl, _, rfl, _, rfl, .inl ⟨l, _, rfl, .inl (SqL.of hl), p, c, n, _, rfl, hp, hn, by omega, by omega, fun j H1 j0 j1 hp1 kp => ?_⟩⟩
      have hl1 := kp l _ hl n1 n2
      have hj : j.toNat < xs.length := by omega
      exact .inl ⟨l, xs, j, xs[j.toNat], rfl, rfl, SqL.of hl1, atI_at (j := j.toNat) (by omega) (List.getElem?_eq_getElem hj), k _ H1 (List.getElem_mem hj) hp1 kp⟩
    · refine ⟨_, rfl, _, rfl, _, rfl, .inr ⟨z, rfl, Nat.le_of_lt (small1000 h1), p, c, n, _, rfl, hp, hn, by omega, by omega, fun j H1 j0 j1 hp1 kp => ?_⟩⟩
      have hj : j.toNat < z.cps.toList.length := by
        have : z.cps.toList.length = z.length := by simp; rfl
        omega
      exact .inr (.inr ⟨z, j, z.cps.toList[j.toNat], rfl, rfl, Nat.le_of_lt (small1000 h1), atI_at (j := j.toNat) (by omega) (List.getElem?_eq_getElem hj), k _ H1 (List.getElem_mem hj) hp1 kp⟩)
end
end K33
end
section
set_option Elab.async false
set_option autoImplicit false
set_option linter.all false
set_option maxRecDepth 100000
set_option maxHeartbeats 4000000
set_option pp.maxSteps 1500
namespace K33
open PySem PySem.Spec PyProof.Rows L2 Ls
open C8 (pss_cut tCut)
open TL
/-! ### the data -/
def isName (z : Str) : Bool := decide (1 ≤ z.length) && (decide (z.length ≤ 6) && (tl z).all fun c => decide (c ∈ tl lettersS))
/-- the name that a value is -/
def nameOf : PyData → Option Str
  | .str z => if isName z = true then some z else none
  | _ => none
theorem nameOf_some {d : PyData} {n : Str} (h : nameOf d = some n) : d = .str n ∧ isName n = true := by
  cases d with
  | str z =>
    have h : (if isName z = true then some z else none) = some n := h
    by_cases e : isName z = true
    · rw [if_pos e] at h
      cases h
      exact ⟨rfl, e⟩
    · rw [if_neg e] at h
      cases h
  | _ => cases h
theorem nameOf_str {z : Str} (h : isName z = true) : nameOf (.str z) = some z := if_pos h
theorem nameOf_no {z : Str} (h : isName z = false) : nameOf (.str z) = none := if_neg (by rw [h]; exact Bool.false_ne_true)
theorem name_len {z : Str} (h : isName z = true) : 1 ≤ z.length ∧ z.length ≤ 6 := by
  unfold isName at h
  simp only [Bool.and_eq_true, decide_eq_true_eq] at h
  exact ⟨h.1, h.2.1⟩
theorem name_sub {z : Str} (h : isName z = true) : ∀ c ∈ tl z, c ∈ tl lettersS := by
  unfold isName at h
  simp only [Bool.and_eq_true, decide_eq_true_eq, List.all_eq_true] at h
  exact h.2.2
theorem name_no {z : Str} (h : isName z = true) {c : Nat} (hc : c ∉ tl lettersS) : c ∉ tl z := fun hm => hc (name_sub h c hm)
section
variable {P : PySem.Program} {w : World} {K : PySem.W.Frag} {mg : Str → Option Value} {base : Heap} {CE CD CU CM CO CP tP : Addr} {tk : Str → Tok}
/-! ### is_name -/
def spName : Sp := fun vs H Q _ => ∃ (v : V) (d : PyData), vs = [v] ∧ TV H v d ∧ SmD d ∧ ∀ H', Ext H H' → Q (.bl (nameOf d).isSome) H'
abbrev s_is_name : Stmt := top 21
abbrev N_is_name : List Str := ["value", "letter"]
theorem sc_is_name : FnScope N_is_name ["value"] (defScope s_is_name) := ⟨rfl, rfl, rfl, by decide +kernel, rfl, by decide +kernel, by decide +kernel⟩
theorem ok_name {f : Addr} {fd : FuncData} (F : Fun K "is_name" "is_name" s_is_name f fd) (T : Tx K mg CE CD CU CM CO CP tP tk) : FnOk P w K mg base CX0 1 f fd ["value"] spName := by
  refine F.ok sc_is_name (fun vs H Q E h => ?_) (fun cdv A outer s H vs Q E hr h => ?_)
  · obtain ⟨v, d, rfl, _⟩ := h
    rfl
  · obtain ⟨v, d, rfl, hv, sm, k⟩ := h
    refine ⟨_, (pss_cons (ps_if ((pw_or (pt_not (pt_val (pe_callB call_isi (by rfl) (T.bn _ (by decide +kernel)) (by decide +kernel) (pa_cons (pv 0) (pa_cons (pe_gty (T := "str") (by rfl) (T.bn _ (by decide +kernel)) (by decide +kernel)) pa_nil))))) (pw_or1 (pt_not (pt_chain op_le op_le pe_int (pe_callB call_len_str (by rfl) (T.bn _ (by decide +kernel)) (by decide +kernel) (pa_cons (pv 0) pa_nil)) (pe_gint (by rfl) T.m_LONGEST_NAME)))))).pt (pss_one (ps_ret pe_bl)) pss_nil)
      (pss_one (ps_ret (pe_callB (cr_all rfl) (by rfl) (T.bn _ (by decide +kernel)) (by decide +kernel) (pa_cons (pe_lc (own := [("letter", 1)]) rfl sc_is_name.nd (pi_str (pv 0)) (blkOk_by (own := [("letter", 1)]) (N := N_is_name) (sc := defScope s_is_name) (by decide +kernel)) (fun _ _ _ _ _ => (pg_name (i := 1) sc_is_name.nd rfl (by first | exact Or.inl rfl | exact Or.inr rfl))) (fun _ _ _ _ _ => pts_nil) (fun _ _ _ _ _ => (pe_cmpR op_in_sign (pv 1) (pe_gstr (by rfl) T.m_LETTERS) rfl))) pa_nil))))), ?_⟩
    refine ⟨_, rfl, _, _, _, _, isStrD d, rfl, .ty "str", tyX_of hv, kit_str d, _, rfl, ?_⟩
    cases hd : isStrD d with
    | false =>
      refine iteT ?_
      have e1 : (nameOf d).isSome = false := by
        cases d <;> first | rfl | cases hd
      have := k H Ext.rfl'
      rw [e1] at this
      exact this
    | true =>
    obtain ⟨z, rfl⟩ := strD hd
    cases tv_str hv
    have hz : z.length ≤ 1000 := sm z rfl
    refine iteF ?_
    have hzl : z.length ≤ sizeLine := Nat.le_of_lt (small1000 hz)
    have eN : ∀ b, isName z = b → (nameOf (.str z)).isSome = b := fun b h => by
      show (if isName z = true then some z else none).isSome = b
      cases b with
      | true => rw [if_pos h]; rfl
      | false => rw [if_neg (by rw [h]; exact Bool.false_ne_true)]; rfl
    refine ⟨_, rfl, z, rfl, hzl, _, _, rfl, rfl, ?_⟩
    by_cases h1 : 1 ≤ z.length
    · refine ⟨true, by simp; omega, ?_⟩
      refine iteT ?_
      refine ⟨_, _, rfl, rfl, ?_⟩
      by_cases h6 : z.length ≤ 6
      · refine ⟨true, by simp; omega, ?_⟩
        refine iteF ?_
        -- the signs
        refine ⟨_, rfl, z, rfl, fun D hD => ?_⟩
        refine lc_map walk_str [D] (by simp) (fun _ => True) (fun i y _ => ∃ c, z.cps[i]? = some c ∧ y = .bl (decide (c ∈ tl lettersS))) (by have : z.length = z.cps.size := rfl; omega) (fun _ _ _ _ _ h => h) (fun _ _ _ => trivial) trivial (fun _ _ _ => trivial) ?_ ?_
        · rintro i x H1 H2 acc C hi e _ hD1 ⟨rfl, c, hc, rfl⟩ hC
          refine ⟨rfl, _, rfl, c, _, rfl, rfl, hC _ _ hD1 Ext.rfl' trivial ⟨c, hc, rfl⟩⟩
        · intro H1 ys e _ hD1 hl hy
          have hys : ys = ((tl z).map fun c => decide (c ∈ tl lettersS)).map V.bl := by
            refine List.ext_getElem? fun j => ?_
            cases q : ys[j]? with
            | none =>
              have : ys.length ≤ j := List.getElem?_eq_none_iff.mp q
              symm
              rw [List.getElem?_eq_none_iff]
              simp
              have : z.cps.size ≤ j := by omega
              exact this
            | some y =>
              obtain ⟨c, hc, rfl⟩ := hy j y q
              have hc' : (tl z)[j]? = some c := by rw [← hc]; simp [tl]
              simp [List.getElem?_map, hc']
          subst hys
          refine ⟨D, _, rfl, SqL.of hD1, ?_⟩
          have e1 : isName z = (((tl z).map fun c => decide (c ∈ tl lettersS)).all id) := by
            unfold isName
            rw [decide_eq_true h1, decide_eq_true h6, Bool.true_and, Bool.true_and, List.all_map]
            rfl
          rw [← eN _ e1]
          refine k _ fun b o q => ?_
          have := e b o (by rw [hid_at (by simpa using ne_of_none q hD)]; exact q)
          exact (hid_some this).2
      · refine ⟨false, by simp; omega, ?_⟩
        refine iteT ?_
        have e1 : isName z = false := by unfold isName; rw [decide_eq_false h6, Bool.false_and, Bool.and_false]
        have := k H Ext.rfl'
        rw [eN _ e1] at this
        exact this
    · refine ⟨false, by simp; omega, ?_⟩
      refine iteF ?_
      refine ⟨false, rfl, ?_⟩
      refine iteT ?_
      have e1 : isName z = false := by unfold isName; rw [decide_eq_false h1, Bool.false_and]
      have := k H Ext.rfl'
      rw [eN _ e1] at this
      exact this
end
theorem eqV_str (a b : Str) : eqV (.str a) (.str b) = decide (b = a) := by
  show (a == b) = _
  by_cases h : b = a
  · subst h
    simp
  · rw [decide_eq_false h]
    exact beq_eq_false_iff_ne.mpr fun e => h e.symm
theorem inV_strs (z : Str) : ∀ l : List Str, inV (.str z) (l.map V.str) = decide (z ∈ l)
  | [] => rfl
  | a :: l => by
    have ih := inV_strs z l
    show (eqV (.str a) (.str z) || inV (.str z) (l.map V.str)) = _
    rw [eqV_str, ih]
    simp only [List.mem_cons, Bool.decide_or]
theorem flat_strs (l : List Str) : (l.map V.str).all flatV = true := by
  rw [List.all_map]
  exact List.all_eq_true.mpr fun _ _ => rfl
theorem not_take {zs : List Str} {i : Nat} {z : Str} (hnd : zs.Nodup) (hz : zs[i]? = some z) : z ∉ zs.take i := fun hm => by
  obtain ⟨h1, h2⟩ := List.getElem?_eq_some_iff.mp hz
  have e : zs = zs.take i ++ z :: zs.drop (i + 1) := by
    rw [← h2, ← List.drop_eq_getElem_cons h1, List.take_append_drop]
  rw [e] at hnd
  exact (List.nodup_append.mp hnd).2.2 z hm z (by simp) rfl
theorem name_sm {z : Str} (h : isName z = true) : SmD (.str z) := fun y e => by cases e; exact Nat.le_trans (name_len h).2 (by decide)
theorem nodup_len : ∀ {M us : List Str}, M.Nodup → (∀ z ∈ M, z ∈ us) → M.length ≤ us.length
  | [], _, _, _ => Nat.zero_le _
  | m :: r, us, nd, h => by
    obtain ⟨h1, h2⟩ := List.nodup_cons.mp nd
    have hm := h m (by simp)
    have ih := nodup_len (us := us.erase m) h2 fun z hz => (List.mem_erase_of_ne fun e => h1 (by rw [← e]; exact hz)).mpr (h z (List.mem_cons_of_mem _ hz))
    rw [List.length_erase_of_mem hm] at ih
    have := List.length_pos_of_mem hm
    rw [List.length_cons]
    omega
/-! ### ascending, plain -/
def Asc (zs ys : List Str) : Prop := ys.Nodup ∧ sortedS ys = true ∧ ∀ y, y ∈ ys ↔ y ∈ zs
theorem rising_pw : ∀ {l : List Str} {p : Str}, risingS p l = true → (p :: l).Pairwise fun a b => tl a ≤ tl b
  | [], p, _ => List.pairwise_cons.mpr ⟨fun _ h => (List.not_mem_nil h).elim, .nil⟩
  | x :: r, p, h => by
    have h : (!ltCps x.cps.toList p.cps.toList && risingS x r) = true := h
    rw [Bool.and_eq_true, ltCps_eq] at h
    have hpx : tl p ≤ tl x := fun z => by
      have h1 := h.1
      rw [decide_eq_true (show x.cps.toList < p.cps.toList from z)] at h1
      cases h1
    have ih := rising_pw h.2
    refine List.pairwise_cons.mpr ⟨fun y hy => ?_, ih⟩
    rcases List.mem_cons.mp hy with rfl | hy
    · exact hpx
    · exact List.le_trans hpx ((List.pairwise_cons.mp ih).1 y hy)
theorem sorted_pw {l : List Str} (h : sortedS l = true) : l.Pairwise fun a b => tl a ≤ tl b := by
  cases l with
  | nil => exact .nil
  | cons x r => exact rising_pw h
theorem Asc.uniq {zs zs' ys ys' : List Str} (h : Asc zs ys) (h' : Asc zs' ys') (e : ∀ y, y ∈ zs ↔ y ∈ zs') : ys = ys' := by
  obtain ⟨n1, s1, m1⟩ := h
  obtain ⟨n2, s2, m2⟩ := h'
  exact List.Perm.eq_of_pairwise (le := fun a b => tl a ≤ tl b) (fun a b _ _ h1 h2 => ext_tl (List.le_antisymm h1 h2)) (sorted_pw s1) (sorted_pw s2) ((List.perm_ext_iff_of_nodup n1 n2).mpr fun y => by rw [m1, m2, e])
theorem list_of_get {ys : List V} {us : List Str} (hl : ys.length = us.length) (h : ∀ (j : Nat) (y : V), ys[j]? = some y → ∃ z, us[j]? = some z ∧ y = .str z) : ys = us.map V.str := by
  refine List.ext_getElem? fun j => ?_
  cases q : ys[j]? with
  | none =>
    have := List.getElem?_eq_none_iff.mp q
    symm
    rw [List.getElem?_eq_none_iff, List.length_map]
    omega
  | some v =>
    obtain ⟨z, h1, rfl⟩ := h j v q
    rw [List.getElem?_map, h1]
    rfl
section
variable {P : PySem.Program} {w : World} {K : PySem.W.Frag} {mg : Str → Option Value} {base : Heap} {CE CD CU CM CO CP tP : Addr} {tk : Str → Tok}
/-! ### ascending -/
def spAsc (K : PySem.W.Frag) : Sp := fun vs H Q _ => ∃ (t : Addr) (zs : List Str), vs = [.ref t] ∧ (SqL K H t (zs.map V.str) ∨ SqT K H t (zs.map V.str)) ∧ zs.length ≤ 1000 ∧ (∃ us : List Str, us.length ≤ 60 ∧ ∀ z ∈ zs, z ∈ us) ∧ ∀ q ys H', Asc zs ys → Ext H H' → nw H H' q = some (.tup (ys.map V.str)) → Q (.ref q) H'
abbrev s_ascending : Stmt := top 23
abbrev N_ascending : List Str := ["names", "name"]
theorem sc_ascending : FnScope N_ascending ["names"] (defScope s_ascending) := ⟨rfl, rfl, rfl, by decide +kernel, rfl, by decide +kernel, by decide +kernel⟩
theorem ok_asc {f : Addr} {fd : FuncData} (F : Fun K "ascending" "ascending" s_ascending f fd) (T : Tx K mg CE CD CU CM CO CP tP tk) : FnOk P w K mg base CX0 1 f fd ["names"] (spAsc K) := by
  refine F.ok sc_ascending (fun vs H Q E h => ?_) (fun cdv A outer s H vs Q E hr h => ?_)
  · obtain ⟨t, zs, rfl, _⟩ := h
    rfl
  · obtain ⟨t, zs, rfl, ht, hln, ⟨us, hus, hsub⟩, k⟩ := h
    have h4 : sizeLine = 16777216 := sizeLine_eq
    have lz : (zs.map V.str).length = zs.length := List.length_map _
    refine ⟨_, (pss_one (ps_ret (pe_callTy call_tuple_of (by rfl) (T.bn _ (by decide +kernel)) (by decide +kernel) (pa_cons (pe_callB (cr_sortT rfl) (by rfl) (T.bn _ (by decide +kernel)) (by decide +kernel) (pa_cons (pe_callTy (cr_setT rfl) (by rfl) (T.bn _ (by decide +kernel)) (by decide +kernel) (pa_cons (pe_lc (own := [("name", 1)]) rfl sc_ascending.nd (pi_seq (pv 0)) (blkOk_by (own := [("name", 1)]) (N := N_ascending) (sc := defScope s_ascending) (by decide +kernel)) (fun _ _ _ _ _ => (pg_name (i := 1) sc_ascending.nd rfl (by first | exact Or.inl rfl | exact Or.inr rfl))) (fun _ _ _ _ _ => pts_nil) (fun _ _ _ _ _ => (pe_callTy SkE.call_str_str (by rfl) (T.bn _ (by decide +kernel)) (by decide +kernel) (pa_cons (pv 1) pa_nil)))) pa_nil)) pa_nil)) pa_nil)))), ?_⟩
    refine ht.elim (fun ht => .inl ⟨_, rfl, t, rfl, ⟨_, ht⟩, fun D hD => ?_⟩) (fun ht => .inr ⟨_, rfl, t, rfl, ⟨_, ht⟩, fun D hD => ?_⟩)
    · refine lc_map (walk_list (K := K) (xs := zs.map V.str)) [D] (by simp) (fun H' => Ext H H') (fun j y _ => ∃ z, zs[j]? = some z ∧ y = .str z) (by omega) (fun _ _ _ _ _ h => h)
        (fun H' o hh b o' z => by rw [upd_ne (ne_of_none z hD)]; exact hh b o' z) (Ext.upd hD) (fun H' _ hh => ht.ext hh) ?_ ?_
      · rintro j x H8 _ acc C hj e hh8 hD8 ⟨rfl, hx⟩ hC
        rw [List.getElem?_map] at hx
        obtain ⟨y, hy, rfl⟩ := Option.map_eq_some_iff.mp hx
        exact ⟨rfl, _, rfl, _, rfl, hC _ _ hD8 Ext.rfl' hh8 ⟨y, hy, rfl⟩⟩
      · intro H8 ys e hh8 hD8 hlen8 hy8
        have hzs := list_of_get (by rw [lz] at hlen8; exact hlen8) hy8
        subst hzs
        refine ⟨D, zs, rfl, SqL.of hD8, by omega, fun S M1 nS nd lM mM => ?_⟩
        have e9 : Ext H8 (upd H8 S (SetT w S M1)) := Ext.upd nS
        refine ⟨S, M1, rfl, upd_same, Nat.lt_of_le_of_lt (nodup_len nd fun z hz => hsub z ((mM z).mp hz)) (by omega), fun ys p pm so np => ?_⟩
        have e10 := e9.trans (Ext.upd (o := HO.lst (ys.map V.str)) np)
        refine ⟨p, _, rfl, .inl ⟨SqL.of upd_same, fun q nq => ?_⟩⟩
        refine k q ys _ ⟨pm.nodup_iff.mpr nd, so, fun y => by rw [pm.mem_iff, mM]⟩ (hh8.trans (e10.trans (Ext.upd nq))) ?_
        rw [nw_at (ext_free (hh8.trans e10) nq)]
        exact upd_same
    · refine lc_map (walk_tup (K := K) (xs := zs.map V.str)) [D] (by simp) (fun H' => Ext H H') (fun j y _ => ∃ z, zs[j]? = some z ∧ y = .str z) (by omega) (fun _ _ _ _ _ h => h)
        (fun H' o hh b o' z => by rw [upd_ne (ne_of_none z hD)]; exact hh b o' z) (Ext.upd hD) (fun H' _ hh => ht.ext hh) ?_ ?_
      · rintro j x H8 _ acc C hj e hh8 hD8 ⟨rfl, hx⟩ hC
        rw [List.getElem?_map] at hx
        obtain ⟨y, hy, rfl⟩ := Option.map_eq_some_iff.mp hx
        exact ⟨rfl, _, rfl, _, rfl, hC _ _ hD8 Ext.rfl' hh8 ⟨y, hy, rfl⟩⟩
      · intro H8 ys e hh8 hD8 hlen8 hy8
        have hzs := list_of_get (by rw [lz] at hlen8; exact hlen8) hy8
        subst hzs
        refine ⟨D, zs, rfl, SqL.of hD8, by omega, fun S M1 nS nd lM mM => ?_⟩
        have e9 : Ext H8 (upd H8 S (SetT w S M1)) := Ext.upd nS
        refine ⟨S, M1, rfl, upd_same, Nat.lt_of_le_of_lt (nodup_len nd fun z hz => hsub z ((mM z).mp hz)) (by omega), fun ys p pm so np => ?_⟩
        have e10 := e9.trans (Ext.upd (o := HO.lst (ys.map V.str)) np)
        refine ⟨p, _, rfl, .inl ⟨SqL.of upd_same, fun q nq => ?_⟩⟩
        refine k q ys _ ⟨pm.nodup_iff.mpr nd, so, fun y => by rw [pm.mem_iff, mM]⟩ (hh8.trans (e10.trans (Ext.upd nq))) ?_
        rw [nw_at (ext_free (hh8.trans e10) nq)]
        exact upd_same
/-! ### need_names -/
def spNN (K : PySem.W.Frag) : Sp := fun vs H Q _ => ∃ (l : Addr) (zs : List Str), vs = [.ref l] ∧ (SqL K H l (zs.map V.str) ∨ SqT K H l (zs.map V.str)) ∧ (∀ z ∈ zs, isName z = true) ∧ zs.Nodup ∧ zs.length ≤ 100 ∧ ∀ a H', Ext H H' → nw H H' a = some (.lst (zs.map V.str)) → Q (.ref a) H'
abbrev s_need_names : Stmt := top 22
abbrev N_need_names : List Str := ["values", "found", "value"]
theorem sc_need_names : FnScope N_need_names ["values"] (defScope s_need_names) := ⟨rfl, rfl, rfl, by decide +kernel, rfl, by decide +kernel, by decide +kernel⟩
theorem ok_nn {f : Addr} {fd : FuncData} (F : Fun K "need_names" "need_names" s_need_names f fd) (T : Tx K mg CE CD CU CM CO CP tP tk) (c_is_name : Cal P w K mg base CX0 1 "is_name" spName) : FnOk P w K mg base CX0 3 f fd ["values"] (spNN K) := by
  refine F.ok sc_need_names (fun vs H Q E h => ?_) (fun cdv A outer s H vs Q E hr h => ?_)
  · obtain ⟨l, zs, rfl, _⟩ := h
    rfl
  · obtain ⟨l, zs, rfl, hl, hnm, hnd, hln, k⟩ := h
    have h4 : sizeLine = 16777216 := sizeLine_eq
    refine ⟨_, (pss_cons (ps_set (i := 1) sc_need_names.nd rfl (by first | exact Or.inl rfl | exact Or.inr rfl) (pe_lst pa_nil))
      (pss_cons (ps_for PassesOwn.never rfl (pi_seq (pv 0)) (pg_name (i := 2) sc_need_names.nd rfl (by first | exact Or.inl rfl | exact Or.inr rfl))
      (pss_one (ps_if (pt_not (pt_val (pe_cal c_is_name (hr.mono (by decide)) (by rfl) pass0 (pa_cons (pv 2) pa_nil)))) (pss_one ps_never) pss_nil)))
      (pss_cons (ps_for PassesOwn.never rfl (pi_seq (pv 0)) (pg_name (i := 2) sc_need_names.nd rfl (by first | exact Or.inl rfl | exact Or.inr rfl))
      (pss_cons (ps_if (pt_cmpR op_in_seq (pv 2) (pv 1) rfl) (pss_one ps_never) pss_nil)
      (pss_one (ps_expr (pe_bm PySem.F.plainAttrs_list PySem.F.slot_list_append PySem.F.type_list_append mt_append (pv 1) (pa_cons (pv 2) pa_nil))))))
      (pss_one (ps_ret (pv 1)))))), ?_⟩
    refine ⟨(by show 0 ≤ sizeLine; decide), fun L nL => ?_⟩
    have e0 : Ext H (upd H L (.lst [])) := Ext.upd nL
    have hzl : (zs.map V.str).length = zs.length := List.length_map _
    rcases hl with hl | hl
    · refine .inl ⟨_, rfl, l, rfl, ⟨_, hl.ext e0⟩, for_it (walk_list (K := K) (xs := zs.map V.str)) (fun i σ H' => ∃ x2, σ = [some (.ref l), some (.ref L), x2] ∧ Ext H H' ∧ H' L = some (.lst [])) ⟨_, rfl, e0, upd_same⟩ (fun i σ H' _ ⟨_, _, e, _⟩ => hl.ext e) ?_ ?_⟩
      · rintro i x σ _ H1 hi ⟨x2, rfl, e1, hL1⟩ ⟨rfl, hx⟩
        rw [List.getElem?_map] at hx
        obtain ⟨z, hz, rfl⟩ := Option.map_eq_some_iff.mp hx
        have hzn := hnm z (List.mem_of_getElem? hz)
        refine ⟨_, rfl, .str z, .str z, rfl, .str _, name_sm hzn, fun H2 e2 => ⟨_, rfl, ?_⟩⟩
        rw [nameOf_str hzn]
        refine iteF ?_
        exact ⟨_, rfl, e1.trans e2, e2 _ _ hL1⟩
      · rintro σ H1 ⟨x2, rfl, e1, hL1⟩
        refine .inl ⟨_, rfl, l, rfl, ⟨_, hl.ext e1⟩, for_it (walk_list (K := K) (xs := zs.map V.str)) (fun i σ H' => ∃ x2, σ = [some (.ref l), some (.ref L), x2] ∧ Ext H H' ∧ H' L = some (.lst ((zs.take i).map V.str))) ⟨_, rfl, e1, by simpa using hL1⟩ (fun i σ H' _ ⟨_, _, e, _⟩ => hl.ext e) ?_ ?_⟩
        · rintro i x σ _ H2 hi ⟨x2', rfl, e2, hL2⟩ ⟨rfl, hx⟩
          rw [List.getElem?_map] at hx
          obtain ⟨z, hz, rfl⟩ := Option.map_eq_some_iff.mp hx
          refine ⟨_, rfl, _, rfl, L, _, rfl, .inl (SqL.of hL2), rfl, flat_strs _, _, rfl, ?_⟩
          rw [inV_strs]
          refine iteNo (decide_eq_false (not_take hnd hz)) ?_
          have htk : zs.take (i + 1) = zs.take i ++ [z] := by rw [List.take_add_one, hz]; rfl
          refine ⟨_, rfl, .inl ⟨rfl, _, SqL.of hL2⟩, _, rfl, L, _, _, rfl, rfl, hL2, ?_, _, rfl, ?_, ?_⟩
          · rw [List.length_map]
            have := List.length_take_le i zs
            omega
          · intro b o q
            rw [upd_ne (ne_of_none q nL)]
            exact e2 b o q
          · rw [upd_same, htk, List.map_append]
            rfl
        · rintro σ H2 ⟨x2', rfl, e2, hL2⟩
          rw [hzl, List.take_length] at hL2
          refine ⟨_, rfl, k L H2 e2 ?_⟩
          rw [nw_at nL]
          exact hL2
    · refine .inr ⟨_, rfl, l, rfl, ⟨_, hl.ext e0⟩, for_it (walk_tup (K := K) (xs := zs.map V.str)) (fun i σ H' => ∃ x2, σ = [some (.ref l), some (.ref L), x2] ∧ Ext H H' ∧ H' L = some (.lst [])) ⟨_, rfl, e0, upd_same⟩ (fun i σ H' _ ⟨_, _, e, _⟩ => hl.ext e) ?_ ?_⟩
      · rintro i x σ _ H1 hi ⟨x2, rfl, e1, hL1⟩ ⟨rfl, hx⟩
        rw [List.getElem?_map] at hx
        obtain ⟨z, hz, rfl⟩ := Option.map_eq_some_iff.mp hx
        have hzn := hnm z (List.mem_of_getElem? hz)
        refine ⟨_, rfl, .str z, .str z, rfl, .str _, name_sm hzn, fun H2 e2 => ⟨_, rfl, ?_⟩⟩
        rw [nameOf_str hzn]
        refine iteF ?_
        exact ⟨_, rfl, e1.trans e2, e2 _ _ hL1⟩
      · rintro σ H1 ⟨x2, rfl, e1, hL1⟩
        refine .inr ⟨_, rfl, l, rfl, ⟨_, hl.ext e1⟩, for_it (walk_tup (K := K) (xs := zs.map V.str)) (fun i σ H' => ∃ x2, σ = [some (.ref l), some (.ref L), x2] ∧ Ext H H' ∧ H' L = some (.lst ((zs.take i).map V.str))) ⟨_, rfl, e1, by simpa using hL1⟩ (fun i σ H' _ ⟨_, _, e, _⟩ => hl.ext e) ?_ ?_⟩
        · rintro i x σ _ H2 hi ⟨x2', rfl, e2, hL2⟩ ⟨rfl, hx⟩
          rw [List.getElem?_map] at hx
          obtain ⟨z, hz, rfl⟩ := Option.map_eq_some_iff.mp hx
          refine ⟨_, rfl, _, rfl, L, _, rfl, .inl (SqL.of hL2), rfl, flat_strs _, _, rfl, ?_⟩
          rw [inV_strs]
          refine iteNo (decide_eq_false (not_take hnd hz)) ?_
          have htk : zs.take (i + 1) = zs.take i ++ [z] := by rw [List.take_add_one, hz]; rfl
          refine ⟨_, rfl, .inl ⟨rfl, _, SqL.of hL2⟩, _, rfl, L, _, _, rfl, rfl, hL2, ?_, _, rfl, ?_, ?_⟩
          · rw [List.length_map]
            have := List.length_take_le i zs
            omega
          · intro b o q
            rw [upd_ne (ne_of_none q nL)]
            exact e2 b o q
          · rw [upd_same, htk, List.map_append]
            rfl
        · rintro σ H2 ⟨x2', rfl, e2, hL2⟩
          rw [hzl, List.take_length] at hL2
          refine ⟨_, rfl, k L H2 e2 ?_⟩
          rw [nw_at nL]
          exact hL2
/-! ### need_used -/
def spNU (K : PySem.W.Frag) : Sp := fun vs H Q _ => ∃ (l : Addr) (zs : List Str), vs = [.ref l] ∧ SqT K H l (zs.map V.str) ∧ (∀ z ∈ zs, isName z = true) ∧ zs.Nodup ∧ zs ≠ [] ∧ zs.length ≤ 3 ∧ ∀ a H', Ext H H' → nw H H' a = some (.tup (zs.map V.str)) → Q (.ref a) H'
abbrev s_need_used : Stmt := top 24
abbrev N_need_used : List Str := ["names", "used"]
theorem sc_need_used : FnScope N_need_used ["names"] (defScope s_need_used) := ⟨rfl, rfl, rfl, by decide +kernel, rfl, by decide +kernel, by decide +kernel⟩
theorem ok_nu {f : Addr} {fd : FuncData} (F : Fun K "need_used" "need_used" s_need_used f fd) (T : Tx K mg CE CD CU CM CO CP tP tk) (c_need_names : Cal P w K mg base CX0 3 "need_names" (spNN K)) : FnOk P w K mg base CX0 4 f fd ["names"] (spNU K) := by
  refine F.ok sc_need_used (fun vs H Q E h => ?_) (fun cdv A outer s H vs Q E hr h => ?_)
  · obtain ⟨l, zs, rfl, _⟩ := h
    rfl
  · obtain ⟨l, zs, rfl, hl, hnm, hnd, hne, h3, k⟩ := h
    refine ⟨_, (pss_cons (ps_set (i := 1) sc_need_used.nd rfl (by first | exact Or.inl rfl | exact Or.inr rfl) (pe_callTy call_tuple_of (by rfl) (T.bn _ (by decide +kernel)) (by decide +kernel) (pa_cons (pe_cal c_need_names (hr.mono (by decide)) (by rfl) pass0 (pa_cons (pv 0) pa_nil)) pa_nil)))
      (pss_cons (ps_if (pt_cmpR op_gt (pe_callB call_len_seq (by rfl) (T.bn _ (by decide +kernel)) (by decide +kernel) (pa_cons (pv 1) pa_nil)) (pe_gint (by rfl) T.m_MOST_USED) (nomark _)) (pss_one ps_never) pss_nil)
      (pss_cons (ps_if (pt_cmpR op_eq (pe_callB call_len_seq (by rfl) (T.bn _ (by decide +kernel)) (by decide +kernel) (pa_cons (pv 1) pa_nil)) pe_int (nomark _)) (pss_one ps_never) pss_nil)
      (pss_one (ps_ret (pv 1)))))), ?_⟩
    refine ⟨_, rfl, l, zs, rfl, .inr hl, hnm, hnd, by omega, fun a H1 e1 ha1 => ?_⟩
    have hzl : (zs.map V.str).length = zs.length := List.length_map _
    refine ⟨a, _, rfl, .inl ⟨SqL.of (nw_some ha1).2, fun t nt => ?_⟩⟩
    have e2 : Ext H1 (upd H1 t (.tup (zs.map V.str))) := Ext.upd nt
    have f2 : (upd H1 t (.tup (zs.map V.str))) t = some (.tup (zs.map V.str)) := upd_same
    generalize (upd H1 t (.tup (zs.map V.str))) = H2 at e2 f2
    refine ⟨_, rfl, t, _, rfl, .inr (SqT.of f2), _, _, rfl, rfl, _, rfl, ?_⟩
    refine iteNo (decide_eq_false (by rw [hzl]; omega)) ?_
    refine ⟨_, rfl, t, _, rfl, .inr (SqT.of f2), rfl, _, rfl, ?_⟩
    refine iteNo (decide_eq_false fun q => hne ?_) ?_
    · have q' := V.int.inj q
      rw [hzl] at q'
      exact List.eq_nil_of_length_eq_zero (by omega)
    · refine ⟨_, rfl, k t H2 (e1.trans e2) ?_⟩
      rw [nw_at (ext_free e1 nt)]
      exact f2
/-! ### need_name -/
def spN1 : Sp := fun vs H Q _ => ∃ z : Str, vs = [.str z] ∧ isName z = true ∧ ∀ H', Ext H H' → Q (.str z) H'
abbrev s_need_name : Stmt := top 25
abbrev N_need_name : List Str := ["value"]
theorem sc_need_name : FnScope N_need_name ["value"] (defScope s_need_name) := ⟨rfl, rfl, rfl, by decide +kernel, rfl, by decide +kernel, by decide +kernel⟩
theorem ok_n1 {f : Addr} {fd : FuncData} (F : Fun K "need_name" "need_name" s_need_name f fd) (T : Tx K mg CE CD CU CM CO CP tP tk) (c_is_name : Cal P w K mg base CX0 1 "is_name" spName) : FnOk P w K mg base CX0 3 f fd ["value"] spN1 := by
  refine F.ok sc_need_name (fun vs H Q E h => ?_) (fun cdv A outer s H vs Q E hr h => ?_)
  · obtain ⟨z, rfl, _⟩ := h
    rfl
  · obtain ⟨z, rfl, hz, k⟩ := h
    refine ⟨_, (pss_cons (ps_if (pt_not (pt_val (pe_cal c_is_name (hr.mono (by decide)) (by rfl) pass0 (pa_cons (pv 0) pa_nil)))) (pss_one ps_never) pss_nil)
      (pss_one (ps_ret (pv 0)))), ?_⟩
    refine ⟨_, rfl, .str z, .str z, rfl, .str _, name_sm hz, fun H1 e1 => ⟨_, rfl, ?_⟩⟩
    rw [nameOf_str hz]
    refine iteF ?_
    exact ⟨_, rfl, k H1 e1⟩
end
end K33
end
section
set_option Elab.async false
set_option autoImplicit false
set_option linter.all false
set_option maxRecDepth 100000
set_option maxHeartbeats 4000000
set_option pp.maxSteps 1500
namespace K33
open PySem PySem.Spec PyProof.Rows L2 Ls
open C8 (pss_cut tCut)
open TL
/-! ### deeds, as data -/
abbrev Dd := Option Str × List Str
structure Good (d : Dd) : Prop where
  nm : ∀ z ∈ d.2, isName z = true
  mn : ∀ z, d.1 = some z → isName z = true
  nd : d.2.Nodup
  le : d.2.length ≤ 3
  ne : d.1 = none → d.2 ≠ []
def clsD (CU CM CO : Addr) : Dd → Addr
  | (none, _) => CU
  | (some _, []) => CM
  | (some _, _ :: _) => CO
/-- a deed in the heap -/
def DeedAt (cl : Dd → Addr) (H : Hp) (a : Addr) (d : Dd) : Prop := ∃ dx fs t1 t2, H a = some (.ins (cl d) dx fs) ∧ fs.lookup ("used_names" : Str) = some (V.ref t1) ∧ fs.lookup ("made_names" : Str) = some (V.ref t2) ∧ H t1 = some (.tup (d.2.map V.str)) ∧ H t2 = some (.tup (d.1.toList.map V.str))
theorem DeedAt.ext {cl : Dd → Addr} {H H' : Hp} {a : Addr} {d : Dd} (h : DeedAt cl H a d) (e : Ext H H') : DeedAt cl H' a d := let ⟨dx, fs, t1, t2, h1, h2, h3, h4, h5⟩ := h; ⟨dx, fs, t1, t2, e _ _ h1, h2, h3, e _ _ h4, e _ _ h5⟩
/-- all stays but the object at x -/
def KeepX (x : Addr) (H H' : Hp) : Prop := ∀ b o, H b = some o → b ≠ x → H' b = some o
/-- what the top says of a class of deeds -/
structure ClD (K : PySem.W.Frag) (C : Addr) : Prop where
  cl : Cls K C
  nU : NoAttr K C "used_names"
  nM : NoAttr K C "made_names"
theorem num : ¬ (("used_names" : Str) = "made_names") := by decide +kernel
/-- the object at x has become that deed -/
def MadeX (C x dx : Addr) (us ms : List Str) (H H' : Hp) : Prop := KeepX x H H' ∧ ∃ fs t1 t2, H' x = some (.ins C dx fs) ∧ fs.lookup ("used_names" : Str) = some (V.ref t1) ∧ fs.lookup ("made_names" : Str) = some (V.ref t2) ∧ H' t1 = some (.tup (us.map V.str)) ∧ H' t2 = some (.tup (ms.map V.str))
section
variable {P : PySem.Program} {w : World} {K : PySem.W.Frag} {mg : Str → Option Value} {base : Heap} {CE CD CU CM CO CP tP : Addr} {tk : Str → Tok}
/-! ### Deed.__init__ -/
def spDI (K : PySem.W.Frag) : Sp := fun vs H Q _ => ∃ (x C dx t1 t2 : Addr) (us ms : List Str), vs = [.ref x, .ref t1, .ref t2] ∧ H x = some (.ins C dx []) ∧ H t1 = some (.tup (us.map V.str)) ∧ H t2 = some (.tup (ms.map V.str)) ∧ ClD K C ∧ ∀ H', MadeX C x dx us ms H H' → Q .non H'
abbrev s_Deed_init : Stmt := inClass (top 26) 1
abbrev N_Deed_init : List Str := ["self", "used", "made"]
theorem sc_Deed_init : FnScope N_Deed_init ["self", "used", "made"] (defScope s_Deed_init) := ⟨rfl, rfl, rfl, by decide +kernel, rfl, by decide +kernel, by decide +kernel⟩
theorem ok_DI {f : Addr} {fd : FuncData} (F : Fun K "__init__" "Deed.__init__" s_Deed_init f fd) (T : Tx K mg CE CD CU CM CO CP tP tk) : FnOk P w K mg base CX0 1 f fd ["self", "used", "made"] (spDI K) := by
  refine F.ok sc_Deed_init (fun vs H Q E h => ?_) (fun cdv A outer s H vs Q E hr h => ?_)
  · obtain ⟨x, C, dx, t1, t2, us, ms, rfl, _⟩ := h
    rfl
  · obtain ⟨x, C, dx, t1, t2, us, ms, rfl, hx, h1, h2, hc, k⟩ := h
    refine ⟨_, (pss_cons (ps_fld (pv 0) (pv 1) rfl)
      (pss_one (ps_fld (pv 0) (pv 2) rfl))), ?_⟩
    refine ⟨_, rfl, _, rfl, x, C, dx, _, rfl, hx, hc.cl, hc.nU, (by show 0 < 1000; decide), ?_⟩
    refine ⟨_, rfl, _, rfl, x, C, dx, _, rfl, upd_same, hc.cl, hc.nM, (by show 1 < 1000; decide), ?_⟩
    have kx : KeepX x H (upd (upd H x (.ins C dx (putF "used_names" (.ref t1) []))) x (.ins C dx (putF "made_names" (.ref t2) (putF "used_names" (.ref t1) [])))) := fun b o q hb => by rw [upd_ne hb, upd_ne hb]; exact q
    refine k _ ⟨kx, _, t1, t2, upd_same, ?_, ?_, kx _ _ h1 (ne_of h1 hx (by intro z; cases z)), kx _ _ h2 (ne_of h2 hx (by intro z; cases z))⟩
    · rw [lookup_putF, if_neg num, lookup_putF, if_pos rfl]
    · rw [lookup_putF, if_pos rfl]
/-! ### Use.__init__ -/
def spUse (C : Addr) : Sp := fun vs H Q _ => ∃ (x dx : Addr) (us : List Str), vs = .ref x :: us.map V.str ∧ H x = some (.ins C dx []) ∧ (∀ z ∈ us, isName z = true) ∧ us.Nodup ∧ us ≠ [] ∧ us.length ≤ 3 ∧ ∀ H', MadeX C x dx us [] H H' → Q .non H'
abbrev s_Use_init : Stmt := inClass (top 27) 0
abbrev N_Use_init : List Str := ["self", "names"]
theorem sc_Use_init : FnScope N_Use_init ["self", "names"] (defScope s_Use_init) := ⟨rfl, rfl, rfl, by decide +kernel, rfl, by decide +kernel, by decide +kernel⟩
theorem ok_Use_init {f : Addr} {fd : FuncData} (F : Fun K "__init__" "Use.__init__" s_Use_init f fd) (T : Tx K mg CE CD CU CM CO CP tP tk) (hC : ClD K CU) (c_need_used : Cal P w K mg base CX0 4 "need_used" (spNU K)) (c_Deed_init : Clf P w K mg base CX0 1 CD "__init__" (spDI K)) :
    FnR P w K mg base CX0 5 f (spUse CU) := by
  obtain ⟨oc, od, kV, doc, pm, an, cdv, ct, osl, rfl, lk, hcd⟩ := F.ex
  have R := StX.fn_star (P := P) (w := w) (mg := mg) (base := base) (CX := CX0) (k := 4) (N := N_Use_init) (ps := ["self"]) (pv := "names")
    (sp := fun vs H Q E => ∃ (x dx p : Addr) (us : List Str), vs = [.ref x, .ref p] ∧ H x = some (.ins CU dx []) ∧ H p = some (.tup (us.map V.str)) ∧ (∀ z ∈ us, isName z = true) ∧ us.Nodup ∧ us ≠ [] ∧ us.length ≤ 3 ∧ ∀ H', MadeX CU x dx us [] H H' → Q .non H')
    lk hcd sc_Use_init StX.cxUp_none (StX.bind_star1 (B := fun us => bindArgs _ ⟨us, []⟩) (fun a => rfl) fun a r rs => rfl) (fun A outer s H vs Q E hr h => ?_)
  · refine R.imp fun vs H Q E h => ?_
    obtain ⟨x, dx, us, rfl, hx, hnm, hnd, hne, h3, k⟩ := h
    refine ⟨[.ref x], us.map V.str, rfl, rfl, ?_, fun p np => ⟨x, dx, p, us, rfl, ?_, upd_same, hnm, hnd, hne, h3, fun H' ⟨hk, r⟩ => k H' ⟨fun b o q hb => hk b o ?_ hb, r⟩⟩⟩
    · have h4 : sizeLine = 16777216 := sizeLine_eq
      rw [List.length_map]
      omega
    · rw [upd_ne (ne_of_none hx np)]; exact hx
    · rw [upd_ne (ne_of_none q np)]; exact q
  · obtain ⟨x, dx, p, us, rfl, hx, hp, hnm, hnd, hne, h3, k⟩ := h
    refine ⟨_, (pss_one (ps_expr (pe_clf c_Deed_init (hr.mono (by decide)) (pe_gref (by rfl) T.m_Deed) pass0 (pa_cons (pv 0) (pa_cons (pe_cal c_need_used (hr.mono (by decide)) (by rfl) pass0 (pa_cons (pv 1) pa_nil)) (pa_cons (pe_tup pa_nil) pa_nil)))))), ?_⟩
    refine ⟨rfl, _, rfl, _, rfl, p, us, rfl, SqT.of hp, hnm, hnd, hne, h3, fun a H1 e1 h1 => ?_⟩
    refine ⟨(by show 0 ≤ sizeLine; decide), fun t nt => ?_⟩
    have up : ∀ {b : Addr} {o : HO}, H1 b = some o → (upd H1 t (.tup [])) b = some o := fun {b o} q => by rw [upd_ne (ne_of_none q nt)]; exact q
    exact ⟨x, CU, dx, a, t, us, [], rfl, up (e1 _ _ hx), up (nw_some h1).2, upd_same, hC, fun H2 ⟨hk, r⟩ => k H2 ⟨fun b o q hb => hk b o (up (e1 _ _ q)) hb, r⟩⟩
/-! ### Make.__init__ -/
def spMake (C : Addr) : Sp := fun vs H Q _ => ∃ (x dx : Addr) (z : Str), vs = [.ref x, .str z] ∧ H x = some (.ins C dx []) ∧ isName z = true ∧ ∀ H', MadeX C x dx [] [z] H H' → Q .non H'
abbrev s_Make_init : Stmt := inClass (top 28) 0
abbrev N_Make_init : List Str := ["self", "name"]
theorem sc_Make_init : FnScope N_Make_init ["self", "name"] (defScope s_Make_init) := ⟨rfl, rfl, rfl, by decide +kernel, rfl, by decide +kernel, by decide +kernel⟩
theorem ok_Make_init {f : Addr} {fd : FuncData} (F : Fun K "__init__" "Make.__init__" s_Make_init f fd) (T : Tx K mg CE CD CU CM CO CP tP tk) (hC : ClD K CM) (c_need_name : Cal P w K mg base CX0 3 "need_name" spN1) (c_Deed_init : Clf P w K mg base CX0 1 CD "__init__" (spDI K)) :
    FnOk P w K mg base CX0 5 f fd ["self", "name"] (spMake CM) := by
  refine F.ok sc_Make_init (fun vs H Q E h => ?_) (fun cdv A outer s H vs Q E hr h => ?_)
  · obtain ⟨x, dx, z, rfl, _⟩ := h
    rfl
  · obtain ⟨x, dx, z, rfl, hx, hz, k⟩ := h
    refine ⟨_, (pss_one (ps_expr (pe_clf c_Deed_init (hr.mono (by decide)) (pe_gref (by rfl) T.m_Deed) pass0 (pa_cons (pv 0) (pa_cons (pe_tup pa_nil) (pa_cons (pe_tup (pa_cons (pe_cal c_need_name (hr.mono (by decide)) (by rfl) pass0 (pa_cons (pv 1) pa_nil)) pa_nil)) pa_nil)))))), ?_⟩
    refine ⟨rfl, _, rfl, (by show 0 ≤ sizeLine; decide), fun t1 n1 => ?_⟩
    refine ⟨_, rfl, z, rfl, hz, fun H1 e1 => ⟨(by show 1 ≤ sizeLine; decide), fun t2 n2 => ?_⟩⟩
    have up : ∀ {b : Addr} {o : HO}, H b = some o → (upd H1 t2 (.tup [.str z])) b = some o := fun {b o} q => by
      have q1 : H1 b = some o := e1 _ _ (by rw [upd_ne (ne_of_none q n1)]; exact q)
      rw [upd_ne (ne_of_none q1 n2)]
      exact q1
    have q1 : H1 t1 = some (.tup []) := e1 _ _ upd_same
    exact ⟨x, CM, dx, t1, t2, [], [z], rfl, up hx, by rw [upd_ne (ne_of_none q1 n2)]; exact q1, upd_same, hC, fun H2 ⟨hk, r⟩ => k H2 ⟨fun b o q hb => hk b o (up q) hb, r⟩⟩
/-! ### Do.__init__ -/
def spDo (C : Addr) : Sp := fun vs H Q _ => ∃ (x dx : Addr) (z : Str) (us : List Str), vs = .ref x :: .str z :: us.map V.str ∧ H x = some (.ins C dx []) ∧ isName z = true ∧ (∀ z ∈ us, isName z = true) ∧ us.Nodup ∧ us ≠ [] ∧ us.length ≤ 3 ∧ ∀ H', MadeX C x dx us [z] H H' → Q .non H'
abbrev s_Do_init : Stmt := inClass (top 29) 0
abbrev N_Do_init : List Str := ["self", "name", "names"]
theorem sc_Do_init : FnScope N_Do_init ["self", "name", "names"] (defScope s_Do_init) := ⟨rfl, rfl, rfl, by decide +kernel, rfl, by decide +kernel, by decide +kernel⟩
theorem ok_Do_init {f : Addr} {fd : FuncData} (F : Fun K "__init__" "Do.__init__" s_Do_init f fd) (T : Tx K mg CE CD CU CM CO CP tP tk) (hC : ClD K CO) (c_need_name : Cal P w K mg base CX0 3 "need_name" spN1) (c_need_used : Cal P w K mg base CX0 4 "need_used" (spNU K)) :
    FnR P w K mg base CX0 5 f (spDo CO) := by
  obtain ⟨oc, od, kV, doc, pm, an, cdv, ct, osl, rfl, lk, hcd⟩ := F.ex
  have R := StX.fn_star (P := P) (w := w) (mg := mg) (base := base) (CX := CX0) (k := 4) (N := N_Do_init) (ps := ["self", "name"]) (pv := "names")
    (sp := fun vs H Q E => ∃ (x dx p : Addr) (z : Str) (us : List Str), vs = [.ref x, .str z, .ref p] ∧ H x = some (.ins CO dx []) ∧ H p = some (.tup (us.map V.str)) ∧ isName z = true ∧ (∀ z ∈ us, isName z = true) ∧ us.Nodup ∧ us ≠ [] ∧ us.length ≤ 3 ∧ ∀ H', MadeX CO x dx us [z] H H' → Q .non H')
    lk hcd sc_Do_init StX.cxUp_none (StX.bind_star2 (B := fun us => bindArgs _ ⟨us, []⟩) (fun a b => rfl) fun a b r rs => rfl) (fun A outer s H vs Q E hr h => ?_)
  · refine R.imp fun vs H Q E h => ?_
    obtain ⟨x, dx, z, us, rfl, hx, hz, hnm, hnd, hne, h3, k⟩ := h
    refine ⟨[.ref x, .str z], us.map V.str, rfl, rfl, ?_, fun p np => ⟨x, dx, p, z, us, rfl, ?_, upd_same, hz, hnm, hnd, hne, h3, fun H' ⟨hk, r⟩ => k H' ⟨fun b o q hb => hk b o ?_ hb, r⟩⟩⟩
    · have h4 : sizeLine = 16777216 := sizeLine_eq
      rw [List.length_map]
      omega
    · rw [upd_ne (ne_of_none hx np)]; exact hx
    · rw [upd_ne (ne_of_none q np)]; exact q
  · obtain ⟨x, dx, p, z, us, rfl, hx, hp, hz, hnm, hnd, hne, h3, k⟩ := h
    refine ⟨_, (pss_cons (ps_fld (pv 0) (pe_tup (pa_cons (pe_cal c_need_name (hr.mono (by decide)) (by rfl) pass0 (pa_cons (pv 1) pa_nil)) pa_nil)) rfl)
      (pss_one (ps_fld (pv 0) (pe_cal c_need_used (hr.mono (by decide)) (by rfl) pass0 (pa_cons (pv 2) pa_nil)) rfl))), ?_⟩
    refine ⟨_, rfl, z, rfl, hz, fun H1 e1 => ⟨(by show 1 ≤ sizeLine; decide), fun t nt => ?_⟩⟩
    have e2 : Ext H1 (upd H1 t (.tup [.str z])) := Ext.upd nt
    have f2 : (upd H1 t (.tup [.str z])) t = some (.tup ([z].map V.str)) := upd_same
    generalize (upd H1 t (.tup [.str z])) = H2 at e2 f2
    have e02 := e1.trans e2
    refine ⟨_, rfl, x, CO, dx, _, rfl, e02 _ _ hx, hC.cl, hC.nM, (by show 0 < 1000; decide), ?_⟩
    have nxp : p ≠ x := ne_of hp hx (by intro z; cases z)
    have nxt : t ≠ x := ne_of f2 (e02 _ _ hx) (by intro z; cases z)
    have kx : KeepX x H (upd H2 x (.ins CO dx (putF "made_names" (.ref t) []))) := fun b o q hb => by rw [upd_ne hb]; exact e02 b o q
    have hx3 : (upd H2 x (.ins CO dx (putF "made_names" (.ref t) []))) x = some (.ins CO dx (putF "made_names" (.ref t) [])) := upd_same
    have ht3 : (upd H2 x (.ins CO dx (putF "made_names" (.ref t) []))) t = some (.tup ([z].map V.str)) := by rw [upd_ne nxt]; exact f2
    have hp3 := kx p _ hp nxp
    generalize (upd H2 x (.ins CO dx (putF "made_names" (.ref t) []))) = H3 at kx hx3 hp3 ht3
    refine ⟨_, rfl, p, us, rfl, SqT.of hp3, hnm, hnd, hne, h3, fun a H4 e4 h4 => ?_⟩
    have na : a ≠ x := fun z => by
      have := (nw_some h4).1
      rw [z, hx3] at this
      cases this
    refine ⟨_, rfl, x, CO, dx, _, rfl, e4 _ _ hx3, hC.cl, hC.nU, (by show 1 < 1000; decide), k _ ⟨fun b o q hb => ?_, _, a, t, upd_same, ?_, ?_, ?_, ?_⟩⟩
    · rw [upd_ne hb]
      exact e4 _ _ (kx b o q hb)
    · rw [lookup_putF, if_pos rfl]
    · rw [lookup_putF, if_neg (fun e => num e.symm), lookup_putF, if_pos rfl]
    · rw [upd_ne na]
      exact (nw_some h4).2
    · rw [upd_ne nxt]
      exact e4 _ _ ht3
/-! ### a deed that is made -/
theorem mk_in {H : Hp} {x dx C : Addr} (nx : H x = none) (ndx : H dx = none) : Ext H (upd (upd H dx (.own x)) x (.ins C dx [])) := fun b o q => by
  rw [upd_ne (ne_of_none q nx), upd_ne (ne_of_none q ndx)]
  exact q
theorem made_at {cl : Dd → Addr} {H H2 : Hp} {x dx : Addr} {d : Dd} (nx : H x = none) (ndx : H dx = none) (h : MadeX (cl d) x dx d.2 d.1.toList (upd (upd H dx (.own x)) x (.ins (cl d) dx [])) H2) : Ext H H2 ∧ DeedAt cl H2 x d := by
  obtain ⟨hk, fs, t1, t2, h1, h2, h3, h4, h5⟩ := h
  exact ⟨fun b o q => hk b o (mk_in nx ndx _ _ q) (ne_of_none q nx), dx, fs, t1, t2, h1, h2, h3, h4, h5⟩
def spUses (cl : Dd → Addr) : Sp := fun vs H Q _ => ∃ (a : Addr) (d : Dd), vs = [.ref a] ∧ DeedAt cl H a d ∧ ∀ t, H t = some (.tup (d.2.map V.str)) → Q (.ref t) H
abbrev s_Deed_uses : Stmt := inClass (top 26) 2
abbrev N_Deed_uses : List Str := ["self"]
theorem sc_Deed_uses : FnScope N_Deed_uses ["self"] (defScope s_Deed_uses) := ⟨rfl, rfl, rfl, by decide +kernel, rfl, by decide +kernel, by decide +kernel⟩
theorem ok_uses {f : Addr} {fd : FuncData} (F : Fun K "uses" "Deed.uses" s_Deed_uses f fd) (T : Tx K mg CE CD CU CM CO CP tP tk) (TC : ∀ d, ClD K (clsD CU CM CO d)) : FnOk P w K mg base CX0 1 f fd ["self"] (spUses (clsD CU CM CO)) := by
  refine F.ok sc_Deed_uses (fun vs H Q E h => ?_) (fun cdv A outer s H vs Q E hr h => ?_)
  · obtain ⟨a, d, rfl, _⟩ := h
    rfl
  · obtain ⟨a, d, rfl, ⟨dx, fs, t1, t2, ha, l1, l2, h1, h2⟩, k⟩ := h
    refine ⟨_, (pss_one (ps_ret (pe_fld (pv 0) rfl))), ?_⟩
    exact ⟨_, rfl, a, _, dx, _, _, rfl, ha, (TC d).cl, (TC d).nU, l1, k t1 h1⟩
def madeV (d : Dd) : V := match d.1 with
  | none => .non
  | some z => .str z
def spMakes (cl : Dd → Addr) : Sp := fun vs H Q _ => ∃ (a : Addr) (d : Dd), vs = [.ref a] ∧ DeedAt cl H a d ∧ Q (madeV d) H
abbrev s_Deed_makes : Stmt := inClass (top 26) 3
abbrev N_Deed_makes : List Str := ["self"]
theorem sc_Deed_makes : FnScope N_Deed_makes ["self"] (defScope s_Deed_makes) := ⟨rfl, rfl, rfl, by decide +kernel, rfl, by decide +kernel, by decide +kernel⟩
theorem ok_makes {f : Addr} {fd : FuncData} (F : Fun K "makes" "Deed.makes" s_Deed_makes f fd) (T : Tx K mg CE CD CU CM CO CP tP tk) (TC : ∀ d, ClD K (clsD CU CM CO d)) : FnOk P w K mg base CX0 1 f fd ["self"] (spMakes (clsD CU CM CO)) := by
  refine F.ok sc_Deed_makes (fun vs H Q E h => ?_) (fun cdv A outer s H vs Q E hr h => ?_)
  · obtain ⟨a, d, rfl, _⟩ := h
    rfl
  · obtain ⟨a, d, rfl, ⟨dx, fs, t1, t2, ha, l1, l2, h1, h2⟩, k⟩ := h
    refine ⟨_, (pss_one (ps_ret (pe_ifExp (pt_cmpR op_gt (pe_callB call_len_seq (by rfl) (T.bn _ (by decide +kernel)) (by decide +kernel) (pa_cons (pe_fld (pv 0) rfl) pa_nil)) pe_int (nomark _)) (pe_ix ix_tup (pe_fld (pv 0) rfl) pe_int (fun _ _ => rfl)) pe_non))), ?_⟩
    refine ⟨_, rfl, a, _, dx, _, _, rfl, ha, (TC d).cl, (TC d).nM, l2, t2, _, rfl, .inr (SqT.of h2), _, _, rfl, rfl, _, rfl, ?_⟩
    obtain ⟨m, us⟩ := d
    cases m with
    | none =>
      refine iteNo (decide_eq_false (by simp)) ?_
      exact k
    | some z =>
      refine iteYes (decide_eq_true (by simp)) ?_
      exact ⟨_, rfl, a, _, dx, _, _, rfl, ha, (TC _).cl, (TC _).nM, l2, t2, _, 0, .str z, rfl, rfl, SqT.of h2, atI_nat (j := 0) rfl, k⟩
theorem cat_ok {H : Hp} {d : Dd} (hl : d.2.length ≤ 3) : ((d.2 ++ d.1.toList).map V.str).length ≤ 4 := by
  have : d.1.toList.length ≤ 1 := by cases d.1 <;> simp
  rw [List.length_map, List.length_append]
  omega
theorem cat_go {t1 t2 : Addr} {H : Hp} {d : Dd} {Q : VK} {E : XK} (hg : Good d) (h1 : H t1 = some (.tup (d.2.map V.str))) (h2 : H t2 = some (.tup (d.1.toList.map V.str))) (k : ∀ q ys H', Asc (d.2 ++ d.1.toList) ys → Ext H H' → nw H H' q = some (.tup (ys.map V.str)) → Q (.ref q) H') :
    (d.2.map V.str = [] → spAsc K [.ref t2] H Q E) ∧ (d.2.map V.str ≠ [] → d.1.toList.map V.str = [] → spAsc K [.ref t1] H Q E) ∧ (d.2.map V.str ≠ [] → d.1.toList.map V.str ≠ [] → ∀ p, H p = none → spAsc K [.ref p] (upd H p (.tup (d.2.map V.str ++ d.1.toList.map V.str))) Q E) := by
  have hc := cat_ok (H := H) (d := d) hg.le
  rw [List.length_map] at hc
  have go : ∀ t H1, Ext H H1 → H1 t = some (.tup ((d.2 ++ d.1.toList).map V.str)) → spAsc K [.ref t] H1 Q E := fun t H1 e1 ht => ⟨t, _, rfl, .inr (SqT.of ht), by omega, ⟨_, by omega, fun _ z => z⟩, fun q ys H' as e nq => k q ys H' as (e1.trans e) (nw_back e1 _ _ nq)⟩
  refine ⟨fun e => go t2 H Ext.rfl' ?_, fun _ e => go t1 H Ext.rfl' ?_, fun _ _ p np => go p _ (Ext.upd np) ?_⟩
  · rw [List.map_append, e, List.nil_append]
    exact h2
  · rw [List.map_append, e, List.append_nil]
    exact h1
  · rw [List.map_append]
    exact upd_same
def spNames (cl : Dd → Addr) : Sp := fun vs H Q _ => ∃ (a : Addr) (d : Dd), vs = [.ref a] ∧ DeedAt cl H a d ∧ Good d ∧ ∀ q ys H', Asc (d.2 ++ d.1.toList) ys → Ext H H' → nw H H' q = some (.tup (ys.map V.str)) → Q (.ref q) H'
abbrev s_Deed_names : Stmt := inClass (top 26) 4
abbrev N_Deed_names : List Str := ["self"]
theorem sc_Deed_names : FnScope N_Deed_names ["self"] (defScope s_Deed_names) := ⟨rfl, rfl, rfl, by decide +kernel, rfl, by decide +kernel, by decide +kernel⟩
theorem ok_names {f : Addr} {fd : FuncData} (F : Fun K "names" "Deed.names" s_Deed_names f fd) (T : Tx K mg CE CD CU CM CO CP tP tk) (TC : ∀ d, ClD K (clsD CU CM CO d)) (c_ascending : Cal P w K mg base CX0 1 "ascending" (spAsc K)) : FnOk P w K mg base CX0 2 f fd ["self"] (spNames (clsD CU CM CO)) := by
  refine F.ok sc_Deed_names (fun vs H Q E h => ?_) (fun cdv A outer s H vs Q E hr h => ?_)
  · obtain ⟨a, d, rfl, _⟩ := h
    rfl
  · obtain ⟨a, d, rfl, ⟨dx, fs, t1, t2, ha, l1, l2, h1, h2⟩, hg, k⟩ := h
    have h4 : sizeLine = 16777216 := sizeLine_eq
    have hl := hg.le
    have hc := cat_ok (H := H) (d := d) hl
    rw [List.map_append, List.length_append] at hc
    have hc2 : (d.2 ++ d.1.toList).length ≤ 4 := by
      rw [List.length_map, List.length_map] at hc
      rw [List.length_append]
      exact hc
    refine ⟨_, (pss_one (ps_ret (pe_cal c_ascending (hr.mono (by decide)) (by rfl) pass0 (pa_cons (pe_op op_catA (pe_fld (pv 0) rfl) (pe_fld (pv 0) rfl)) pa_nil)))), ?_⟩
    refine ⟨_, rfl, a, _, dx, _, _, rfl, ha, (TC d).cl, (TC d).nU, l1, _, rfl, a, _, dx, _, _, rfl, ha, (TC d).cl, (TC d).nM, l2, t1, t2, _, _, rfl, rfl, SqT.of h1, SqT.of h2, by omega, cat_go (E := C8.E0) hg h1 h2 k⟩
end
end K33
end
section
set_option Elab.async false
set_option autoImplicit false
set_option linter.all false
set_option maxRecDepth 100000
set_option maxHeartbeats 4000000
set_option pp.maxSteps 1500
namespace K33
open PySem PySem.Spec PyProof.Rows L2 Ls
open C8 (pss_cut tCut)
open TL
/-! ### whole numbers -/
def isNumD : PyData → Bool
  | .int _ => true
  | .bool _ => true
  | _ => false
def isBoolD : PyData → Bool
  | .bool _ => true
  | _ => false
def isIntD : PyData → Bool
  | .int _ => true
  | _ => false
theorem kit_int {K : PySem.W.Frag} (d : PyData) : PySem.W.kitOne K (.type (tyN d)) (.type "int") = some (isNumD d) := by
  have k1 : kitB "NoneType" "int" = some false := by decide +kernel
  have k2 : kitB "bool" "int" = some true := by decide +kernel
  have k3 : kitB "int" "int" = some true := by decide +kernel
  have k4 : kitB "str" "int" = some false := by decide +kernel
  have k5 : kitB "list" "int" = some false := by decide +kernel
  have k6 : kitB "tuple" "int" = some false := by decide +kernel
  have k7 : kitB "dict" "int" = some false := by decide +kernel
  cases d <;> first | exact kit_ty k1 | exact kit_ty k2 | exact kit_ty k3 | exact kit_ty k4 | exact kit_ty k5 | exact kit_ty k6 | exact kit_ty k7
theorem kit_bool {K : PySem.W.Frag} (d : PyData) : PySem.W.kitOne K (.type (tyN d)) (.type "bool") = some (isBoolD d) := by
  have k1 : kitB "NoneType" "bool" = some false := by decide +kernel
  have k2 : kitB "bool" "bool" = some true := by decide +kernel
  have k3 : kitB "int" "bool" = some false := by decide +kernel
  have k4 : kitB "str" "bool" = some false := by decide +kernel
  have k5 : kitB "list" "bool" = some false := by decide +kernel
  have k6 : kitB "tuple" "bool" = some false := by decide +kernel
  have k7 : kitB "dict" "bool" = some false := by decide +kernel
  cases d <;> first | exact kit_ty k1 | exact kit_ty k2 | exact kit_ty k3 | exact kit_ty k4 | exact kit_ty k5 | exact kit_ty k6 | exact kit_ty k7
theorem intD {d : PyData} (h : isIntD d = true) : ∃ i, d = .int i := by
  cases d <;> first | exact ⟨_, rfl⟩ | cases h
theorem tv_int {H : Hp} {v : V} {i : Int} (h : TV H v (.int i)) : v = .int i := by
  cases h
  rfl
/-! ### programs, as data -/
def DsAt (cl : Dd → Addr) (H : Hp) (as : List Addr) (ds : List Dd) : Prop := as.length = ds.length ∧ ∀ (i : Nat) (a : Addr), as[i]? = some a → ∃ d, ds[i]? = some d ∧ DeedAt cl H a d
theorem DsAt.ext {cl : Dd → Addr} {H H' : Hp} {as : List Addr} {ds : List Dd} (h : DsAt cl H as ds) (e : Ext H H') : DsAt cl H' as ds := ⟨h.1, fun i a q => let ⟨d, h1, h2⟩ := h.2 i a q; ⟨d, h1, h2.ext e⟩⟩
theorem DsAt.nil {cl : Dd → Addr} {H : Hp} : DsAt cl H [] [] := ⟨rfl, fun i a q => by simp at q⟩
theorem DsAt.app {cl : Dd → Addr} {H : Hp} {as bs : List Addr} {ds es : List Dd} (h : DsAt cl H as ds) (g : DsAt cl H bs es) : DsAt cl H (as ++ bs) (ds ++ es) := by
  refine ⟨by rw [List.length_append, List.length_append, h.1, g.1], fun i a q => ?_⟩
  by_cases hi : i < as.length
  · rw [List.getElem?_append_left hi] at q
    rw [List.getElem?_append_left (by rw [← h.1]; exact hi)]
    exact h.2 i a q
  · rw [List.getElem?_append_right (by omega)] at q
    rw [List.getElem?_append_right (by rw [← h.1]; omega), ← h.1]
    exact g.2 _ a q
structure Pr where
  ah : List Dd
  lp : Option (List Dd)
  bt : List Dd
  sd : Option (List Dd)
  bh : List Dd
  gv : List Str
  ag : List (Str × Int)
  rs : List Str
def Pr.pts (p : Pr) : List (Option (List Dd)) := [some p.ah, p.lp, some p.bt, p.sd, some p.bh]
def Pr.ds (p : Pr) : List Dd := (p.pts.map (·.getD [])).flatten
/-- a part's value -/
def PtAt (K : PySem.W.Frag) (cl : Dd → Addr) (H : Hp) (v : V) : Option (List Dd) → Prop
  | none => v = .non
  | some ds => ∃ t as, v = .ref t ∧ SqT K H t (as.map V.ref) ∧ DsAt cl H as ds
/-- a part that is handed in: a list or a tuple -/
def PtIn (K : PySem.W.Frag) (cl : Dd → Addr) (H : Hp) (v : V) : Option (List Dd) → Prop
  | none => v = .non
  | some ds => ∃ t as, v = .ref t ∧ (SqL K H t (as.map V.ref) ∨ SqT K H t (as.map V.ref)) ∧ DsAt cl H as ds
theorem PtAt.ext {K : PySem.W.Frag} {cl : Dd → Addr} {H H' : Hp} {v : V} {q : Option (List Dd)} (h : PtAt K cl H v q) (e : Ext H H') : PtAt K cl H' v q := by
  cases q with
  | none => exact h
  | some ds =>
    obtain ⟨t, as, h1, h2, h3⟩ := h
    exact ⟨t, as, h1, h2.ext e, h3.ext e⟩
theorem PtIn.ext {K : PySem.W.Frag} {cl : Dd → Addr} {H H' : Hp} {v : V} {q : Option (List Dd)} (h : PtIn K cl H v q) (e : Ext H H') : PtIn K cl H' v q := by
  cases q with
  | none => exact h
  | some ds =>
    obtain ⟨t, as, h1, h2, h3⟩ := h
    exact ⟨t, as, h1, h2.imp (·.ext e) (·.ext e), h3.ext e⟩
def PtsAt (K : PySem.W.Frag) (cl : Dd → Addr) (H : Hp) (vs : List V) (p : Pr) : Prop := ∃ v0 v1 v2 v3 v4, vs = [v0, v1, v2, v3, v4] ∧ PtAt K cl H v0 (some p.ah) ∧ PtAt K cl H v1 p.lp ∧ PtAt K cl H v2 (some p.bt) ∧ PtAt K cl H v3 p.sd ∧ PtAt K cl H v4 (some p.bh)
theorem PtsAt.ext {K : PySem.W.Frag} {cl : Dd → Addr} {H H' : Hp} {vs : List V} {p : Pr} (h : PtsAt K cl H vs p) (e : Ext H H') : PtsAt K cl H' vs p :=
  let ⟨v0, v1, v2, v3, v4, h1, h2, h3, h4, h5, h6⟩ := h
  ⟨v0, v1, v2, v3, v4, h1, h2.ext e, h3.ext e, h4.ext e, h5.ext e, h6.ext e⟩
theorem PtsAt.at_ {K : PySem.W.Frag} {cl : Dd → Addr} {H : Hp} {vs : List V} {p : Pr} (h : PtsAt K cl H vs p) {i : Nat} {v : V} (q : vs[i]? = some v) : ∃ o, p.pts[i]? = some o ∧ PtAt K cl H v o := by
  obtain ⟨v0, v1, v2, v3, v4, rfl, h0, h1, h2, h3, h4⟩ := h
  match i, q with
  | 0, q => cases q; exact ⟨_, rfl, h0⟩
  | 1, q => cases q; exact ⟨_, rfl, h1⟩
  | 2, q => cases q; exact ⟨_, rfl, h2⟩
  | 3, q => cases q; exact ⟨_, rfl, h3⟩
  | 4, q => cases q; exact ⟨_, rfl, h4⟩
  | i + 5, q => simp at q
theorem PtsAt.len {K : PySem.W.Frag} {cl : Dd → Addr} {H : Hp} {vs : List V} {p : Pr} (h : PtsAt K cl H vs p) : vs.length = 5 := by
  obtain ⟨v0, v1, v2, v3, v4, rfl, _⟩ := h
  rfl
/-- the form that is let -/
structure Shp (p : Pr) : Prop where
  bt : p.bt ≠ [] → p.lp ≠ none ∧ p.sd ≠ none
  sd : p.sd ≠ none → p.lp ≠ none
  bh : p.bh ≠ [] → p.lp ≠ none
  l0 : p.ah.length ≤ 200
  l1 : (p.lp.getD []).length ≤ 24
  l2 : p.bt.length ≤ 24
  l3 : (p.sd.getD []).length ≤ 24
  l4 : p.bh.length ≤ 24
  l5 : p.ah.length + p.bt.length + p.bh.length ≤ 200
theorem PtAt.nn {K : PySem.W.Frag} {cl : Dd → Addr} {H : Hp} {v : V} {q : Option (List Dd)} (h : PtAt K cl H v q) : decide (v = .non) = q.isNone := by
  cases q with
  | none => exact decide_eq_true h
  | some ds =>
    obtain ⟨t, as, rfl, _⟩ := h
    exact decide_eq_false (by intro z; cases z)
theorem PtIn.nn {K : PySem.W.Frag} {cl : Dd → Addr} {H : Hp} {v : V} {q : Option (List Dd)} (h : PtIn K cl H v q) : decide (v = .non) = q.isNone := by
  cases q with
  | none => exact decide_eq_true h
  | some ds =>
    obtain ⟨t, as, rfl, _⟩ := h
    exact decide_eq_false (by intro z; cases z)
theorem PtAt.refs {K : PySem.W.Frag} {cl : Dd → Addr} {H : Hp} {v : V} {q : Option (List Dd)} (h : PtAt K cl H v q) : ∃ as, DsAt cl H as (q.getD []) ∧ ((v = .non ∧ as = []) ∨ ∃ t, v = .ref t ∧ SqT K H t (as.map V.ref)) := by
  cases q with
  | none => exact ⟨[], .nil, .inl ⟨h, rfl⟩⟩
  | some ds =>
    obtain ⟨t, as, h1, h2, h3⟩ := h
    exact ⟨as, h3, .inr ⟨t, h1, h2⟩⟩
theorem PtsAt.refs {K : PySem.W.Frag} {cl : Dd → Addr} {H : Hp} {vs : List V} {p : Pr} (h : PtsAt K cl H vs p) : ∃ ass : List (List Addr), ass.length = 5 ∧ DsAt cl H ass.flatten p.ds ∧ ∀ (i : Nat) (v : V), vs[i]? = some v → ∃ as, ass[i]? = some as ∧ ((v = .non ∧ as = []) ∨ ∃ t, v = .ref t ∧ SqT K H t (as.map V.ref)) := by
  obtain ⟨v0, v1, v2, v3, v4, rfl, h0, h1, h2, h3, h4⟩ := h
  obtain ⟨a0, d0, r0⟩ := h0.refs
  obtain ⟨a1, d1, r1⟩ := h1.refs
  obtain ⟨a2, d2, r2⟩ := h2.refs
  obtain ⟨a3, d3, r3⟩ := h3.refs
  obtain ⟨a4, d4, r4⟩ := h4.refs
  refine ⟨[a0, a1, a2, a3, a4], rfl, d0.app (d1.app (d2.app (d3.app (d4.app .nil)))), fun i v q => ?_⟩
  match i, q with
  | 0, q => cases q; exact ⟨_, rfl, r0⟩
  | 1, q => cases q; exact ⟨_, rfl, r1⟩
  | 2, q => cases q; exact ⟨_, rfl, r2⟩
  | 3, q => cases q; exact ⟨_, rfl, r3⟩
  | 4, q => cases q; exact ⟨_, rfl, r4⟩
  | i + 5, q => simp at q
section
variable {P : PySem.Program} {w : World} {K : PySem.W.Frag} {mg : Str → Option Value} {base : Heap} {CE CD CU CM CO CP tP : Addr} {tk : Str → Tok}
/-! ### is_integer, need_price -/
def spInt : Sp := fun vs H Q _ => ∃ (v : V) (d : PyData), vs = [v] ∧ TV H v d ∧ Q (.bl (isIntD d)) H
abbrev s_is_integer : Stmt := top 20
abbrev N_is_integer : List Str := ["value"]
theorem sc_is_integer : FnScope N_is_integer ["value"] (defScope s_is_integer) := ⟨rfl, rfl, rfl, by decide +kernel, rfl, by decide +kernel, by decide +kernel⟩
theorem ok_int {f : Addr} {fd : FuncData} (F : Fun K "is_integer" "is_integer" s_is_integer f fd) (T : Tx K mg CE CD CU CM CO CP tP tk) : FnOk P w K mg base CX0 1 f fd ["value"] spInt := by
  refine F.ok sc_is_integer (fun vs H Q E h => ?_) (fun cdv A outer s H vs Q E hr h => ?_)
  · obtain ⟨v, d, rfl, _⟩ := h
    rfl
  · obtain ⟨v, d, rfl, hv, k⟩ := h
    refine ⟨_, (pss_one (ps_ret (pe_and (pe_callB call_isi (by rfl) (T.bn _ (by decide +kernel)) (by decide +kernel) (pa_cons (pv 0) (pa_cons (pe_gty (T := "int") (by rfl) (T.bn _ (by decide +kernel)) (by decide +kernel)) pa_nil))) (pe_one (pe_not (pe_callB call_isi (by rfl) (T.bn _ (by decide +kernel)) (by decide +kernel) (pa_cons (pv 0) (pa_cons (pe_gty (T := "bool") (by rfl) (T.bn _ (by decide +kernel)) (by decide +kernel)) pa_nil)))))))), ?_⟩
    refine ⟨_, rfl, _, _, _, _, isNumD d, rfl, .ty "int", tyX_of hv, kit_int d, ?_⟩
    cases hn : isNumD d with
    | false =>
      refine ⟨_, rfl, iteF ?_⟩
      rw [show isIntD d = false by cases d <;> first | rfl | cases hn] at k
      exact k
    | true =>
      refine ⟨_, rfl, iteT ?_⟩
      refine ⟨_, rfl, _, _, _, _, isBoolD d, rfl, .ty "bool", tyX_of hv, kit_bool d, _, rfl, ?_⟩
      rw [show (!isBoolD d) = isIntD d by cases d <;> first | rfl | cases hn]
      exact k
def spPrice : Sp := fun vs H Q _ => ∃ (n : Int), vs = [.int n] ∧ 0 ≤ n ∧ n ≤ 9 ∧ Q (.int n) H
abbrev s_need_price : Stmt := top 47
abbrev N_need_price : List Str := ["value"]
theorem sc_need_price : FnScope N_need_price ["value"] (defScope s_need_price) := ⟨rfl, rfl, rfl, by decide +kernel, rfl, by decide +kernel, by decide +kernel⟩
theorem ok_price {f : Addr} {fd : FuncData} (F : Fun K "need_price" "need_price" s_need_price f fd) (T : Tx K mg CE CD CU CM CO CP tP tk) (c_is_integer : Cal P w K mg base CX0 1 "is_integer" spInt) : FnOk P w K mg base CX0 3 f fd ["value"] spPrice := by
  refine F.ok sc_need_price (fun vs H Q E h => ?_) (fun cdv A outer s H vs Q E hr h => ?_)
  · obtain ⟨n, rfl, _⟩ := h
    rfl
  · obtain ⟨n, rfl, h0, h9, k⟩ := h
    refine ⟨_, (pss_cons (ps_if ((pw_or (pt_not (pt_val (pe_cal c_is_integer (hr.mono (by decide)) (by rfl) pass0 (pa_cons (pv 0) pa_nil)))) (pw_or1 (pt_not (pt_chain op_le op_le pe_int (pv 0) (pe_gint (by rfl) T.m_MOST_PRICE)))))).pt (pss_one ps_never) pss_nil)
      (pss_one (ps_ret (pv 0)))), ?_⟩
    refine ⟨_, rfl, _, _, rfl, .int n, _, rfl, ?_⟩
    refine iteF ?_
    refine ⟨_, rfl, _, _, rfl, rfl, ?_⟩
    refine ⟨true, by simp; omega, ?_⟩
    refine iteT ?_
    refine ⟨_, _, rfl, rfl, true, by simp; omega, ?_⟩
    refine iteF ?_
    exact ⟨_, rfl, k⟩
/-! ### need_shape -/
def spShape (K : PySem.W.Frag) (cl : Dd → Addr) : Sp := fun vs H Q _ => ∃ (l : Addr) (xs : List V) (p : Pr), vs = [.ref l] ∧ H l = some (.lst xs) ∧ PtsAt K cl H xs p ∧ Shp p ∧ ∀ H', Ext H H' → Q .non H'
abbrev s_need_shape : Stmt := top 48
abbrev N_need_shape : List Str := ["parts", "ahead", "loop", "between", "second", "behind", "part"]
theorem sc_need_shape : FnScope N_need_shape ["parts"] (defScope s_need_shape) := ⟨rfl, rfl, rfl, by decide +kernel, rfl, by decide +kernel, by decide +kernel⟩
theorem ok_shape {cl : Dd → Addr} {f : Addr} {fd : FuncData} (F : Fun K "need_shape" "need_shape" s_need_shape f fd) (T : Tx K mg CE CD CU CM CO CP tP tk) : FnOk P w K mg base CX0 1 f fd ["parts"] (spShape K cl) := by
  refine F.ok sc_need_shape (fun vs H Q E h => ?_) (fun cdv A outer s H vs Q E hr h => ?_)
  · obtain ⟨l, xs, p, rfl, _⟩ := h
    rfl
  · obtain ⟨l, xs, p, rfl, hl, hp, hs, k⟩ := h
    refine ⟨_, (pss_cons (ps_asg (pv 0) (pg_lst rfl (pgs_cons (pg_name (i := 1) sc_need_shape.nd rfl (by first | exact Or.inl rfl | exact Or.inr rfl)) (pgs_cons (pg_name (i := 2) sc_need_shape.nd rfl (by first | exact Or.inl rfl | exact Or.inr rfl)) (pgs_cons (pg_name (i := 3) sc_need_shape.nd rfl (by first | exact Or.inl rfl | exact Or.inr rfl)) (pgs_cons (pg_name (i := 4) sc_need_shape.nd rfl (by first | exact Or.inl rfl | exact Or.inr rfl)) (pgs_cons (pg_name (i := 5) sc_need_shape.nd rfl (by first | exact Or.inl rfl | exact Or.inr rfl)) pgs_nil)))))))
      (pss_cut (ps_if ((pw_and (pt_cmpR op_gt (pe_callB call_len_seq (by rfl) (T.bn _ (by decide +kernel)) (by decide +kernel) (pa_cons (pv 3) pa_nil)) pe_int (nomark _)) (pw_and1 ((pw_or (pt_cmpR op_isN (pv 2) pe_non (nomark _)) (pw_or1 (pt_cmpR op_isN (pv 4) pe_non (nomark _))))).pt))).pt (pss_one ps_never) pss_nil)
      (pss_cut (ps_if ((pw_and (pt_cmpR op_notN (pv 4) pe_non (nomark _)) (pw_and1 (pt_cmpR op_isN (pv 2) pe_non (nomark _))))).pt (pss_one ps_never) pss_nil)
      (pss_cut (ps_if ((pw_and (pt_cmpR op_gt (pe_callB call_len_seq (by rfl) (T.bn _ (by decide +kernel)) (by decide +kernel) (pa_cons (pv 5) pa_nil)) pe_int (nomark _)) (pw_and1 (pt_cmpR op_isN (pv 2) pe_non (nomark _))))).pt (pss_one ps_never) pss_nil)
      (pss_cut (ps_if (pt_cmpR op_gt (pe_callB call_len_seq (by rfl) (T.bn _ (by decide +kernel)) (by decide +kernel) (pa_cons (pv 1) pa_nil)) (pe_gint (by rfl) T.m_MOST_AHEAD) (nomark _)) (pss_one ps_never) pss_nil)
      (pss_cut (ps_for PassesOwn.never rfl (pi_list (pe_slice sl_list (pv 0) (po_some pe_int) po_none)) (pg_name (i := 6) sc_need_shape.nd rfl (by first | exact Or.inl rfl | exact Or.inr rfl))
      (pss_one (ps_if ((pw_and (pt_cmpR op_notN (pv 6) pe_non (nomark _)) (pw_and1 (pt_cmpR op_gt (pe_callB call_len_seq (by rfl) (T.bn _ (by decide +kernel)) (by decide +kernel) (pa_cons (pv 6) pa_nil)) (pe_gint (by rfl) T.m_MOST_DEEDS) (nomark _))))).pt (pss_one ps_never) pss_nil)))
      (pss_one (ps_if (pt_cmpR op_gt (pe_op op_add (pe_op op_add (pe_callB call_len_seq (by rfl) (T.bn _ (by decide +kernel)) (by decide +kernel) (pa_cons (pv 1) pa_nil)) (pe_callB call_len_seq (by rfl) (T.bn _ (by decide +kernel)) (by decide +kernel) (pa_cons (pv 3) pa_nil))) (pe_callB call_len_seq (by rfl) (T.bn _ (by decide +kernel)) (by decide +kernel) (pa_cons (pv 5) pa_nil))) (pe_gint (by rfl) T.m_MOST_AHEAD) (nomark _)) (pss_one ps_never) pss_nil)))))))), ?_⟩
    obtain ⟨v0, v1, v2, v3, v4, rfl, h0, h1, h2, h3, h4⟩ := hp
    obtain ⟨t0, a0, rfl, q0, d0⟩ := h0
    obtain ⟨t2, a2, rfl, q2, d2⟩ := h2
    obtain ⟨t4, a4, rfl, q4, d4⟩ := h4
    have l0 : (a0.map V.ref).length = p.ah.length := by rw [List.length_map, d0.1]
    have l2 : (a2.map V.ref).length = p.bt.length := by rw [List.length_map, d2.1]
    have l4 : (a4.map V.ref).length = p.bh.length := by rw [List.length_map, d4.1]
    have n1 := h1.nn
    have n3 := h3.nn
    refine ⟨_, rfl, l, _, rfl, SqL.of hl, rfl, _, _, rfl, _, _, rfl, _, _, rfl, _, _, rfl, _, _, rfl, rfl, ?_⟩
    have keep : ∃ I : L2.St → Hp → Prop, I = fun σ' H' => σ' = [some (.ref l), some (.ref t0), some v1, some (.ref t2), some v3, some (.ref t4), none] ∧ H' = H := ⟨_, rfl⟩
    obtain ⟨I, hI⟩ := keep
    have I0 : I [some (.ref l), some (.ref t0), some v1, some (.ref t2), some v3, some (.ref t4), none] H := by rw [hI]; exact ⟨rfl, rfl⟩
    have I1 : ∀ {σ' : L2.St} {H' : Hp}, I σ' H' → σ' = [some (.ref l), some (.ref t0), some v1, some (.ref t2), some v3, some (.ref t4), none] ∧ H' = H := fun h => by rw [hI] at h; exact h
    clear hI
    refine ⟨I, ?_, fun σ' H' h => ?_⟩
    · refine ⟨_, rfl, t2, _, rfl, .inr q2, _, _, rfl, rfl, _, rfl, ?_⟩
      by_cases e : p.bt = []
      · exact iteNo (decide_eq_false (by rw [l2, e]; decide)) I0
      · obtain ⟨e1, e2⟩ := hs.bt e
        refine iteYes (decide_eq_true (by have := List.length_pos_iff.mpr e; omega)) ?_
        refine ⟨_, rfl, rfl, _, rfl, iteNo (by rw [n1]; cases h : p.lp <;> simp_all) ?_⟩
        exact ⟨_, rfl, rfl, _, rfl, iteNo (by rw [n3]; cases h : p.sd <;> simp_all) I0⟩
    obtain ⟨rfl, rfl⟩ := I1 h
    refine ⟨I, ?_, fun σ' H' h => ?_⟩
    · refine ⟨_, rfl, rfl, _, rfl, ?_⟩
      cases e : p.sd with
      | none => exact iteNo (by rw [n3, e]; rfl) I0
      | some ds => exact iteYes (by rw [n3, e]; rfl) ⟨_, rfl, rfl, _, rfl, iteNo (by rw [n1]; have := hs.sd (by rw [e]; simp); cases h : p.lp <;> simp_all) I0⟩
    obtain ⟨rfl, rfl⟩ := I1 h
    refine ⟨I, ?_, fun σ' H' h => ?_⟩
    · refine ⟨_, rfl, t4, _, rfl, .inr q4, _, _, rfl, rfl, _, rfl, ?_⟩
      by_cases e : p.bh = []
      · exact iteNo (decide_eq_false (by rw [l4, e]; decide)) I0
      · exact iteYes (decide_eq_true (by have := List.length_pos_iff.mpr e; omega)) ⟨_, rfl, rfl, _, rfl, iteNo (by rw [n1]; have := hs.bh e; cases h : p.lp <;> simp_all) I0⟩
    obtain ⟨rfl, rfl⟩ := I1 h
    refine ⟨I, ?_, fun σ' H' h => ?_⟩
    · exact ⟨_, rfl, t0, _, rfl, .inr q0, _, _, rfl, rfl, _, rfl, iteNo (decide_eq_false (by have := hs.l0; omega)) I0⟩
    obtain ⟨rfl, rfl⟩ := I1 h
    have h2 : PtAt K cl H' (.ref t2) (some p.bt) := ⟨t2, a2, rfl, q2, d2⟩
    have h4 : PtAt K cl H' (.ref t4) (some p.bh) := ⟨t4, a4, rfl, q4, d4⟩
    have four : ∀ (i : Nat) (x : V), [v1, V.ref t2, v3, V.ref t4][i]? = some x → ∃ q, PtAt K cl H' x q ∧ (q.getD []).length ≤ 24 := fun i x hx => by
      match i, hx with
      | 0, hx => cases hx; exact ⟨_, h1, hs.l1⟩
      | 1, hx => cases hx; exact ⟨_, h2, hs.l2⟩
      | 2, hx => cases hx; exact ⟨_, h3, hs.l3⟩
      | 3, hx => cases hx; exact ⟨_, h4, hs.l4⟩
      | i + 4, hx => simp at hx
    refine ⟨fun σ' H1 => ∃ x, σ' = [some (.ref l), some (.ref t0), some v1, some (.ref t2), some v3, some (.ref t4), x] ∧ Ext H' H1, ?_, ?_⟩
    · refine ⟨_, rfl, 1, rfl, l, _, rfl, SqL.of hl, fun q nq => ?_⟩
      rw [show cutV [V.ref t0, v1, V.ref t2, v3, V.ref t4] (some 1) none = [v1, V.ref t2, v3, V.ref t4] from rfl]
      have e1 : Ext H' (upd H' q (.lst [v1, V.ref t2, v3, V.ref t4])) := Ext.upd nq
      have f1 : (upd H' q (.lst [v1, V.ref t2, v3, V.ref t4])) q = some (.lst [v1, V.ref t2, v3, V.ref t4]) := upd_same
      generalize (upd H' q (.lst [v1, V.ref t2, v3, V.ref t4])) = H1 at e1 f1
      refine ⟨q, rfl, ⟨_, SqL.of f1⟩, for_it (walk_list (K := K) (xs := [v1, V.ref t2, v3, V.ref t4])) (fun i σ' H2 => (∃ x, σ' = [some (.ref l), some (.ref t0), some v1, some (.ref t2), some v3, some (.ref t4), x]) ∧ H2 = H1) ⟨⟨_, rfl⟩, rfl⟩ (fun i σ' H2 _ ⟨_, e⟩ => by rw [e]; exact SqL.of f1) ?_ ?_⟩
      · rintro i x σ' _ H2 hi ⟨⟨x0, rfl⟩, rfl⟩ ⟨rfl, hx⟩
        obtain ⟨q, hq, lq⟩ := four i x hx
        have nx := (hq.ext e1).nn
        cases q with
        | none => exact ⟨_, rfl, rfl, _, rfl, iteNo (by rw [nx]; rfl) ⟨⟨_, rfl⟩, rfl⟩⟩
        | some ds =>
          obtain ⟨t', as, rfl, qt, dt⟩ := hq
          refine ⟨_, rfl, rfl, _, rfl, iteYes (by rw [nx]; rfl) ?_⟩
          exact ⟨_, rfl, t', _, rfl, .inr (qt.ext e1), _, _, rfl, rfl, _, rfl, iteNo (decide_eq_false (by rw [List.length_map, dt.1]; have : ds.length ≤ 24 := lq; omega)) ⟨⟨_, rfl⟩, rfl⟩⟩
      · rintro σ' H2 ⟨⟨x0, rfl⟩, rfl⟩
        exact ⟨_, rfl, e1⟩
    · rintro σ' H1 ⟨x, rfl, e1⟩
      have hl5 := hs.l5
      refine ⟨_, rfl, t0, _, rfl, .inr (q0.ext e1), _, rfl, t2, _, rfl, .inr (q2.ext e1), _, _, rfl, rfl, _, rfl, t4, _, rfl, .inr (q4.ext e1), _, _, rfl, rfl, _, _, rfl, rfl, _, rfl, iteNo (decide_eq_false (by omega)) (k _ e1)⟩
/-! ### deeds_of -/
def spDeeds (K : PySem.W.Frag) (cl : Dd → Addr) : Sp := fun vs H Q _ => ∃ (t : Addr) (xs : List V) (p : Pr), vs = [.ref t] ∧ SqT K H t xs ∧ PtsAt K cl H xs p ∧ p.ds.length ≤ 1000 ∧ ∀ q as H', Ext H H' → H q = none → H' q = some (.lst (as.map V.ref)) → DsAt cl H' as p.ds → Q (.ref q) H'
abbrev s_deeds_of : Stmt := top 50
abbrev N_deeds_of : List Str := ["parts", "part", "deed"]
theorem sc_deeds_of : FnScope N_deeds_of ["parts"] (defScope s_deeds_of) := ⟨rfl, rfl, rfl, by decide +kernel, rfl, by decide +kernel, by decide +kernel⟩
theorem ok_deeds {cl : Dd → Addr} {f : Addr} {fd : FuncData} (F : Fun K "deeds_of" "deeds_of" s_deeds_of f fd) (T : Tx K mg CE CD CU CM CO CP tP tk) : FnOk P w K mg base CX0 1 f fd ["parts"] (spDeeds K cl) := by
  refine F.ok sc_deeds_of (fun vs H Q E h => ?_) (fun cdv A outer s H vs Q E hr h => ?_)
  · obtain ⟨t, xs, p, rfl, _⟩ := h
    rfl
  · obtain ⟨t, xs, p, rfl, ht, hp, hn, k⟩ := h
    refine ⟨_, (pss_one (ps_ret (pe_lc2 (own := [("part", 1), ("deed", 2)]) (vs1 := [2]) rfl sc_deeds_of.nd (pi_tup (pv 0)) (blkOk_by (own := [("part", 1), ("deed", 2)]) (N := N_deeds_of) (sc := defScope s_deeds_of) (by decide +kernel)) (by decide) (fun _ _ _ _ _ => (pg_name (i := 1) sc_deeds_of.nd rfl (by first | exact Or.inl rfl | exact Or.inr rfl))) (fun _ _ _ _ _ => pts_one (pt_cmpR op_notN (pv 1) pe_non (nomark _))) (fun _ _ _ _ _ => (pi_tupK (K := K) rfl (pv 1))) (fun _ _ _ _ _ => (pg_name (i := 2) sc_deeds_of.nd rfl (by first | exact Or.inl rfl | exact Or.inr rfl))) (fun _ _ _ _ _ => pts_nil) (fun _ _ _ _ _ => (pv 2))))), ?_⟩
    obtain ⟨ass, hl5, hds, hat⟩ := hp.refs
    have e5 : (ass.map fun as => as.map V.ref).flatten = ass.flatten.map V.ref := by rw [List.map_flatten]
    refine ⟨_, rfl, t, rfl, ⟨_, ht⟩, fun D hD => ?_⟩
    refine lc2_det (walk_tup (K := K) (xs := xs)) (ass.map fun as => as.map V.ref) (by rw [List.length_map, hl5, hp.len]) (by rw [e5, List.length_map, hds.1]; omega) hD (fun H' e => ht.ext e) ?_ (fun H' e hD' => ?_)
    · rintro i x H8 _ ys R N hi e8 ⟨acc, hD8⟩ ⟨rfl, hx⟩ hy kR kN
      obtain ⟨as, h1, h2⟩ := hat i x hx
      rw [List.getElem?_map, h1] at hy
      cases hy
      refine ⟨rfl, _, rfl, rfl, _, rfl, ?_⟩
      rcases h2 with ⟨rfl, rfl⟩ | ⟨t', rfl, ht'⟩
      · exact iteNo rfl (kN rfl _ Ext.rfl')
      · refine iteYes rfl ?_
        refine ⟨_, rfl, t', rfl, ⟨_, ht'.ext e8⟩, kR _ _ _ Ext.rfl' ⟨_, _, _, walk_tup (K := K) (xs := as.map V.ref), rfl, fun H9 e9 => ht'.ext fun b o q => Ext.at' e9 (by simpa using ne_of_none q hD) (e8 _ _ q), ?_⟩⟩
        · rintro j x H9 _ C hj e9 hD9 ⟨rfl, hx⟩ hC
          exact ⟨rfl, _, rfl, hC _ _ Ext.rfl' hx⟩
    · rw [e5] at hD'
      exact k D _ H' e hD hD' (hds.ext e)
end
end K33
end
section
set_option Elab.async false
set_option autoImplicit false
set_option linter.all false
set_option maxRecDepth 100000
set_option maxHeartbeats 4000000
set_option pp.maxSteps 1500
namespace K33
open PySem PySem.Spec PyProof.Rows L2 Ls
open C8 (pss_cut tCut)
open TL
/-! ### a program in the heap -/
def agK (ag : List (Str × Int)) : List (Key × V) := ag.map fun x => (Sum.inr x.1, V.int x.2)
theorem agK_keys (ag : List (Str × Int)) : keysV (agK ag) = (ag.map (·.1)).map V.str := by
  unfold keysV agK
  rw [List.map_map, List.map_map]
  rfl
theorem agK_len (ag : List (Str × Int)) : (agK ag).length = ag.length := List.length_map _
theorem agK_get : ∀ {ag : List (Str × Int)} {z : Str} {n : Int}, (ag.map (·.1)).Nodup → (z, n) ∈ ag → valV (agK ag) (Sum.inr z) = some (.int n)
  | (y, m) :: r, z, n, nd, h => by
    obtain ⟨h1, h2⟩ := List.nodup_cons.mp nd
    by_cases e : y = z
    · subst e
      rcases List.mem_cons.mp h with h | h
      · cases h
        exact valV_pos rfl
      · exact absurd (List.mem_map.mpr ⟨_, h, rfl⟩) h1
    · rcases List.mem_cons.mp h with h | h
      · cases h
        exact absurd rfl e
      · exact (valV_neg (fun q => e (Sum.inr.inj q))).trans (agK_get h2 h)
theorem agK_no : ∀ {ag : List (Str × Int)} {z : Str}, z ∉ ag.map (·.1) → valV (agK ag) (Sum.inr z) = none
  | [], z, _ => valV_nil
  | (y, m) :: r, z, h => (valV_neg (fun q => h (by rw [← Sum.inr.inj q]; simp))).trans (agK_no fun q => h (by rw [List.map_cons]; exact List.mem_cons_of_mem _ q))
/-- what is asked of again names, and what is kept of them -/
structure AgS (gi ag : List (Str × Int)) : Prop where
  as : Asc (gi.map (·.1)) (ag.map (·.1))
  mm : ∀ x, x ∈ ag ↔ x ∈ gi
def AgIn (H : Hp) (v : V) (gi : List (Str × Int)) : Prop := (v = .non ∧ gi = []) ∨ ∃ d, v = .ref d ∧ H d = some (.dK (agK gi))
structure AgOk (gi : List (Str × Int)) : Prop where
  nd : (gi.map (·.1)).Nodup
  nm : ∀ z ∈ gi.map (·.1), isName z = true
  pr : ∀ x ∈ gi, 0 ≤ x.2 ∧ x.2 ≤ 9
  ln : gi.length ≤ 60
def prc : List (Str × Int) → Str → Int
  | [], _ => 0
  | (y, m) :: r, z => if y = z then m else prc r z
theorem prc_in : ∀ {gi : List (Str × Int)} {z : Str}, z ∈ gi.map (·.1) → (z, prc gi z) ∈ gi
  | [], z, h => by simp at h
  | (y, m) :: r, z, h => by
    by_cases e : y = z
    · have : prc ((y, m) :: r) z = m := if_pos e
      rw [this, e]
      exact List.mem_cons_self ..
    · have : prc ((y, m) :: r) z = prc r z := if_neg e
      rw [this]
      rcases List.mem_cons.mp (by simpa using h : z ∈ y :: r.map (·.1)) with h | h
      · exact absurd h.symm e
      · exact List.mem_cons_of_mem _ (prc_in h)
theorem prc_at : ∀ {gi : List (Str × Int)} {z : Str} {n : Int}, (gi.map (·.1)).Nodup → (z, n) ∈ gi → prc gi z = n
  | (y, m) :: r, z, n, nd, h => by
    obtain ⟨h1, h2⟩ := List.nodup_cons.mp nd
    rcases List.mem_cons.mp h with h | h
    · cases h
      exact if_pos rfl
    · by_cases e : y = z
      · exact absurd (List.mem_map.mpr ⟨_, h, e.symm⟩) h1
      · exact (if_neg e).trans (prc_at h2 h)
def agF (gi : List (Str × Int)) (zs : List Str) : List (Str × Int) := zs.map fun z => (z, prc gi z)
theorem agF_keys (gi : List (Str × Int)) (zs : List Str) : (agF gi zs).map (·.1) = zs := by
  unfold agF
  rw [List.map_map]
  exact List.map_id _
theorem agF_ok {gi : List (Str × Int)} {zs : List Str} (hg : (gi.map (·.1)).Nodup) (pm : zs.Perm (gi.map (·.1))) (so : sortedS zs = true) : AgS gi (agF gi zs) := by
  refine ⟨by rw [agF_keys]; exact ⟨pm.nodup_iff.mpr hg, so, fun y => pm.mem_iff⟩, fun x => ⟨fun h => ?_, fun h => ?_⟩⟩
  · obtain ⟨z, hz, rfl⟩ := List.mem_map.mp h
    exact prc_in (pm.mem_iff.mp hz)
  · obtain ⟨z, n⟩ := x
    exact List.mem_map.mpr ⟨z, pm.mem_iff.mpr (List.mem_map.mpr ⟨_, h, rfl⟩), by rw [prc_at hg h]⟩
theorem agF_snoc {gi : List (Str × Int)} {zs : List Str} {i : Nat} {z : Str} (hnd : zs.Nodup) (hz : zs[i]? = some z) : putK (agK (agF gi (zs.take i))) (Sum.inr z) (.int (prc gi z)) = agK (agF gi (zs.take (i + 1))) := by
  have htk : zs.take (i + 1) = zs.take i ++ [z] := by rw [List.take_add_one, hz]; rfl
  rw [putK_new _ (agK_no (by rw [agF_keys]; exact not_take hnd hz)), htk]
  unfold agK agF
  rw [List.map_append, List.map_append]
  rfl
section
variable {P : PySem.Program} {w : World} {K : PySem.W.Frag} {mg : Str → Option Value} {base : Heap} {CE CD CU CM CO CP tP : Addr} {tk : Str → Tok}
/-! ### need_again -/
def spAgain : Sp := fun vs H Q _ => ∃ (v : V) (gi : List (Str × Int)), vs = [v] ∧ AgIn H v gi ∧ AgOk gi ∧ ∀ q ag H', AgS gi ag → Ext H H' → nw H H' q = some (.dK (agK ag)) → Q (.ref q) H'
abbrev s_need_again : Stmt := top 49
abbrev N_need_again : List Str := ["prices", "told", "name", "key", "found"]
theorem sc_need_again : FnScope N_need_again ["prices"] (defScope s_need_again) := ⟨rfl, rfl, rfl, by decide +kernel, rfl, by decide +kernel, by decide +kernel⟩
theorem ok_again {f : Addr} {fd : FuncData} (F : Fun K "need_again" "need_again" s_need_again f fd) (T : Tx K mg CE CD CU CM CO CP tP tk) (c_is_name : Cal P w K mg base CX0 1 "is_name" spName) (c_need_price : Cal P w K mg base CX0 3 "need_price" spPrice) : FnOk P w K mg base CX0 4 f fd ["prices"] spAgain := by
  refine F.ok sc_need_again (fun vs H Q E h => ?_) (fun cdv A outer s H vs Q E hr h => ?_)
  · obtain ⟨v, gi, rfl, _⟩ := h
    rfl
  · obtain ⟨v, gi, rfl, hv, hg, k⟩ := h
    have hu := hu_of hr
    have h4 : sizeLine = 16777216 := sizeLine_eq
    refine ⟨_, (pss_cut (ps_set (i := 1) sc_need_again.nd rfl (by first | exact Or.inl rfl | exact Or.inr rfl) (pe_ifExp (pt_cmpR op_isN (pv 0) pe_non (nomark _)) pe_dnewK (pv 0)))
      (pss_cons (ps_for PassesOwn.never rfl (pi_list (pe_callB cr_sortedS (by rfl) (T.bn _ (by decide +kernel)) (by decide +kernel) (pa_cons (pe_lock (pe_lc (own := [("key", 3)]) rfl sc_need_again.nd (pi_keys (pv 1)) (blkOk_by (own := [("key", 3)]) (N := N_need_again) (sc := defScope s_need_again) (by decide +kernel)) (fun _ _ _ _ _ => (pg_name (i := 3) sc_need_again.nd rfl (by first | exact Or.inl rfl | exact Or.inr rfl))) (fun _ _ _ _ _ => pts_nil) (fun _ _ _ _ _ => (pe_callTy SkE.call_str_str (by rfl) (T.bn _ (by decide +kernel)) (by decide +kernel) (pa_cons (pv 3) pa_nil))))) pa_nil))) (pg_name (i := 2) sc_need_again.nd rfl (by first | exact Or.inl rfl | exact Or.inr rfl))
      (pss_one (ps_if (pt_not (pt_val (pe_cal c_is_name (hr.mono (by decide)) (by rfl) pass0 (pa_cons (pv 2) pa_nil)))) (pss_one ps_never) pss_nil)))
      (pss_cons (ps_set (i := 4) sc_need_again.nd rfl (by first | exact Or.inl rfl | exact Or.inr rfl) pe_dnewK)
      (pss_cons (ps_for PassesOwn.never rfl (pi_list (pe_callB cr_sortedS (by rfl) (T.bn _ (by decide +kernel)) (by decide +kernel) (pa_cons (pe_lock (pe_lc (own := [("key", 3)]) rfl sc_need_again.nd (pi_keys (pv 1)) (blkOk_by (own := [("key", 3)]) (N := N_need_again) (sc := defScope s_need_again) (by decide +kernel)) (fun _ _ _ _ _ => (pg_name (i := 3) sc_need_again.nd rfl (by first | exact Or.inl rfl | exact Or.inr rfl))) (fun _ _ _ _ _ => pts_nil) (fun _ _ _ _ _ => (pe_callTy SkE.call_str_str (by rfl) (T.bn _ (by decide +kernel)) (by decide +kernel) (pa_cons (pv 3) pa_nil))))) pa_nil))) (pg_name (i := 2) sc_need_again.nd rfl (by first | exact Or.inl rfl | exact Or.inr rfl))
      (pss_one (ps_dput hu (pv 4) (pv 2) (pe_cal c_need_price (hr.mono (by decide)) (by rfl) pass0 (pa_cons (pe_dget hu (pv 1) (pv 2) (fun _ _ => rfl)) pa_nil)) rfl)))
      (pss_one (ps_ret (pv 4))))))), ?_⟩
    refine ⟨fun σ' H' => ∃ d, σ' = [some v, some (.ref d), none, none, none] ∧ Ext H H' ∧ H' d = some (.dK (agK gi)), ?_, ?_⟩
    · rcases hv with ⟨rfl, rfl⟩ | ⟨d, rfl, hd⟩
      · refine ⟨_, rfl, rfl, _, rfl, iteYes rfl fun p np => ⟨p, rfl, Ext.upd np, upd_same⟩⟩
      · exact ⟨_, rfl, rfl, _, rfl, iteNo rfl ⟨_, rfl, _, rfl, Ext.rfl', hd⟩⟩
    rintro σ' H1 ⟨d, rfl, e1, hd⟩
    refine ⟨d, _, hd, True.intro, fun od => ?_⟩
    refine ⟨_, rfl, d, od, rfl, .inl ⟨_, upd_same, fun D hD => ?_⟩⟩
    have nD : H1 D = none := by
      by_cases e : D = d
      · rw [e, upd_same] at hD; cases hD
      · rwa [upd_ne e] at hD
    have wk := walk_keysV (d := d) (o := od) (kvs := agK gi) (n := ((gi.map (·.1)).map V.str).length) (by rw [List.length_map, List.length_map, agK_len])
    rw [agK_keys] at wk
    refine lc_str1 (zs := gi.map (·.1)) wk (fun z => V.str z) (by rw [List.length_map]; have := hg.ln; omega) (fun l => by rw [upd_ne (ne_of_none hd nD)]; exact upd_same) (fun i z l C hz hC => ⟨rfl, _, rfl, _, rfl, hC⟩) ?_
    refine ⟨by rw [upd_ne (ne_of_none hd nD)]; exact upd_same, ?_⟩
    rw [lock_back hd nD]
    refine ⟨D, _, rfl, SqL.of upd_same, by rw [List.length_map]; have := hg.ln; omega, fun ys q pm so nq => ?_⟩
    have e2 : Ext H1 (upd (upd H1 D (.lst ((gi.map (·.1)).map V.str))) q (.lst (ys.map V.str))) := (Ext.upd nD).trans (Ext.upd nq)
    have f2 : (upd (upd H1 D (.lst ((gi.map (·.1)).map V.str))) q (.lst (ys.map V.str))) q = some (.lst (ys.map V.str)) := upd_same
    generalize (upd (upd H1 D (.lst ((gi.map (·.1)).map V.str))) q (.lst (ys.map V.str))) = H2 at e2 f2
    have e02 := e1.trans e2
    have hny : ∀ z ∈ ys, isName z = true := fun z hz => hg.nm z (pm.mem_iff.mp hz)
    have hd2 := e2 _ _ hd
    have lys : ys.length = gi.length := by rw [pm.length_eq, List.length_map]
    refine ⟨q, rfl, ⟨_, SqL.of f2⟩, for_it (walk_list (K := K) (xs := ys.map V.str)) (fun i σ' H' => ∃ x, σ' = [some v, some (.ref d), x, none, none] ∧ Ext H2 H') ⟨_, rfl, Ext.rfl'⟩ (fun i σ' H' _ ⟨_, _, e⟩ => (SqL.of f2).ext e) ?_ ?_⟩
    · rintro i x σ' _ H3 hi ⟨x2, rfl, e3⟩ ⟨rfl, hx⟩
      rw [List.getElem?_map] at hx
      obtain ⟨z, hz, rfl⟩ := Option.map_eq_some_iff.mp hx
      have hzn := hny z (List.mem_of_getElem? hz)
      refine ⟨_, rfl, .str z, .str z, rfl, .str _, name_sm hzn, fun H4 e4 => ⟨_, rfl, ?_⟩⟩
      rw [nameOf_str hzn]
      exact iteF ⟨_, rfl, e3.trans e4⟩
    rintro σ' H3 ⟨x2, rfl, e3⟩
    intro r nr
    have hd3 := e3 _ _ hd2
    clear hD wk
    have e4 : Ext H3 (upd H3 r (.dK [])) := Ext.upd nr
    have f4 : (upd H3 r (.dK [])) r = some (.dK []) := upd_same
    generalize (upd H3 r (.dK [])) = H4 at e4 f4
    have hd4 := e4 _ _ hd3
    have e04 := (e02.trans e3).trans e4
    have nrH : H r = none := ext_free (e02.trans e3) nr
    refine ⟨d, _, hd4, True.intro, fun od => ?_⟩
    refine ⟨_, rfl, d, od, rfl, .inl ⟨_, upd_same, fun D_1 hD => ?_⟩⟩
    have nD4 : H4 D_1 = none := by
      by_cases e : D_1 = d
      · rw [e, upd_same] at hD; cases hD
      · rwa [upd_ne e] at hD
    have wk := walk_keysV (d := d) (o := od) (kvs := agK gi) (n := ((gi.map (·.1)).map V.str).length) (by rw [List.length_map, List.length_map, agK_len])
    rw [agK_keys] at wk
    refine lc_str1 (zs := gi.map (·.1)) wk (fun z => V.str z) (by rw [List.length_map]; have := hg.ln; omega) (fun l => by rw [upd_ne (ne_of_none hd4 nD4)]; exact upd_same) (fun i z l C hz hC => ⟨rfl, _, rfl, _, rfl, hC⟩) ?_
    refine ⟨by rw [upd_ne (ne_of_none hd4 nD4)]; exact upd_same, ?_⟩
    rw [lock_back hd4 nD4]
    refine ⟨D_1, _, rfl, SqL.of upd_same, by rw [List.length_map]; have := hg.ln; omega, fun zs q2 pm2 so2 nq2 => ?_⟩
    have e5 : Ext H4 (upd (upd H4 D_1 (.lst ((gi.map (·.1)).map V.str))) q2 (.lst (zs.map V.str))) := (Ext.upd nD4).trans (Ext.upd nq2)
    have f5 : (upd (upd H4 D_1 (.lst ((gi.map (·.1)).map V.str))) q2 (.lst (zs.map V.str))) q2 = some (.lst (zs.map V.str)) := upd_same
    generalize (upd (upd H4 D_1 (.lst ((gi.map (·.1)).map V.str))) q2 (.lst (zs.map V.str))) = H5 at e5 f5
    have hnz : zs.Nodup := pm2.nodup_iff.mpr hg.nd
    have lzs : (zs.map V.str).length = zs.length := List.length_map _
    have lz2 : zs.length = gi.length := by rw [pm2.length_eq, List.length_map]
    have hln := hg.ln
    have f45 := e5 _ _ f4
    have nr1 : H1 r = none := ext_free (e2.trans e3) nr
    have nq2r : q2 ≠ r := fun z => by
      have := nq2
      rw [z, upd_ne (ne_of_none f4 nD4), f4] at this
      cases this
    refine ⟨q2, rfl, ⟨_, SqL.of f5⟩, for_it (walk_list (K := K) (xs := zs.map V.str)) (fun i σ' H' => ∃ x, σ' = [some v, some (.ref d), x, none, some (.ref r)] ∧ (∀ b o, H5 b = some o → b ≠ r → H' b = some o) ∧ H' r = some (.dK (agK (agF gi (zs.take i))))) ⟨_, rfl, fun b o q _ => q, by simpa [agF, agK] using f45⟩ (fun i σ' H' _ ⟨_, _, e, _⟩ => SqL.of (e _ _ f5 nq2r)) ?_ ?_⟩
    · rintro i x σ' _ H6 hi ⟨x3, rfl, e6, f6⟩ ⟨rfl, hx⟩
      rw [List.getElem?_map] at hx
      obtain ⟨z, hz, rfl⟩ := Option.map_eq_some_iff.mp hx
      have hzi := pm2.mem_iff.mp (List.mem_of_getElem? hz)
      have hzg := prc_in hzi
      obtain ⟨p0, p9⟩ := hg.pr _ hzg
      have hd6 := e6 _ _ (e5 _ _ hd4) (ne_of_none hd3 nr)
      have gt : DGet H6 d (.str z) (some (.int (prc gi z))) := by
        have := DGet.k (k := Sum.inr z) hd6
        rwa [agK_get hg.nd hzg] at this
      refine ⟨_, rfl, _, rfl, d, _, rfl, gt, prc gi z, rfl, p0, p9, ?_⟩
      refine ⟨_, rfl, _, rfl, r, _, rfl, DPut.k (k := Sum.inr z) f6 (by rw [agK_len, agF, List.length_map]; have := List.length_take_le i zs; omega), _, rfl, fun b o hb nb => ?_, ?_⟩
      · rw [upd_ne nb]
        exact e6 b o hb nb
      · rw [agF_snoc hnz hz]
        exact upd_same
    · rintro σ' H6 ⟨x3, rfl, e6, f6⟩
      rw [lzs, List.take_length] at f6
      refine ⟨_, rfl, k r _ H6 (agF_ok hg.nd pm2 so2) (fun b o hb => e6 b o (e5 _ _ (e04 b o hb)) (ne_of_none hb nrH)) ?_⟩
      rw [nw_at nrH]
      exact f6
end
end K33
end
section
set_option Elab.async false
set_option autoImplicit false
set_option linter.all false
set_option maxRecDepth 100000
set_option maxHeartbeats 4000000
set_option pp.maxSteps 1500
namespace K33
open PySem PySem.Spec PyProof.Rows L2 Ls
open C8 (pss_cut tCut)
open TL
/-! ### the ascending list, reckoned -/
def insS (z : Str) : List Str → List Str
  | [] => [z]
  | y :: l => if z = y then y :: l else if ltCps (tl z) (tl y) = true then z :: y :: l else y :: insS z l
def ascF : List Str → List Str
  | [] => []
  | z :: r => insS z (ascF r)
theorem lt_tri {a b : Str} (h : ¬ tl a < tl b) (n : a ≠ b) : tl b < tl a := by
  by_cases h2 : tl b < tl a
  · exact h2
  · exact absurd (ext_tl (List.le_antisymm (List.not_lt.mp h2) (List.not_lt.mp h))) n
theorem insS_mem (z : Str) : ∀ {l : List Str} {y : Str}, y ∈ insS z l ↔ y = z ∨ y ∈ l
  | [], y => by simp [insS]
  | x :: l, y => by
    show y ∈ (if z = x then x :: l else if ltCps (tl z) (tl x) = true then z :: x :: l else x :: insS z l) ↔ _
    by_cases e : z = x
    · rw [if_pos e, e]
      simp
    · rw [if_neg e]
      by_cases h : ltCps (tl z) (tl x) = true
      · rw [if_pos h]
        simp
      · rw [if_neg h, List.mem_cons, insS_mem z, List.mem_cons]
        constructor
        · rintro (h | h | h)
          · exact .inr (.inl h)
          · exact .inl h
          · exact .inr (.inr h)
        · rintro (h | h | h)
          · exact .inr (.inl h)
          · exact .inl h
          · exact .inr (.inr h)
theorem insS_pw {z : Str} : ∀ {l : List Str}, (l.Pairwise fun a b => tl a < tl b) → (insS z l).Pairwise fun a b => tl a < tl b
  | [], _ => List.pairwise_cons.mpr ⟨fun _ h => absurd h List.not_mem_nil, .nil⟩
  | x :: l, h => by
    obtain ⟨h1, h2⟩ := List.pairwise_cons.mp h
    show (if z = x then x :: l else if ltCps (tl z) (tl x) = true then z :: x :: l else x :: insS z l).Pairwise _
    by_cases e : z = x
    · rw [if_pos e]
      exact h
    · rw [if_neg e]
      by_cases c : ltCps (tl z) (tl x) = true
      · rw [if_pos c]
        rw [ltCps_eq, decide_eq_true_eq] at c
        refine List.pairwise_cons.mpr ⟨fun y hy => ?_, h⟩
        rcases List.mem_cons.mp hy with rfl | hy
        · exact c
        · exact List.lt_trans c (h1 y hy)
      · rw [if_neg c]
        rw [ltCps_eq, decide_eq_true_eq] at c
        refine List.pairwise_cons.mpr ⟨fun y hy => ?_, insS_pw h2⟩
        rcases (insS_mem z).mp hy with rfl | hy
        · exact lt_tri c e
        · exact h1 y hy
theorem ascF_pw : ∀ zs : List Str, (ascF zs).Pairwise fun a b => tl a < tl b
  | [] => .nil
  | z :: r => insS_pw (ascF_pw r)
theorem ascF_mem : ∀ {zs : List Str} {y : Str}, y ∈ ascF zs ↔ y ∈ zs
  | [], y => Iff.rfl
  | z :: r, y => by
    show y ∈ insS z (ascF r) ↔ _
    rw [insS_mem, ascF_mem, List.mem_cons]
theorem pw_rising : ∀ {l : List Str} {p : Str}, (p :: l).Pairwise (fun a b => tl a < tl b) → risingS p l = true
  | [], _, _ => rfl
  | x :: r, p, h => by
    obtain ⟨h1, h2⟩ := List.pairwise_cons.mp h
    show (!ltCps x.cps.toList p.cps.toList && risingS x r) = true
    rw [ltCps_eq, pw_rising h2, decide_eq_false (show ¬ x.cps.toList < p.cps.toList from List.lt_asymm (h1 x (by simp)))]
    rfl
theorem pw_sorted {l : List Str} (h : l.Pairwise fun a b => tl a < tl b) : sortedS l = true := by
  cases l with
  | nil => rfl
  | cons x r => exact pw_rising h
theorem pw_nodup {l : List Str} (h : l.Pairwise fun a b => tl a < tl b) : l.Nodup := List.Pairwise.imp (S := fun a b => a ≠ b) (fun {a b} h e => by subst e; exact List.lt_irrefl _ h) h
theorem ascF_ok (zs : List Str) : Asc zs (ascF zs) := ⟨pw_nodup (ascF_pw zs), pw_sorted (ascF_pw zs), fun _ => ascF_mem⟩
theorem Asc.eq {zs ys : List Str} (h : Asc zs ys) : ys = ascF zs := h.uniq (ascF_ok zs) fun _ => Iff.rfl
theorem ascF_congr {zs zs' : List Str} (h : ∀ y, y ∈ zs ↔ y ∈ zs') : ascF zs = ascF zs' := (ascF_ok zs).uniq (ascF_ok zs') h
/-! ### a program in the heap -/
def pfl (t g q r : Addr) : List (Str × V) := putF "own_results" (.ref r) (putF "own_again" (.ref q) (putF "own_given" (.ref g) (putF "own_parts" (.ref t) [])))
theorem n12 : ¬ (("own_parts" : Str) = "own_given") := by decide +kernel
theorem n13 : ¬ (("own_parts" : Str) = "own_again") := by decide +kernel
theorem n14 : ¬ (("own_parts" : Str) = "own_results") := by decide +kernel
theorem n23 : ¬ (("own_given" : Str) = "own_again") := by decide +kernel
theorem n24 : ¬ (("own_given" : Str) = "own_results") := by decide +kernel
theorem n34 : ¬ (("own_again" : Str) = "own_results") := by decide +kernel
theorem pfl_p (t g q r : Addr) : (pfl t g q r).lookup ("own_parts" : Str) = some (.ref t) := by
  unfold pfl
  rw [lookup_putF, if_neg n14, lookup_putF, if_neg n13, lookup_putF, if_neg n12, lookup_putF, if_pos rfl]
theorem pfl_g (t g q r : Addr) : (pfl t g q r).lookup ("own_given" : Str) = some (.ref g) := by
  unfold pfl
  rw [lookup_putF, if_neg n24, lookup_putF, if_neg n23, lookup_putF, if_pos rfl]
theorem pfl_a (t g q r : Addr) : (pfl t g q r).lookup ("own_again" : Str) = some (.ref q) := by
  unfold pfl
  rw [lookup_putF, if_neg n34, lookup_putF, if_pos rfl]
theorem pfl_r (t g q r : Addr) : (pfl t g q r).lookup ("own_results" : Str) = some (.ref r) := by
  unfold pfl
  rw [lookup_putF, if_pos rfl]
structure PrAt (K : PySem.W.Frag) (cl : Dd → Addr) (CP : Addr) (H : Hp) (a : Addr) (p : Pr) : Prop where
  ex : ∃ dx t vs g q r, H a = some (.ins CP dx (pfl t g q r)) ∧ H t = some (.tup vs) ∧ PtsAt K cl H vs p ∧ H g = some (.tup (p.gv.map V.str)) ∧ H q = some (.dK (agK p.ag)) ∧ H r = some (.tup (p.rs.map V.str))
theorem PrAt.ext {K : PySem.W.Frag} {cl : Dd → Addr} {CP : Addr} {H H' : Hp} {a : Addr} {p : Pr} (h : PrAt K cl CP H a p) (e : Ext H H') : PrAt K cl CP H' a p :=
  let ⟨dx, t, vs, g, q, r, h1, h2, h3, h4, h5, h6⟩ := h.ex
  ⟨⟨dx, t, vs, g, q, r, e _ _ h1, e _ _ h2, h3.ext e, e _ _ h4, e _ _ h5, e _ _ h6⟩⟩
/-- what the top says of the class -/
structure ClP (K : PySem.W.Frag) (CP : Addr) : Prop where
  cl : Cls K CP
  nP : NoAttr K CP "own_parts"
  nG : NoAttr K CP "own_given"
  nA : NoAttr K CP "own_again"
  nR : NoAttr K CP "own_results"
/-- all names, as they come -/
def dn (d : Dd) : List Str := d.2 ++ d.1.toList
def Pr.nl (p : Pr) : List Str := (p.ds.map fun d => ascF (dn d)).flatten ++ (p.gv ++ (p.ag.map (·.1) ++ p.rs))
def InC (CU CM CO C : Addr) : Prop := C = CU ∨ C = CM ∨ C = CO
theorem clsD_in (CU CM CO : Addr) (d : Dd) : InC CU CM CO (clsD CU CM CO d) := by
  obtain ⟨m, us⟩ := d
  cases m with
  | none => exact .inl rfl
  | some z =>
    cases us with
    | nil => exact .inr (.inl rfl)
    | cons u r => exact .inr (.inr rfl)
theorem DeedAt.at_ {cl : Dd → Addr} {H : Hp} {a : Addr} {d : Dd} (h : DeedAt cl H a d) : ∃ dx fs, H a = some (.ins (cl d) dx fs) := let ⟨dx, fs, _, _, h1, _⟩ := h; ⟨dx, fs, h1⟩
section
variable {P : PySem.Program} {w : World} {K : PySem.W.Frag} {mg : Str → Option Value} {base : Heap} {CE CD CU CM CO CP tP : Addr} {tk : Str → Tok}
/-! ### the properties -/
def spPt (K : PySem.W.Frag) (cl : Dd → Addr) (CP : Addr) (sel : Pr → Option (List Dd)) : Sp := fun vs H Q _ => ∃ (a : Addr) (p : Pr), vs = [.ref a] ∧ PrAt K cl CP H a p ∧ ∀ v, PtAt K cl H v (sel p) → Q v H
def spGR (K : PySem.W.Frag) (cl : Dd → Addr) (CP : Addr) (sel : Pr → List Str) : Sp := fun vs H Q _ => ∃ (a : Addr) (p : Pr), vs = [.ref a] ∧ PrAt K cl CP H a p ∧ ∀ g, H g = some (.tup ((sel p).map V.str)) → Q (.ref g) H
abbrev s_Program_ahead : Stmt := inClass (top 52) 2
abbrev N_Program_ahead : List Str := ["self"]
theorem sc_Program_ahead : FnScope N_Program_ahead ["self"] (defScope s_Program_ahead) := ⟨rfl, rfl, rfl, by decide +kernel, rfl, by decide +kernel, by decide +kernel⟩
theorem ok_pahead {cl : Dd → Addr} {f : Addr} {fd : FuncData} (F : Fun K "ahead" "Program.ahead" s_Program_ahead f fd) (T : Tx K mg CE CD CU CM CO CP tP tk) (hC : ClP K CP) : FnOk P w K mg base CX0 1 f fd ["self"] (spPt K cl CP fun p => some p.ah) := by
  refine F.ok sc_Program_ahead (fun vs H Q E h => ?_) (fun cdv A outer s H vs Q E hr h => ?_)
  · obtain ⟨a, p, rfl, _⟩ := h
    rfl
  · obtain ⟨a, p, rfl, ⟨dx, t, vs, g, q, r, ha, ht, hp, hg, hq, hr'⟩, k⟩ := h
    refine ⟨_, (pss_one (ps_ret (pe_ix ix_tup (pe_fld (pv 0) rfl) pe_int (fun _ _ => rfl)))), ?_⟩
    obtain ⟨v0, v1, v2, v3, v4, rfl, h0, h1, h2, h3, h4⟩ := hp
    exact ⟨_, rfl, a, _, dx, _, _, rfl, ha, hC.cl, hC.nP, pfl_p t g q r, t, _, 0, v0, rfl, rfl, SqT.of ht, atI_nat (j := 0) rfl, k _ h0⟩
abbrev s_Program_loop : Stmt := inClass (top 52) 3
abbrev N_Program_loop : List Str := ["self"]
theorem sc_Program_loop : FnScope N_Program_loop ["self"] (defScope s_Program_loop) := ⟨rfl, rfl, rfl, by decide +kernel, rfl, by decide +kernel, by decide +kernel⟩
theorem ok_ploop {cl : Dd → Addr} {f : Addr} {fd : FuncData} (F : Fun K "loop" "Program.loop" s_Program_loop f fd) (T : Tx K mg CE CD CU CM CO CP tP tk) (hC : ClP K CP) : FnOk P w K mg base CX0 1 f fd ["self"] (spPt K cl CP fun p => p.lp) := by
  refine F.ok sc_Program_loop (fun vs H Q E h => ?_) (fun cdv A outer s H vs Q E hr h => ?_)
  · obtain ⟨a, p, rfl, _⟩ := h
    rfl
  · obtain ⟨a, p, rfl, ⟨dx, t, vs, g, q, r, ha, ht, hp, hg, hq, hr'⟩, k⟩ := h
    refine ⟨_, (pss_one (ps_ret (pe_ix ix_tup (pe_fld (pv 0) rfl) pe_int (fun _ _ => rfl)))), ?_⟩
    obtain ⟨v0, v1, v2, v3, v4, rfl, h0, h1, h2, h3, h4⟩ := hp
    exact ⟨_, rfl, a, _, dx, _, _, rfl, ha, hC.cl, hC.nP, pfl_p t g q r, t, _, 1, v1, rfl, rfl, SqT.of ht, atI_nat (j := 1) rfl, k _ h1⟩
abbrev s_Program_between : Stmt := inClass (top 52) 4
abbrev N_Program_between : List Str := ["self"]
theorem sc_Program_between : FnScope N_Program_between ["self"] (defScope s_Program_between) := ⟨rfl, rfl, rfl, by decide +kernel, rfl, by decide +kernel, by decide +kernel⟩
theorem ok_pbetween {cl : Dd → Addr} {f : Addr} {fd : FuncData} (F : Fun K "between" "Program.between" s_Program_between f fd) (T : Tx K mg CE CD CU CM CO CP tP tk) (hC : ClP K CP) : FnOk P w K mg base CX0 1 f fd ["self"] (spPt K cl CP fun p => some p.bt) := by
  refine F.ok sc_Program_between (fun vs H Q E h => ?_) (fun cdv A outer s H vs Q E hr h => ?_)
  · obtain ⟨a, p, rfl, _⟩ := h
    rfl
  · obtain ⟨a, p, rfl, ⟨dx, t, vs, g, q, r, ha, ht, hp, hg, hq, hr'⟩, k⟩ := h
    refine ⟨_, (pss_one (ps_ret (pe_ix ix_tup (pe_fld (pv 0) rfl) pe_int (fun _ _ => rfl)))), ?_⟩
    obtain ⟨v0, v1, v2, v3, v4, rfl, h0, h1, h2, h3, h4⟩ := hp
    exact ⟨_, rfl, a, _, dx, _, _, rfl, ha, hC.cl, hC.nP, pfl_p t g q r, t, _, 2, v2, rfl, rfl, SqT.of ht, atI_nat (j := 2) rfl, k _ h2⟩
abbrev s_Program_second : Stmt := inClass (top 52) 5
abbrev N_Program_second : List Str := ["self"]
theorem sc_Program_second : FnScope N_Program_second ["self"] (defScope s_Program_second) := ⟨rfl, rfl, rfl, by decide +kernel, rfl, by decide +kernel, by decide +kernel⟩
theorem ok_psecond {cl : Dd → Addr} {f : Addr} {fd : FuncData} (F : Fun K "second" "Program.second" s_Program_second f fd) (T : Tx K mg CE CD CU CM CO CP tP tk) (hC : ClP K CP) : FnOk P w K mg base CX0 1 f fd ["self"] (spPt K cl CP fun p => p.sd) := by
  refine F.ok sc_Program_second (fun vs H Q E h => ?_) (fun cdv A outer s H vs Q E hr h => ?_)
  · obtain ⟨a, p, rfl, _⟩ := h
    rfl
  · obtain ⟨a, p, rfl, ⟨dx, t, vs, g, q, r, ha, ht, hp, hg, hq, hr'⟩, k⟩ := h
    refine ⟨_, (pss_one (ps_ret (pe_ix ix_tup (pe_fld (pv 0) rfl) pe_int (fun _ _ => rfl)))), ?_⟩
    obtain ⟨v0, v1, v2, v3, v4, rfl, h0, h1, h2, h3, h4⟩ := hp
    exact ⟨_, rfl, a, _, dx, _, _, rfl, ha, hC.cl, hC.nP, pfl_p t g q r, t, _, 3, v3, rfl, rfl, SqT.of ht, atI_nat (j := 3) rfl, k _ h3⟩
abbrev s_Program_behind : Stmt := inClass (top 52) 6
abbrev N_Program_behind : List Str := ["self"]
theorem sc_Program_behind : FnScope N_Program_behind ["self"] (defScope s_Program_behind) := ⟨rfl, rfl, rfl, by decide +kernel, rfl, by decide +kernel, by decide +kernel⟩
theorem ok_pbehind {cl : Dd → Addr} {f : Addr} {fd : FuncData} (F : Fun K "behind" "Program.behind" s_Program_behind f fd) (T : Tx K mg CE CD CU CM CO CP tP tk) (hC : ClP K CP) : FnOk P w K mg base CX0 1 f fd ["self"] (spPt K cl CP fun p => some p.bh) := by
  refine F.ok sc_Program_behind (fun vs H Q E h => ?_) (fun cdv A outer s H vs Q E hr h => ?_)
  · obtain ⟨a, p, rfl, _⟩ := h
    rfl
  · obtain ⟨a, p, rfl, ⟨dx, t, vs, g, q, r, ha, ht, hp, hg, hq, hr'⟩, k⟩ := h
    refine ⟨_, (pss_one (ps_ret (pe_ix ix_tup (pe_fld (pv 0) rfl) pe_int (fun _ _ => rfl)))), ?_⟩
    obtain ⟨v0, v1, v2, v3, v4, rfl, h0, h1, h2, h3, h4⟩ := hp
    exact ⟨_, rfl, a, _, dx, _, _, rfl, ha, hC.cl, hC.nP, pfl_p t g q r, t, _, 4, v4, rfl, rfl, SqT.of ht, atI_nat (j := 4) rfl, k _ h4⟩
abbrev s_Program_given : Stmt := inClass (top 52) 7
abbrev N_Program_given : List Str := ["self"]
theorem sc_Program_given : FnScope N_Program_given ["self"] (defScope s_Program_given) := ⟨rfl, rfl, rfl, by decide +kernel, rfl, by decide +kernel, by decide +kernel⟩
theorem ok_pgiven {cl : Dd → Addr} {f : Addr} {fd : FuncData} (F : Fun K "given" "Program.given" s_Program_given f fd) (T : Tx K mg CE CD CU CM CO CP tP tk) (hC : ClP K CP) : FnOk P w K mg base CX0 1 f fd ["self"] (spGR K cl CP fun p => p.gv) := by
  refine F.ok sc_Program_given (fun vs H Q E h => ?_) (fun cdv A outer s H vs Q E hr h => ?_)
  · obtain ⟨a, p, rfl, _⟩ := h
    rfl
  · obtain ⟨a, p, rfl, ⟨dx, t, vs, g, q, r, ha, ht, hp, hg, hq, hr'⟩, k⟩ := h
    refine ⟨_, (pss_one (ps_ret (pe_fld (pv 0) rfl))), ?_⟩
    exact ⟨_, rfl, a, _, dx, _, _, rfl, ha, hC.cl, hC.nG, pfl_g t g q r, k _ hg⟩
abbrev s_Program_results : Stmt := inClass (top 52) 9
abbrev N_Program_results : List Str := ["self"]
theorem sc_Program_results : FnScope N_Program_results ["self"] (defScope s_Program_results) := ⟨rfl, rfl, rfl, by decide +kernel, rfl, by decide +kernel, by decide +kernel⟩
theorem ok_presults {cl : Dd → Addr} {f : Addr} {fd : FuncData} (F : Fun K "results" "Program.results" s_Program_results f fd) (T : Tx K mg CE CD CU CM CO CP tP tk) (hC : ClP K CP) : FnOk P w K mg base CX0 1 f fd ["self"] (spGR K cl CP fun p => p.rs) := by
  refine F.ok sc_Program_results (fun vs H Q E h => ?_) (fun cdv A outer s H vs Q E hr h => ?_)
  · obtain ⟨a, p, rfl, _⟩ := h
    rfl
  · obtain ⟨a, p, rfl, ⟨dx, t, vs, g, q, r, ha, ht, hp, hg, hq, hr'⟩, k⟩ := h
    refine ⟨_, (pss_one (ps_ret (pe_fld (pv 0) rfl))), ?_⟩
    exact ⟨_, rfl, a, _, dx, _, _, rfl, ha, hC.cl, hC.nR, pfl_r t g q r, k _ hr'⟩
/-! ### names -/
def spPN (K : PySem.W.Frag) (cl : Dd → Addr) (CP : Addr) : Sp := fun vs H Q _ => ∃ (a : Addr) (p : Pr), vs = [.ref a] ∧ PrAt K cl CP H a p ∧ (∀ d ∈ p.ds, Good d) ∧ p.ds.length ≤ 1000 ∧ p.nl.length ≤ 1000 ∧ (∃ us : List Str, us.length ≤ 60 ∧ ∀ z ∈ p.nl, z ∈ us) ∧
  ∀ q H', Ext H H' → nw H H' q = some (.tup ((ascF p.nl).map V.str)) → Q (.ref q) H'
abbrev s_Program_names : Stmt := inClass (top 52) 10
abbrev N_Program_names : List Str := ["self", "used", "deed", "name"]
theorem sc_Program_names : FnScope N_Program_names ["self"] (defScope s_Program_names) := ⟨rfl, rfl, rfl, by decide +kernel, rfl, by decide +kernel, by decide +kernel⟩
theorem ok_pnames {f : Addr} {fd : FuncData} (F : Fun K "names" "Program.names" s_Program_names f fd) (T : Tx K mg CE CD CU CM CO CP tP tk) (hC : ClP K CP) (c_ascending : Cal P w K mg base CX0 1 "ascending" (spAsc K)) (c_deeds_of_programs : Cal P w K mg base CX0 1 "deeds_of_programs" (spDeeds K (clsD CU CM CO)))
    (c_dnames : Prp P w K mg base CX0 2 (InC CU CM CO) "names" (spNames (clsD CU CM CO))) : FnOk P w K mg base CX0 4 f fd ["self"] (spPN K (clsD CU CM CO) CP) := by
  refine F.ok sc_Program_names (fun vs H Q E h => ?_) (fun cdv A outer s H vs Q E hr h => ?_)
  · obtain ⟨a, p, rfl, _⟩ := h
    rfl
  · obtain ⟨a, p, rfl, ⟨dx, t, vs, g, q, r, ha, ht, hp, hg, hq, hr'⟩, hgood, hds, hnl, hus, k⟩ := h
    refine ⟨_, (pss_cons (ps_setLc2 (i := 1) (own := [("deed", 2), ("name", 3)]) (vs1 := [3]) rfl sc_Program_names.nd rfl rfl (sw_true rfl rfl rfl (by decide +kernel)) (pi_list (pe_cal c_deeds_of_programs (hr.mono (by decide)) (by rfl) pass0 (pa_cons (pe_fld (pv 0) rfl) pa_nil))) (blkOk_by (own := [("deed", 2), ("name", 3)]) (N := N_Program_names) (sc := defScope s_Program_names) (by decide +kernel)) (by decide) (fun _ _ _ _ _ => (pg_name (i := 2) sc_Program_names.nd rfl (by first | exact Or.inl rfl | exact Or.inr rfl))) (fun _ _ _ _ _ => pts_nil) (fun _ _ _ _ _ => (pi_tupK (K := K) rfl ((pe_prp c_dnames (hr.mono (by decide)) pass0) (pv 2)))) (fun _ _ _ _ _ => (pg_name (i := 3) sc_Program_names.nd rfl (by first | exact Or.inl rfl | exact Or.inr rfl))) (fun _ _ _ _ _ => pts_nil) (fun _ _ _ _ _ => (pv 3)))
      (pss_one (ps_ret (pe_cal c_ascending (hr.mono (by decide)) (by rfl) pass0 (pa_cons (pe_lst (StX.pa_star (pv 1) (StX.pa_star (pe_fld (pv 0) rfl) (pa_starD rfl (pe_fld (pv 0) rfl) (StX.pa_star (pe_fld (pv 0) rfl) pa_nil))))) pa_nil))))), ?_⟩
    refine ⟨_, rfl, a, _, dx, _, _, rfl, ha, hC.cl, hC.nP, pfl_p t g q r, t, vs, p, rfl, SqT.of ht, hp, hds, fun l as H1 e1 nl hl1 d1 => ⟨l, rfl, ⟨_, SqL.of hl1⟩, fun D hD => ?_⟩⟩
    have hDH : H D = none := ext_free e1 hD
    have e5 : (p.ds.map fun d => (ascF (dn d)).map V.str).flatten = (p.ds.map fun d => ascF (dn d)).flatten.map V.str := by rw [List.map_flatten, List.map_map]; rfl
    have l5 : (p.ds.map fun d => ascF (dn d)).flatten.length ≤ 1000 := by
      unfold Pr.nl at hnl
      rw [List.length_append] at hnl
      omega
    refine lc2_det1 (walk_list (K := K) (xs := as.map V.ref)) (p.ds.map fun d => (ascF (dn d)).map V.str) (by rw [List.length_map, List.length_map, d1.1]) (by rw [e5, List.length_map]; omega) hD (fun H' e => (SqL.of hl1).ext e) ?_ (fun H' e hD' => ?_)
    · rintro i x H8 _ ys R hi e8 ⟨acc, hD8⟩ ⟨rfl, hx⟩ hy kR
      rw [List.getElem?_map] at hx
      obtain ⟨b, hb, rfl⟩ := Option.map_eq_some_iff.mp hx
      obtain ⟨d, hd, hda⟩ := d1.2 i b hb
      rw [List.getElem?_map, hd] at hy
      cases hy
      have hda8 := hda.ext e8
      obtain ⟨dx', fs', hb8⟩ := hda8.at_
      refine ⟨rfl, _, rfl, b, _, dx', fs', rfl, hb8, clsD_in CU CM CO d, b, d, rfl, hda8, hgood d (List.mem_of_getElem? hd), fun q' ys' H9 as' e9 nq' => ⟨q', rfl, ⟨_, SqT.of (nw_some nq').2⟩, kR _ _ _ e9 ⟨_, _, _, walk_tup (K := K) (xs := ys'.map V.str), ?_, fun H10 e10 => ?_, ?_⟩⟩⟩
      · rw [as'.eq]
        rfl
      · refine SqT.of (Ext.at' e10 ?_ (nw_some nq').2)
        have : q' ≠ D := fun z => by
          have := (nw_some nq').1
          rw [z, hD8] at this
          cases this
        simpa using this
      · rintro j x H10 _ C hj e10 hD10 ⟨rfl, hx⟩ hC
        rw [as'.eq] at hx
        exact ⟨rfl, _, rfl, hC _ _ Ext.rfl' hx⟩
    · rw [e5] at hD'
      have e02 := e1.trans e
      generalize hU : (p.ds.map fun d => ascF (dn d)).flatten = used at hD' l5
      have up : ∀ {b : Addr} {o : HO}, H b = some o → H' b = some o := fun {b o} q => e02 b o q
      have cat : used.map V.str ++ (p.gv.map V.str ++ (keysV (agK p.ag) ++ (p.rs.map V.str ++ []))) = p.nl.map V.str := by
        rw [agK_keys, Pr.nl, hU, List.append_nil, List.map_append, List.map_append, List.map_append]
      refine ⟨_, rfl, D, _, rfl, .inr (SqL.of hD'), _, rfl, a, _, dx, _, _, rfl, up ha, hC.cl, hC.nG, pfl_g t g q r, g, _, rfl, .inl (SqT.of (up hg)), _, rfl, a, _, dx, _, _, rfl, up ha, hC.cl, hC.nA, pfl_a t g q r, q, _, rfl, up hq, _, rfl, a, _, dx, _, _, rfl, up ha, hC.cl, hC.nR, pfl_r t g q r, r, _, rfl, .inl (SqT.of (up hr')), ?_⟩
      show (used.map V.str ++ (p.gv.map V.str ++ (keysV (agK p.ag) ++ (p.rs.map V.str ++ [])))).length ≤ sizeLine ∧ ∀ L, H' L = none → spAsc K [.ref L] (upd H' L (.lst (used.map V.str ++ (p.gv.map V.str ++ (keysV (agK p.ag) ++ (p.rs.map V.str ++ [])))))) Q C8.E0
      rw [cat]
      refine ⟨by rw [List.length_map]; have h4 : sizeLine = 16777216 := sizeLine_eq; omega, fun L nL => ?_⟩
      refine ⟨L, p.nl, rfl, .inl (SqL.of upd_same), hnl, hus, fun q' ys' H9 as' e9 nq' => ?_⟩
      have e03 := e02.trans (Ext.upd (o := HO.lst (p.nl.map V.str)) nL)
      rw [as'.eq] at nq'
      exact k q' H9 (e03.trans e9) (nw_back e03 _ _ nq')
end
end K33
end
section
set_option Elab.async false
set_option autoImplicit false
set_option linter.all false
set_option maxRecDepth 100000
set_option maxHeartbeats 4000000
set_option pp.maxSteps 1500
namespace K33
open PySem PySem.Spec PyProof.Rows L2 Ls
open C8 (pss_cut tCut)
open TL
/-! ### no name from nowhere -/
def okDs (ag : List Str) : List Str → List Dd → Prop
  | _, [] => True
  | here, d :: r => (∀ z ∈ d.2, z ∈ here) ∧ (∀ m, d.1 = some m → m ∉ ag) ∧ okDs ag (here ++ d.1.toList) r
def aft (here : List Str) (ds : List Dd) : List Str := here ++ (ds.map (·.1.toList)).flatten
theorem aft_cons (here : List Str) (d : Dd) (r : List Dd) : aft here (d :: r) = aft (here ++ d.1.toList) r := by
  unfold aft
  rw [List.map_cons, List.flatten_cons, List.append_assoc]
theorem aft_snoc {here : List Str} {ds : List Dd} {j : Nat} {d : Dd} (h : ds[j]? = some d) : aft here (ds.take (j + 1)) = aft here (ds.take j) ++ d.1.toList := by
  unfold aft
  rw [List.take_add_one, h, List.map_append, List.flatten_append, ← List.append_assoc]
  simp
theorem okDs_at {ag : List Str} : ∀ {ds : List Dd} {here : List Str} {j : Nat} {d : Dd}, okDs ag here ds → ds[j]? = some d → (∀ z ∈ d.2, z ∈ aft here (ds.take j)) ∧ ∀ m, d.1 = some m → m ∉ ag
  | [], _, j, d, _, h => by simp at h
  | x :: r, here, 0, d, ok, h => by
    have : x = d := by simpa using h
    subst this
    exact ⟨fun z hz => List.mem_append_left _ (ok.1 z hz), ok.2.1⟩
  | x :: r, here, j + 1, d, ok, h => by
    obtain ⟨h1, h2⟩ := okDs_at (j := j) ok.2.2 (by simpa using h)
    exact ⟨fun z hz => by rw [List.take_succ_cons, aft_cons]; exact h1 z hz, h2⟩
def Pr.ags (p : Pr) : List Str := p.ag.map (·.1)
def Pr.k0 (p : Pr) : List Str := p.gv ++ p.ags
def Pr.k1 (p : Pr) : List Str := aft p.k0 p.ah
def Pr.k2 (p : Pr) : List Str := aft p.k1 p.bt
def Pr.kn (p : Pr) : Nat → List Str
  | 0 => p.k0
  | 1 => p.k1
  | 2 => p.k1
  | 3 => p.k2
  | 4 => p.k2
  | _ => aft p.k2 p.bh
structure MadeOk (p : Pr) : Prop where
  o0 : okDs p.ags p.k0 p.ah
  o1 : okDs p.ags p.k1 (p.lp.getD [])
  o2 : okDs p.ags p.k1 p.bt
  o3 : okDs p.ags p.k2 (p.sd.getD [])
  o4 : okDs p.ags p.k2 p.bh
  o5 : ∀ z ∈ p.rs, z ∈ aft p.k2 p.bh
theorem MadeOk.at_ {p : Pr} (h : MadeOk p) {i : Nat} {o : Option (List Dd)} (q : p.pts[i]? = some o) : okDs p.ags (p.kn i) (o.getD []) := by
  match i, q with
  | 0, q => cases q; exact h.o0
  | 1, q => cases q; exact h.o1
  | 2, q => cases q; exact h.o2
  | 3, q => cases q; exact h.o3
  | 4, q => cases q; exact h.o4
  | i + 5, q => simp [Pr.pts] at q
theorem kn_next {p : Pr} {i : Nat} {o : Option (List Dd)} {z : Str} (q : p.pts[i]? = some o) (hz : partsS[i]? = some z) : p.kn (i + 1) = (if inV (.str z) [.str "loop", .str "second"] then p.kn i else aft (p.kn i) (o.getD [])) := by
  match i, q, hz with
  | 0, q, hz => cases q; cases hz; rfl
  | 1, q, hz => cases q; cases hz; rfl
  | 2, q, hz => cases q; cases hz; rfl
  | 3, q, hz => cases q; cases hz; rfl
  | 4, q, hz => cases q; cases hz; rfl
  | i + 5, q, hz => simp [Pr.pts] at q
theorem sqT_keep {K : PySem.W.Frag} {H H' : Hp} {t D : Addr} {xs ys : List V} (h : SqT K H t xs) (hD : H D = some (.lst ys)) (kp : ∀ b o, H b = some o → b ≠ D → H' b = some o) : SqT K H' t xs := by
  rcases h with (h | ⟨o, h⟩) | h
  · exact .inl (.inl (kp _ _ h (ne_of h hD (by intro z; cases z))))
  · exact .inl (.inr ⟨o, kp _ _ h (ne_of h hD (by intro z; cases z))⟩)
  · exact .inr h
theorem aft_len (here : List Str) (ds : List Dd) : (aft here ds).length ≤ here.length + ds.length := by
  induction ds generalizing here with
  | nil => simp [aft]
  | cons d r ih =>
    rw [aft_cons]
    have := ih (here ++ d.1.toList)
    have h1 : d.1.toList.length ≤ 1 := by cases d.1 <;> simp
    rw [List.length_append] at this
    rw [List.length_cons]
    omega
theorem ds_len (p : Pr) : p.ds.length = p.ah.length + ((p.lp.getD []).length + (p.bt.length + ((p.sd.getD []).length + p.bh.length))) := by
  simp [Pr.ds, Pr.pts]
theorem kn_len (p : Pr) (i : Nat) : (p.kn i).length ≤ p.k0.length + p.ds.length := by
  have h1 := aft_len p.k0 p.ah
  have h2 := aft_len p.k1 p.bt
  have h3 := aft_len p.k2 p.bh
  have h4 := ds_len p
  match i with
  | 0 => show p.k0.length ≤ _; omega
  | 1 => show (aft p.k0 p.ah).length ≤ _; omega
  | 2 => show (aft p.k0 p.ah).length ≤ _; omega
  | 3 => show (aft p.k1 p.bt).length ≤ _; unfold Pr.k1 at h2 ⊢; omega
  | 4 => show (aft p.k1 p.bt).length ≤ _; unfold Pr.k1 at h2 ⊢; omega
  | i + 5 => show (aft p.k2 p.bh).length ≤ _; unfold Pr.k2 Pr.k1 at *; omega
section
variable {P : PySem.Program} {w : World} {K : PySem.W.Frag} {mg : Str → Option Value} {base : Heap} {CE CD CU CM CO CP tP : Addr} {tk : Str → Tok}
/-! ### need_made -/
def spMade (K : PySem.W.Frag) (cl : Dd → Addr) (CP : Addr) : Sp := fun vs H Q _ => ∃ (a : Addr) (p : Pr), vs = [.ref a] ∧ PrAt K cl CP H a p ∧ MadeOk p ∧ p.ds.length ≤ 1000 ∧ p.nl.length ≤ 1000 ∧ ∀ H', Ext H H' → Q .non H'
abbrev s_Program_need_made : Stmt := inClass (top 52) 1
abbrev N_Program_need_made : List Str := ["self", "known", "part", "deeds", "here", "index", "deed", "name"]
theorem sc_Program_need_made : FnScope N_Program_need_made ["self"] (defScope s_Program_need_made) := ⟨rfl, rfl, rfl, by decide +kernel, rfl, by decide +kernel, by decide +kernel⟩
theorem ok_made {f : Addr} {fd : FuncData} (F : Fun K "need_made" "Program.need_made" s_Program_need_made f fd) (T : Tx K mg CE CD CU CM CO CP tP tk) (hC : ClP K CP) (c_uses : Prp P w K mg base CX0 1 (InC CU CM CO) "uses" (spUses (clsD CU CM CO))) (c_makes : Prp P w K mg base CX0 1 (InC CU CM CO) "makes" (spMakes (clsD CU CM CO))) :
    FnOk P w K mg base CX0 3 f fd ["self"] (spMade K (clsD CU CM CO) CP) := by
  refine F.ok sc_Program_need_made (fun vs H Q E h => ?_) (fun cdv A outer s H vs Q E hr h => ?_)
  · obtain ⟨a, p, rfl, _⟩ := h
    rfl
  · obtain ⟨a, p, rfl, ⟨dx, t, vs, g, q, r, ha, ht, hp, hg, hq, hr'⟩, hm, hds, hnl, k⟩ := h
    have hu := hu_of hr
    refine ⟨_, (pss_cons (ps_set (i := 1) sc_Program_need_made.nd rfl (by first | exact Or.inl rfl | exact Or.inr rfl) (pe_lst (StX.pa_star (pe_fld (pv 0) rfl) (pa_starD rfl (pe_fld (pv 0) rfl) pa_nil))))
      (pss_cons (ps_for PassesOwn.never rfl (RZ.pi_zipA (by rfl) (T.bn _ (by decide +kernel)) (pa_cons (pe_gref (by rfl) T.m_PARTS) (pa_cons (pe_fld (pv 0) rfl) pa_nil))) (pg_tup rfl (pgs_cons (pg_name (i := 2) sc_Program_need_made.nd rfl (by first | exact Or.inl rfl | exact Or.inr rfl)) (pgs_cons (pg_name (i := 3) sc_Program_need_made.nd rfl (by first | exact Or.inl rfl | exact Or.inr rfl)) pgs_nil)))
      (pss_cons (ps_set (i := 4) sc_Program_need_made.nd rfl (by first | exact Or.inl rfl | exact Or.inr rfl) (pe_callTy call_list_of (by rfl) (T.bn _ (by decide +kernel)) (by decide +kernel) (pa_cons (pv 1) pa_nil)))
      (pss_cons (ps_for PassesOwn.never rfl (pi_enumT (by rfl) (T.bn _ (by decide +kernel)) (pa_cons (pe_orNilT (K := K) rfl (pv 3)) pa_nil)) (pg_tup rfl (pgs_cons (pg_name (i := 5) sc_Program_need_made.nd rfl (by first | exact Or.inl rfl | exact Or.inr rfl)) (pgs_cons (pg_name (i := 6) sc_Program_need_made.nd rfl (by first | exact Or.inl rfl | exact Or.inr rfl)) pgs_nil)))
      (pss_cons (ps_for PassesOwn.never rfl (pi_tup ((pe_prp c_uses (hr.mono (by decide)) pass0) (pv 6))) (pg_name (i := 7) sc_Program_need_made.nd rfl (by first | exact Or.inl rfl | exact Or.inr rfl))
      (pss_one (ps_if (pt_cmpR op_notIn_seq (pv 7) (pv 4) rfl) (pss_one ps_never) pss_nil)))
      (pss_one (ps_if (pt_cmpR op_notN ((pe_prp c_makes (hr.mono (by decide)) pass0) (pv 6)) pe_non (nomark _)) (pss_cons (ps_if (pt_cmpR (op_inD hu) ((pe_prp c_makes (hr.mono (by decide)) pass0) (pv 6)) (pe_fld (pv 0) rfl) rfl) (pss_one ps_never) pss_nil)
      (pss_one (ps_expr (pe_bm PySem.F.plainAttrs_list PySem.F.slot_list_append PySem.F.type_list_append mt_append (pv 4) (pa_cons ((pe_prp c_makes (hr.mono (by decide)) pass0) (pv 6)) pa_nil))))) pss_nil))))
      (pss_one (ps_if (pt_cmpR op_notIn_seq (pv 2) (pe_tup (pa_cons pe_str (pa_cons pe_str pa_nil))) rfl) (pss_one (ps_set (i := 1) sc_Program_need_made.nd rfl (by first | exact Or.inl rfl | exact Or.inr rfl) (pv 4))) pss_nil)))))
      (pss_one (ps_for PassesOwn.never rfl (pi_tup (pe_fld (pv 0) rfl)) (pg_name (i := 7) sc_Program_need_made.nd rfl (by first | exact Or.inl rfl | exact Or.inr rfl))
      (pss_one (ps_if (pt_cmpR op_notIn_seq (pv 7) (pv 1) rfl) (pss_one ps_never) pss_nil)))))), ?_⟩
    have h4 : sizeLine = 16777216 := sizeLine_eq
    have hk0 : p.k0.length ≤ 1000 := by
      unfold Pr.nl at hnl
      unfold Pr.k0 Pr.ags
      simp only [List.length_append] at hnl ⊢
      omega
    have c0 : p.gv.map V.str ++ (keysV (agK p.ag) ++ []) = p.k0.map V.str := by rw [agK_keys, List.append_nil, ← List.map_append]; rfl
    refine ⟨_, rfl, a, _, dx, _, _, rfl, ha, hC.cl, hC.nG, pfl_g t g q r, g, _, rfl, .inl (SqT.of hg), _, rfl, a, _, dx, _, _, rfl, ha, hC.cl, hC.nA, pfl_a t g q r, q, _, rfl, hq, ?_⟩
    refine ⟨(by rw [c0, List.length_map]; omega), fun kA nA => ?_⟩
    have e1 : Ext H (upd H kA (.lst (p.gv.map V.str ++ (keysV (agK p.ag) ++ [])))) := Ext.upd nA
    have f1 : (upd H kA (.lst (p.gv.map V.str ++ (keysV (agK p.ag) ++ [])))) kA = some (.lst (p.k0.map V.str)) := by rw [upd_same, c0]
    generalize (upd H kA (.lst (p.gv.map V.str ++ (keysV (agK p.ag) ++ [])))) = H1 at e1 f1
    clear nA
    have pl5 : vs.length = 5 := hp.len
    refine ⟨_, rfl, a, _, dx, _, _, rfl, e1 _ _ ha, hC.cl, hC.nP, pfl_p t g q r, tP, t, _, vs, rfl, .inr ⟨T.parts _, SqT.of (e1 _ _ ht), for_it (walk_zipT (n := 5) rfl pl5) (fun i σ' H' => ∃ kA x2 x3 x4 x5 x6 x7, σ' = [some (.ref a), some (.ref kA), x2, x3, x4, x5, x6, x7] ∧ Ext H H' ∧ H' kA = some (.lst ((p.kn i).map V.str))) ⟨_, _, _, _, _, _, _, rfl, e1, f1⟩ (fun i σ' H' _ ⟨_, _, _, _, _, _, _, _, e, _⟩ => ⟨T.parts _, SqT.of (e _ _ ht)⟩) ?_ ?_⟩⟩
    · rintro i v σ' H1 _ hi ⟨kA, x2, x3, x4, x5, x6, x7, rfl, e1, f1⟩ ⟨T', pv, dv, rfl, nT, rfl, hpv, hdv⟩
      have hpv : (partsS.map V.str)[i]? = some pv := hpv
      rw [List.getElem?_map] at hpv
      obtain ⟨pn, hpn, rfl⟩ := Option.map_eq_some_iff.mp hpv
      obtain ⟨o, ho, hpt⟩ := hp.at_ hdv
      obtain ⟨as, dsa, hx⟩ := hpt.refs
      have hok := hm.at_ ho
      have hnx := kn_next ho hpn
      generalize hds' : o.getD [] = ds at dsa hok hnx
      have lkn := kn_len p i
      have ldsx : ds.length ≤ p.ds.length := by
        have := ds_len p
        match i, ho with
        | 0, ho => cases ho; subst hds'; show p.ah.length ≤ _; omega
        | 1, ho => cases ho; subst hds'; omega
        | 2, ho => cases ho; subst hds'; show p.bt.length ≤ _; omega
        | 3, ho => cases ho; subst hds'; omega
        | 4, ho => cases ho; subst hds'; show p.bh.length ≤ _; omega
        | i + 5, ho => simp [Pr.pts] at ho
      have e2 : Ext H1 (upd H1 T' (.tup [.str pn, dv])) := Ext.upd nT
      have f2 : (upd H1 T' (.tup [.str pn, dv])) T' = some (.tup [.str pn, dv]) := upd_same
      generalize (upd H1 T' (.tup [.str pn, dv])) = H2 at e2 f2
      refine ⟨T', _, rfl, SqT.of f2, rfl, _, _, rfl, _, _, rfl, rfl, ?_⟩
      refine ⟨_, rfl, kA, _, rfl, .inl (SqL.of (e2 _ _ f1)), fun hA nA => ?_⟩
      have e3 : Ext H2 (upd H2 hA (.lst ((p.kn i).map V.str))) := Ext.upd nA
      have f3 : (upd H2 hA (.lst ((p.kn i).map V.str))) hA = some (.lst ((p.kn i).map V.str)) := upd_same
      generalize (upd H2 hA (.lst ((p.kn i).map V.str))) = H3 at e3 f3
      have nAH : H hA = none := ext_free (e1.trans e2) nA
      have nkA : kA ≠ hA := ne_of_none (e2 _ _ f1) nA
      have e03 := (e1.trans e2).trans e3
      have fk3 := e3 _ _ (e2 _ _ f1)
      refine ⟨_, rfl, as.map V.ref, ?_, fun t' H4 e4 ht' => ?_⟩
      · rcases hx with ⟨h1, h2⟩ | ⟨t', h1, h2⟩
        · exact .inl ⟨h1, by rw [h2]; rfl⟩
        · exact .inr ⟨t', h1, h2.ext e03⟩
      have f4 := e4 _ _ f3
      have e04 := e03.trans e4
      have fk4 := e4 _ _ fk3
      refine ⟨t', _, rfl, ht', for_it (walk_enumT (K := K) (xs := as.map V.ref)) (fun j σ' H' => ∃ x5 x6 x7, σ' = [some (.ref a), some (.ref kA), some (.str pn), some dv, some (.ref hA), x5, x6, x7] ∧ (∀ b o, H4 b = some o → b ≠ hA → H' b = some o) ∧ H' hA = some (.lst ((aft (p.kn i) (ds.take j)).map V.str))) ⟨_, _, _, rfl, fun b o q _ => q, by simpa [aft] using f4⟩ (fun j σ' H' _ ⟨_, _, _, _, kp, _⟩ => sqT_keep ht' f4 kp) ?_ ?_⟩
      · rintro j v σ' H5 _ hj ⟨y5, y6, y7, rfl, kp5, f5⟩ ⟨T2, iv, bv, rfl, nT2, rfl, hiv, hbv⟩
        have hbv : (as.map V.ref)[j]? = some bv := hbv
        rw [List.getElem?_map] at hbv
        obtain ⟨b, hb, rfl⟩ := Option.map_eq_some_iff.mp hbv
        obtain ⟨d, hd, hda⟩ := dsa.2 j b hb
        obtain ⟨hu1, hu2⟩ := okDs_at hok hd
        have e05 : Ext H H5 := fun b o q => kp5 b o (e04 b o q) (ne_of_none q nAH)
        have e6 : Ext H5 (upd H5 T2 (.tup [iv, .ref b])) := Ext.upd nT2
        have g6 : (upd H5 T2 (.tup [iv, .ref b])) T2 = some (.tup [iv, .ref b]) := upd_same
        generalize (upd H5 T2 (.tup [iv, .ref b])) = H6 at e6 g6
        have e06 := e05.trans e6
        have f6 := e6 _ _ f5
        have kp6 : ∀ b o, H4 b = some o → b ≠ hA → H6 b = some o := fun b o h1 h2 => e6 _ _ (kp5 b o h1 h2)
        have hda6 := hda.ext e06
        obtain ⟨dx', fs', hb6⟩ := hda6.at_
        refine ⟨T2, _, rfl, SqT.of g6, rfl, _, _, rfl, _, _, rfl, rfl, ?_⟩
        refine ⟨_, rfl, b, _, dx', fs', rfl, hb6, clsD_in CU CM CO d, b, d, rfl, hda6, fun tu htu => ⟨tu, rfl, ⟨_, SqT.of htu⟩, for_it (walk_tup (K := K) (xs := d.2.map V.str)) (fun l σ' H' => (∃ x7, σ' = [some (.ref a), some (.ref kA), some (.str pn), some dv, some (.ref hA), some iv, some (.ref b), x7]) ∧ H' = H6) ⟨⟨_, rfl⟩, rfl⟩ (fun l σ' H' _ ⟨_, e⟩ => by rw [e]; exact SqT.of htu) ?_ ?_⟩⟩
        · rintro l x σ' _ H7 hl ⟨⟨z7, rfl⟩, rfl⟩ ⟨rfl, hx⟩
          rw [List.getElem?_map] at hx
          obtain ⟨z, hz, rfl⟩ := Option.map_eq_some_iff.mp hx
          refine ⟨_, rfl, _, rfl, hA, _, rfl, .inl (SqL.of f6), rfl, flat_strs _, _, rfl, ?_⟩
          rw [inV_strs]
          refine iteNo (by rw [decide_eq_true (hu1 z (List.mem_of_getElem? hz))]; rfl) ?_
          exact ⟨⟨_, rfl⟩, rfl⟩
        · rintro σ' H7 ⟨⟨z7, rfl⟩, rfl⟩
          have ash := aft_snoc (here := p.kn i) hd
          refine ⟨_, rfl, b, _, dx', fs', rfl, hb6, clsD_in CU CM CO d, b, d, rfl, hda6, rfl, _, rfl, ?_⟩
          obtain ⟨m, us⟩ := d
          cases m with
          | none =>
            refine iteNo rfl ?_
            refine ⟨_, _, _, rfl, kp6, ?_⟩
            rw [ash, show (none, us).1.toList = ([] : List Str) from rfl, List.append_nil]
            exact f6
          | some m =>
            refine iteYes rfl ?_
            have hma : m ∉ p.ag.map (·.1) := hu2 m rfl
            have gt : DGet H7 q (.str m) none := by
              have := DGet.k (k := Sum.inr m) (e06 _ _ hq)
              rwa [agK_no hma] at this
            refine ⟨_, rfl, b, _, dx', fs', rfl, hb6, clsD_in CU CM CO _, b, _, rfl, hda6, _, rfl, a, _, dx, _, _, rfl, e06 _ _ ha, hC.cl, hC.nA, pfl_a t g q r, q, none, rfl, gt, _, rfl, iteNo rfl ?_⟩
            refine ⟨_, rfl, .inl ⟨rfl, _, SqL.of f6⟩, _, rfl, b, _, dx', fs', rfl, hb6, clsD_in CU CM CO _, b, _, rfl, hda6, hA, _, _, rfl, rfl, f6, ?_, _, _, _, rfl, fun b o h1 h2 => by rw [upd_ne h2]; exact kp6 b o h1 h2, ?_⟩
            · rw [List.length_map]
              have := aft_len (p.kn i) (ds.take j)
              have : (ds.take j).length ≤ ds.length := by rw [List.length_take]; omega
              omega
            · rw [upd_same, ash, List.map_append]
              rfl
      · rintro σ' H5 ⟨y5, y6, y7, rfl, kp5, f5⟩
        have e05 : Ext H H5 := fun b o q => kp5 b o (e04 b o q) (ne_of_none q nAH)
        rw [List.length_map, dsa.1, List.take_length] at f5
        refine ⟨_, rfl, (by show 2 ≤ sizeLine; decide), fun t2 nt2 => ?_⟩
        have e6 : Ext H5 (upd H5 t2 (.tup [.str "loop", .str "second"])) := Ext.upd nt2
        have g6 : (upd H5 t2 (.tup [.str "loop", .str "second"])) t2 = some (.tup [.str "loop", .str "second"]) := upd_same
        generalize (upd H5 t2 (.tup [.str "loop", .str "second"])) = H6 at e6 g6
        refine ⟨t2, _, rfl, .inr (SqT.of g6), rfl, rfl, _, rfl, ?_⟩
        cases hI : inV (.str pn) [.str "loop", .str "second"] with
        | true =>
          refine iteNo rfl ?_
          rw [hI, if_pos rfl] at hnx
          exact ⟨kA, _, _, _, _, _, _, rfl, e05.trans e6, by rw [hnx]; exact e6 _ _ (kp5 _ _ fk4 nkA)⟩
        | false =>
          refine iteYes rfl ?_
          rw [hI, if_neg Bool.false_ne_true] at hnx
          exact ⟨_, rfl, hA, _, _, _, _, _, _, rfl, e05.trans e6, by rw [hnx]; exact e6 _ _ f5⟩
    · rintro σ' H1 ⟨kA, x2, x3, x4, x5, x6, x7, rfl, e1, f1⟩
      have hr1 := e1 _ _ hr'
      refine ⟨_, rfl, a, _, dx, _, _, rfl, e1 _ _ ha, hC.cl, hC.nR, pfl_r t g q r, r, rfl, ⟨_, SqT.of hr1⟩, for_it (walk_tup (K := K) (xs := p.rs.map V.str)) (fun l σ' H' => (∃ x7, σ' = [some (.ref a), some (.ref kA), x2, x3, x4, x5, x6, x7]) ∧ H' = H1) ⟨⟨_, rfl⟩, rfl⟩ (fun l σ' H' _ ⟨_, e⟩ => by rw [e]; exact SqT.of hr1) ?_ ?_⟩
      · rintro l x σ' _ H7 hl ⟨⟨z7, rfl⟩, rfl⟩ ⟨rfl, hx⟩
        rw [List.getElem?_map] at hx
        obtain ⟨z, hz, rfl⟩ := Option.map_eq_some_iff.mp hx
        refine ⟨_, rfl, _, rfl, kA, _, rfl, .inl (SqL.of f1), rfl, flat_strs _, _, rfl, ?_⟩
        rw [inV_strs]
        refine iteNo (by rw [decide_eq_true (show z ∈ p.kn 5 from hm.o5 z (List.mem_of_getElem? hz))]; rfl) ?_
        exact ⟨⟨_, rfl⟩, rfl⟩
      · rintro σ' H7 ⟨⟨z7, rfl⟩, rfl⟩
        exact k _ e1
end
end K33
end
section
set_option Elab.async false
set_option autoImplicit false
set_option linter.all false
set_option maxRecDepth 100000
set_option maxHeartbeats 4000000
set_option pp.maxSteps 1500
namespace K33
open PySem PySem.Spec PyProof.Rows L2 Ls
open C8 (pss_cut tCut)
open TL
/-! ### a program that is made -/
theorem AgS.eq {gi ag : List (Str × Int)} (h : AgS gi ag) (nd : (gi.map (·.1)).Nodup) : ag = agF gi (ascF (gi.map (·.1))) := by
  rw [← h.as.eq]
  unfold agF
  rw [List.map_map]
  conv => lhs; rw [← List.map_id ag]
  refine List.map_congr_left fun x hx => ?_
  obtain ⟨z, n⟩ := x
  show (z, n) = (z, prc gi z)
  rw [prc_at nd ((h.mm _).mp hx)]
/-- the arguments, as they are kept -/
def Pr.norm (p : Pr) : Pr := { p with gv := ascF p.gv, ag := agF p.ag (ascF (p.ag.map (·.1))), rs := ascF p.rs }
theorem norm_ds (p : Pr) : p.norm.ds = p.ds := rfl
theorem norm_pts (p : Pr) : p.norm.pts = p.pts := rfl
structure GoodP (p : Pr) : Prop where
  dg : ∀ d ∈ p.ds, Good d
  sh : Shp p
  gn : ∀ z ∈ p.gv, isName z = true
  gd : p.gv.Nodup
  gl : p.gv.length ≤ 60
  rn : ∀ z ∈ p.rs, isName z = true
  rd : p.rs.Nodup
  rl : p.rs.length ≤ 60
  ag : AgOk p.ag
  md : MadeOk p.norm
  six : (ascF p.norm.nl).length ≤ 6
  ln : p.norm.nl.length ≤ 1000
theorem pfl_no (t g q r : Addr) : (pfl t g q r).lookup ("need_made" : Str) = none := by
  unfold pfl
  have h1 : ¬ (("need_made" : Str) = "own_parts") := by decide +kernel
  have h2 : ¬ (("need_made" : Str) = "own_given") := by decide +kernel
  have h3 : ¬ (("need_made" : Str) = "own_again") := by decide +kernel
  have h4 : ¬ (("need_made" : Str) = "own_results") := by decide +kernel
  rw [lookup_putF, if_neg h4, lookup_putF, if_neg h3, lookup_putF, if_neg h2, lookup_putF, if_neg h1]
  rfl
/-- the names handed in: a list or a tuple of texts -/
def NmIn (K : PySem.W.Frag) (H : Hp) (v : V) (zs : List Str) : Prop := ∃ t, v = .ref t ∧ (SqL K H t (zs.map V.str) ∨ SqT K H t (zs.map V.str))
theorem NmIn.ext {K : PySem.W.Frag} {H H' : Hp} {v : V} {zs : List Str} (h : NmIn K H v zs) (e : Ext H H') : NmIn K H' v zs := let ⟨t, h1, h2⟩ := h; ⟨t, h1, h2.imp (·.ext e) (·.ext e)⟩
theorem AgIn.ext {H H' : Hp} {v : V} {gi : List (Str × Int)} (h : AgIn H v gi) (e : Ext H H') : AgIn H' v gi := h.imp id fun ⟨d, h1, h2⟩ => ⟨d, h1, e _ _ h2⟩
/-- all arguments -/
structure PrIn (K : PySem.W.Frag) (cl : Dd → Addr) (H : Hp) (vs : List V) (p : Pr) : Prop where
  ex : ∃ v0 v1 v2 v3 v4 v5 v6 v7, vs = [v0, v1, v2, v3, v4, v5, v6, v7] ∧ PtIn K cl H v0 (some p.ah) ∧ PtIn K cl H v1 p.lp ∧ PtIn K cl H v2 (some p.bt) ∧ PtIn K cl H v3 p.sd ∧ PtIn K cl H v4 (some p.bh) ∧ NmIn K H v5 p.gv ∧ AgIn H v6 p.ag ∧ NmIn K H v7 p.rs
theorem PrIn.ext {K : PySem.W.Frag} {cl : Dd → Addr} {H H' : Hp} {vs : List V} {p : Pr} (h : PrIn K cl H vs p) (e : Ext H H') : PrIn K cl H' vs p :=
  let ⟨v0, v1, v2, v3, v4, v5, v6, v7, h1, h2, h3, h4, h5, h6, h7, h8, h9⟩ := h.ex
  ⟨⟨v0, v1, v2, v3, v4, v5, v6, v7, h1, h2.ext e, h3.ext e, h4.ext e, h5.ext e, h6.ext e, h7.ext e, h8.ext e, h9.ext e⟩⟩
theorem ext_hid {D : Addr} {H : Hp} (h : H D = none) : Ext H (hid [D] H) := fun b o q => by rw [hid_at (by simpa using ne_of_none q h)]; exact q
theorem hidx {x : Addr} {H : Hp} {b : Addr} {o : HO} (h : H b = some o) (n : b ≠ x) : hid [x] H b = some o := by rw [hid_at (by simpa using n)]; exact h
theorem DeedAt.hidx {cl : Dd → Addr} {H : Hp} {a x C dx : Addr} {d : Dd} (h : DeedAt cl H a d) (hx : H x = some (.ins C dx [])) : DeedAt cl (hid [x] H) a d := by
  obtain ⟨dy, fs, t1, t2, h1, h2, h3, h4, h5⟩ := h
  have na : a ≠ x := fun e => by
    rw [e, hx] at h1
    cases h1
    cases h2
  exact ⟨dy, fs, t1, t2, K33.hidx h1 na, h2, h3, K33.hidx h4 (ne_of h4 hx (by intro z; cases z)), K33.hidx h5 (ne_of h5 hx (by intro z; cases z))⟩
theorem sqT_hidx {K : PySem.W.Frag} {H : Hp} {t x C dx : Addr} {fs : List (Str × V)} {xs : List V} (h : SqT K H t xs) (hx : H x = some (.ins C dx fs)) : SqT K (hid [x] H) t xs := by
  rcases h with (h | ⟨o, h⟩) | h
  · exact .inl (.inl (K33.hidx h (ne_of h hx (by intro z; cases z))))
  · exact .inl (.inr ⟨o, K33.hidx h (ne_of h hx (by intro z; cases z))⟩)
  · exact .inr h
theorem sqL_hidx {K : PySem.W.Frag} {H : Hp} {t x C dx : Addr} {fs : List (Str × V)} {xs : List V} (h : SqL K H t xs) (hx : H x = some (.ins C dx fs)) : SqL K (hid [x] H) t xs := by
  rcases h with (h | ⟨o, h⟩) | h
  · exact .inl (.inl (K33.hidx h (ne_of h hx (by intro z; cases z))))
  · exact .inl (.inr ⟨o, K33.hidx h (ne_of h hx (by intro z; cases z))⟩)
  · exact .inr h
theorem PtAt.hidx {K : PySem.W.Frag} {cl : Dd → Addr} {H : Hp} {v : V} {q : Option (List Dd)} {x C dx : Addr} (h : PtAt K cl H v q) (hx : H x = some (.ins C dx [])) : PtAt K cl (hid [x] H) v q := by
  cases q with
  | none => exact h
  | some ds =>
    obtain ⟨t, as, h1, h2, h3⟩ := h
    exact ⟨t, as, h1, sqT_hidx h2 hx, h3.1, fun i a q => let ⟨d, g1, g2⟩ := h3.2 i a q; ⟨d, g1, g2.hidx hx⟩⟩
theorem PtsAt.hidx {K : PySem.W.Frag} {cl : Dd → Addr} {H : Hp} {vs : List V} {p : Pr} {x C dx : Addr} (h : PtsAt K cl H vs p) (hx : H x = some (.ins C dx [])) : PtsAt K cl (hid [x] H) vs p :=
  let ⟨v0, v1, v2, v3, v4, h1, h2, h3, h4, h5, h6⟩ := h
  ⟨v0, v1, v2, v3, v4, h1, h2.hidx hx, h3.hidx hx, h4.hidx hx, h5.hidx hx, h6.hidx hx⟩
theorem NmIn.hidx {K : PySem.W.Frag} {H : Hp} {v : V} {zs : List Str} {x C dx : Addr} (h : NmIn K H v zs) (hx : H x = some (.ins C dx [])) : NmIn K (hid [x] H) v zs := let ⟨t, h1, h2⟩ := h; ⟨t, h1, h2.imp (sqL_hidx · hx) (sqT_hidx · hx)⟩
theorem AgIn.hidx {H : Hp} {v : V} {gi : List (Str × Int)} {x C dx : Addr} (h : AgIn H v gi) (hx : H x = some (.ins C dx [])) : AgIn (hid [x] H) v gi := h.imp id fun ⟨d, h1, h2⟩ => ⟨d, h1, K33.hidx h2 (ne_of h2 hx (by intro z; cases z))⟩
/-- a field of x is written -/
theorem hid_put {x : Addr} {B H : Hp} {o : HO} (h : Ext (hid [x] B) H) : Ext (hid [x] B) (upd H x o) := fun b u q => by
  have := (hid_some q).1
  rw [upd_ne (by simpa using this)]
  exact h b u q
section
variable {P : PySem.Program} {w : World} {K : PySem.W.Frag} {mg : Str → Option Value} {base : Heap} {CE CD CU CM CO CP tP : Addr} {tk : Str → Tok}
/-! ### Program.__init__ -/
def spProg (K : PySem.W.Frag) (cl : Dd → Addr) (CP : Addr) : Sp := fun vs H Q _ => ∃ (x dx : Addr) (ws : List V) (p : Pr), vs = .ref x :: ws ∧ H x = some (.ins CP dx []) ∧ PrIn K cl H ws p ∧ GoodP p ∧ ∀ H', KeepX x H H' → PrAt K cl CP H' x p.norm → Q .non H'
abbrev s_Program_init : Stmt := inClass (top 52) 0
abbrev N_Program_init : List Str := ["self", "ahead", "loop", "between", "second", "behind", "given", "again", "results", "told", "parts", "part"]
theorem sc_Program_init : FnScope N_Program_init ["self", "ahead", "loop", "between", "second", "behind", "given", "again", "results"] (defScope s_Program_init) := ⟨rfl, rfl, rfl, by decide +kernel, rfl, by decide +kernel, by decide +kernel⟩
theorem ok_init {f : Addr} {fd : FuncData} {dvs : List V} {kws : List (Str × V)} (F : FunD K "__init__" "Program.__init__" (defArgs s_Program_init) (defBody s_Program_init) (defScope s_Program_init) dvs kws f fd) (T : Tx K mg CE CD CU CM CO CP tP tk) (hC : ClP K CP) (c_need_shape : Cal P w K mg base CX0 1 "need_shape" (spShape K (clsD CU CM CO)))
    (c_ascending : Cal P w K mg base CX0 1 "ascending" (spAsc K)) (c_need_names : Cal P w K mg base CX0 3 "need_names" (spNN K)) (c_need_again : Cal P w K mg base CX0 4 "need_again" spAgain) (c_pnames : Prp P w K mg base CX0 4 (· = CP) "names" (spPN K (clsD CU CM CO) CP)) (o_need_made : OwnM P w K mg base CX0 3 CP "need_made" (spMade K (clsD CU CM CO) CP)) :
    FnOk P w K mg base CX0 6 f fd ["self", "ahead", "loop", "between", "second", "behind", "given", "again", "results"] (spProg K (clsD CU CM CO) CP) := by
  refine F.ok sc_Program_init (fun vs H Q E h => ?_) (fun cdv A outer s H vs Q E hr h => ?_)
  · obtain ⟨x, dx, ws, p, rfl, _, ⟨v0, v1, v2, v3, v4, v5, v6, v7, rfl, _⟩, _⟩ := h
    rfl
  · obtain ⟨x, dx, ws, p, rfl, hx, ⟨v0, v1, v2, v3, v4, v5, v6, v7, rfl, h0, h1, h2, h3, h4, h5, h6, h7⟩, hg, k⟩ := h
    refine ⟨_, (pss_cons (ps_set (i := 9) sc_Program_init.nd rfl (by first | exact Or.inl rfl | exact Or.inr rfl) (pe_tup (pa_cons (pv 1) (pa_cons (pv 2) (pa_cons (pv 3) (pa_cons (pv 4) (pa_cons (pv 5) pa_nil)))))))
      (pss_cons (ps_setLc (i := 10) (own := [("part", 11)]) rfl sc_Program_init.nd rfl rfl (sw_true rfl rfl rfl (by decide +kernel)) (pi_tup (pv 9)) (blkOk_by (own := [("part", 11)]) (N := N_Program_init) (sc := defScope s_Program_init) (by decide +kernel)) (fun _ _ _ _ _ => (pg_name (i := 11) sc_Program_init.nd rfl (by first | exact Or.inl rfl | exact Or.inr rfl))) (fun _ _ _ _ _ => pts_nil) (fun _ _ _ _ _ => (pe_ifExp (pt_cmpR op_isN (pv 11) pe_non (nomark _)) pe_non (pe_callTy (call_tupK (K := K) rfl) (by rfl) (T.bn _ (by decide +kernel)) (by decide +kernel) (pa_cons (pv 11) pa_nil)))))
      (pss_cons (ps_expr (pe_cal c_need_shape (hr.mono (by decide)) (by rfl) pass0 (pa_cons (pv 10) pa_nil)))
      (pss_cons (ps_fld (pv 0) (pe_callTy call_tuple_of (by rfl) (T.bn _ (by decide +kernel)) (by decide +kernel) (pa_cons (pv 10) pa_nil)) rfl)
      (pss_cons (ps_fld (pv 0) (pe_cal c_ascending (hr.mono (by decide)) (by rfl) pass0 (pa_cons (pe_cal c_need_names (hr.mono (by decide)) (by rfl) pass0 (pa_cons (pv 6) pa_nil)) pa_nil)) rfl)
      (pss_cons (ps_fld (pv 0) (pe_cal c_need_again (hr.mono (by decide)) (by rfl) pass0 (pa_cons (pv 7) pa_nil)) rfl)
      (pss_cons (ps_fld (pv 0) (pe_cal c_ascending (hr.mono (by decide)) (by rfl) pass0 (pa_cons (pe_cal c_need_names (hr.mono (by decide)) (by rfl) pass0 (pa_cons (pv 8) pa_nil)) pa_nil)) rfl)
      (pss_cons (ps_if (pt_cmpR op_gt (pe_callB call_len_seq (by rfl) (T.bn _ (by decide +kernel)) (by decide +kernel) (pa_cons ((pe_prp c_pnames (hr.mono (by decide)) pass0) (pv 0)) pa_nil)) (pe_gint (by rfl) T.m_MOST_NAMES) (nomark _)) (pss_one ps_never) pss_nil)
      (pss_one (ps_expr (pe_om0 o_need_made (hr.mono (by decide)) (pv 0) pass0))))))))))), ?_⟩
    have z4 : sizeLine = 16777216 := sizeLine_eq
    refine ⟨_, rfl, _, rfl, _, rfl, _, rfl, _, rfl, (by show 5 ≤ sizeLine; decide), fun tt ntt => ?_⟩
    have e1 : Ext H (upd H tt (.tup [v0, v1, v2, v3, v4])) := Ext.upd ntt
    have f1 : (upd H tt (.tup [v0, v1, v2, v3, v4])) tt = some (.tup [v0, v1, v2, v3, v4]) := upd_same
    generalize (upd H tt (.tup [v0, v1, v2, v3, v4])) = H1 at e1 f1
    have five : ∀ (i : Nat) (v : V), [v0, v1, v2, v3, v4][i]? = some v → ∃ o, p.pts[i]? = some o ∧ PtIn K (clsD CU CM CO) H v o := fun i v q => by
      match i, q with
      | 0, q => cases q; exact ⟨_, rfl, h0⟩
      | 1, q => cases q; exact ⟨_, rfl, h1⟩
      | 2, q => cases q; exact ⟨_, rfl, h2⟩
      | 3, q => cases q; exact ⟨_, rfl, h3⟩
      | 4, q => cases q; exact ⟨_, rfl, h4⟩
      | i + 5, q => simp at q
    refine ⟨_, rfl, tt, rfl, ⟨_, SqT.of f1⟩, fun D hD => ?_⟩
    have hDH : H D = none := ext_free e1 hD
    refine lc_map (walk_tup (K := K) (xs := [v0, v1, v2, v3, v4])) [D] (by simp) (fun H' => Ext H1 H') (fun j y H' => ∃ o, p.pts[j]? = some o ∧ PtAt K (clsD CU CM CO) H' y o) (by show 5 ≤ 100000; decide) (fun j y Ha Hb e ⟨o, h1, h2⟩ => ⟨o, h1, h2.ext e⟩)
      (fun H' o hh b o' z => by rw [upd_ne (ne_of_none z hD)]; exact hh b o' z) (Ext.upd hD) (fun H' _ hh => SqT.of (hh _ _ f1)) ?_ ?_
    · rintro j y _ H8 acc C hj e8 hh8 hD8 ⟨rfl, hy⟩ hC'
      obtain ⟨o, ho, hin⟩ := five j y hy
      have up8 : Ext H (hid [D] H8) := fun b u q => by rw [hid_at (by simpa using ne_of_none q hDH)]; exact hh8 _ _ (e1 _ _ q)
      refine ⟨rfl, _, rfl, rfl, _, rfl, ?_⟩
      cases o with
      | none =>
        refine iteYes hin.nn ?_
        exact hC' _ _ hD8 Ext.rfl' hh8 ⟨none, ho, rfl⟩
      | some ds =>
        refine iteNo hin.nn ?_
        obtain ⟨t, as, rfl, hs, hd⟩ := hin
        refine ⟨_, rfl, t, as.map V.ref, rfl, ?_⟩
        rcases hs with hs | hs
        · refine .inl ⟨(hs.ext e1).ext hh8, fun l nl => ?_⟩
          have nlD : D ≠ l := ne_of_none hD8 nl
          refine hC' _ _ (by rw [upd_ne nlD]; exact hD8) (hid_upd_new nl) (hh8.trans (Ext.upd nl)) ⟨some ds, ho, l, as, rfl, SqT.of ?_, (hd.ext up8).ext (hid_upd_new nl)⟩
          rw [hid_at (by simpa using nlD.symm), upd_same]
        · exact .inr ⟨(hs.ext e1).ext hh8, hC' _ _ hD8 Ext.rfl' hh8 ⟨some ds, ho, t, as, rfl, hs.ext up8, hd.ext up8⟩⟩
    intro H2 xs e2 hh2 hD2 hlx hR
    have e02 := e1.trans hh2
    have hpts : PtsAt K (clsD CU CM CO) (hid [D] H2) xs p := by
      match xs, hlx, hR with
      | [y0, y1, y2, y3, y4], _, hR =>
        obtain ⟨o0, g0, r0⟩ := hR 0 y0 rfl
        obtain ⟨o1, g1, r1⟩ := hR 1 y1 rfl
        obtain ⟨o2, g2, r2⟩ := hR 2 y2 rfl
        obtain ⟨o3, g3, r3⟩ := hR 3 y3 rfl
        obtain ⟨o4, g4, r4⟩ := hR 4 y4 rfl
        cases g0
        cases g1
        cases g2
        cases g3
        cases g4
        exact ⟨_, _, _, _, _, rfl, r0, r1, r2, r3, r4⟩
    have hp2 := hpts.ext (hid_ext (S := [D]))
    clear hpts hR e2
    refine ⟨_, rfl, D, xs, p, rfl, hD2, hp2, hg.sh, fun H3 e3 => ?_⟩
    have e03 := e02.trans e3
    refine ⟨_, rfl, D, _, rfl, .inl ⟨SqL.of (e3 _ _ hD2), fun t nt => ?_⟩⟩
    have e4 : Ext H3 (upd H3 t (.tup xs)) := Ext.upd nt
    have f4 : (upd H3 t (.tup xs)) t = some (.tup xs) := upd_same
    generalize (upd H3 t (.tup xs)) = H4 at e4 f4
    have e04 := e03.trans e4
    have hp4 := (hp2.ext e3).ext e4
    have hx4 := e04 _ _ hx
    have b4 := hp4.hidx hx4
    have b5 := (h5.ext e04).hidx hx4
    have b6 := (h6.ext e04).hidx hx4
    have b7 := (h7.ext e04).hidx hx4
    have kp4 : ∀ {b : Addr} {o : HO}, H b = some o → b ≠ x → hid [x] H4 b = some o := fun h n => K33.hidx (e04 _ _ h) n
    have nt4 : t ≠ x := (ne_of_none (e03 _ _ hx) nt).symm
    refine ⟨_, rfl, x, CP, dx, _, rfl, hx4, hC.cl, hC.nP, (by show 0 < 1000; decide), ?_⟩
    have E5 : Ext (hid [x] H4) (upd H4 x (.ins CP dx (putF "own_parts" (.ref t) []))) := hid_put hid_ext
    have X5 : (upd H4 x (.ins CP dx (putF "own_parts" (.ref t) []))) x = some (.ins CP dx (putF "own_parts" (.ref t) [])) := upd_same
    have t5 : (upd H4 x (.ins CP dx (putF "own_parts" (.ref t) []))) t = some (.tup xs) := by rw [upd_ne nt4]; exact f4
    generalize (upd H4 x (.ins CP dx (putF "own_parts" (.ref t) []))) = H5 at E5 X5 t5
    -- given
    obtain ⟨l5, rfl, s5⟩ := b5.ext E5
    refine ⟨_, rfl, l5, p.gv, rfl, s5, hg.gn, hg.gd, Nat.le_trans hg.gl (by decide), fun L6 H6 e6 n6 => ⟨L6, p.gv, rfl, .inl (SqL.of (nw_some n6).2), Nat.le_trans hg.gl (by decide), ⟨p.gv, hg.gl, fun _ z => z⟩, fun g ys H7 as7 e7 n7 => ?_⟩⟩
    rw [as7.eq] at n7
    clear as7
    have e57 := e6.trans e7
    have g7 := (nw_some n7).2
    have ng : g ≠ x := fun z => by
      have := (nw_some n7).1
      rw [z, e6 _ _ X5] at this
      cases this
    refine ⟨_, rfl, x, CP, dx, _, rfl, e57 _ _ X5, hC.cl, hC.nG, (by show 1 < 1000; decide), ?_⟩
    have E8 := hid_put (o := .ins CP dx (putF "own_given" (.ref g) (putF "own_parts" (.ref t) []))) (E5.trans e57)
    have X8 : (upd H7 x (.ins CP dx (putF "own_given" (.ref g) (putF "own_parts" (.ref t) [])))) x = some (.ins CP dx (putF "own_given" (.ref g) (putF "own_parts" (.ref t) []))) := upd_same
    have t8 : (upd H7 x (.ins CP dx (putF "own_given" (.ref g) (putF "own_parts" (.ref t) [])))) t = some (.tup xs) := by rw [upd_ne nt4]; exact e57 _ _ t5
    have g8 : (upd H7 x (.ins CP dx (putF "own_given" (.ref g) (putF "own_parts" (.ref t) [])))) g = some (.tup ((ascF p.gv).map V.str)) := by rw [upd_ne ng]; exact g7
    generalize (upd H7 x (.ins CP dx (putF "own_given" (.ref g) (putF "own_parts" (.ref t) [])))) = H8 at E8 X8 t8 g8
    clear n6 n7 g7 e6 e7 e57
    -- again
    refine ⟨_, rfl, v6, p.ag, rfl, b6.ext E8, hg.ag, fun q ag H9 as9 e9 n9 => ?_⟩
    rw [as9.eq hg.ag.nd] at n9
    clear as9
    have q9 := (nw_some n9).2
    have nq : q ≠ x := fun z => by
      have := (nw_some n9).1
      rw [z, X8] at this
      cases this
    refine ⟨_, rfl, x, CP, dx, _, rfl, e9 _ _ X8, hC.cl, hC.nA, (by show 2 < 1000; decide), ?_⟩
    have E10 := hid_put (o := .ins CP dx (putF "own_again" (.ref q) (putF "own_given" (.ref g) (putF "own_parts" (.ref t) [])))) (E8.trans e9)
    have X10 : (upd H9 x (.ins CP dx (putF "own_again" (.ref q) (putF "own_given" (.ref g) (putF "own_parts" (.ref t) []))))) x = some (.ins CP dx (putF "own_again" (.ref q) (putF "own_given" (.ref g) (putF "own_parts" (.ref t) [])))) := upd_same
    have t10 : (upd H9 x (.ins CP dx (putF "own_again" (.ref q) (putF "own_given" (.ref g) (putF "own_parts" (.ref t) []))))) t = some (.tup xs) := by rw [upd_ne nt4]; exact e9 _ _ t8
    have g10 : (upd H9 x (.ins CP dx (putF "own_again" (.ref q) (putF "own_given" (.ref g) (putF "own_parts" (.ref t) []))))) g = some (.tup ((ascF p.gv).map V.str)) := by rw [upd_ne ng]; exact e9 _ _ g8
    have q10 : (upd H9 x (.ins CP dx (putF "own_again" (.ref q) (putF "own_given" (.ref g) (putF "own_parts" (.ref t) []))))) q = some (.dK (agK (agF p.ag (ascF (p.ag.map (·.1)))))) := by rw [upd_ne nq]; exact q9
    generalize (upd H9 x (.ins CP dx (putF "own_again" (.ref q) (putF "own_given" (.ref g) (putF "own_parts" (.ref t) []))))) = H10 at E10 X10 t10 g10 q10
    clear n9 q9 e9
    -- results
    obtain ⟨l7, rfl, s7⟩ := b7.ext E10
    refine ⟨_, rfl, l7, p.rs, rfl, s7, hg.rn, hg.rd, Nat.le_trans hg.rl (by decide), fun L6 H6 e6 n6 => ⟨L6, p.rs, rfl, .inl (SqL.of (nw_some n6).2), Nat.le_trans hg.rl (by decide), ⟨p.rs, hg.rl, fun _ z => z⟩, fun r ys H7 as7 e7 n7 => ?_⟩⟩
    rw [as7.eq] at n7
    clear as7
    have e57 := e6.trans e7
    have r7 := (nw_some n7).2
    have nr : r ≠ x := fun z => by
      have := (nw_some n7).1
      rw [z, e6 _ _ X10] at this
      cases this
    refine ⟨_, rfl, x, CP, dx, _, rfl, e57 _ _ X10, hC.cl, hC.nR, (by show 3 < 1000; decide), ?_⟩
    have E11 := hid_put (o := .ins CP dx (pfl t g q r)) (E10.trans e57)
    have X11 : (upd H7 x (.ins CP dx (pfl t g q r))) x = some (.ins CP dx (pfl t g q r)) := upd_same
    have t11 : (upd H7 x (.ins CP dx (pfl t g q r))) t = some (.tup xs) := by rw [upd_ne nt4]; exact e57 _ _ t10
    have g11 : (upd H7 x (.ins CP dx (pfl t g q r))) g = some (.tup ((ascF p.gv).map V.str)) := by rw [upd_ne ng]; exact e57 _ _ g10
    have q11 : (upd H7 x (.ins CP dx (pfl t g q r))) q = some (.dK (agK (agF p.ag (ascF (p.ag.map (·.1)))))) := by rw [upd_ne nq]; exact e57 _ _ q10
    have r11 : (upd H7 x (.ins CP dx (pfl t g q r))) r = some (.tup ((ascF p.rs).map V.str)) := by rw [upd_ne nr]; exact r7
    show (tSeq _ _) _ _ (upd H7 x (.ins CP dx (pfl t g q r)))
    generalize (upd H7 x (.ins CP dx (pfl t g q r))) = H11 at E11 X11 t11 g11 q11 r11
    clear n6 n7 r7 e6 e7 e57
    have hPr : PrAt K (clsD CU CM CO) CP H11 x p.norm := ⟨⟨dx, t, xs, g, q, r, X11, t11, b4.ext E11, g11, q11, r11⟩⟩
    have lds : p.norm.ds.length ≤ 1000 := by
      have := ds_len p
      have := hg.sh.l0
      have := hg.sh.l1
      have := hg.sh.l2
      have := hg.sh.l3
      have := hg.sh.l4
      rw [norm_ds]
      omega
    refine ⟨_, rfl, x, CP, dx, _, rfl, X11, rfl, x, p.norm, rfl, hPr, hg.dg, lds, hg.ln, ⟨_, Nat.le_trans hg.six (by decide), fun z h => ascF_mem.mpr h⟩, fun q' H12 e12 n12 => ⟨q', _, rfl, .inr (SqT.of (nw_some n12).2), _, _, rfl, rfl, _, rfl, ?_⟩⟩
    refine iteNo (decide_eq_false (by rw [List.length_map]; have := hg.six; omega)) ?_
    refine ⟨_, rfl, x, dx, _, rfl, e12 _ _ X11, pfl_no t g q r, x, p.norm, rfl, hPr.ext e12, hg.md, lds, hg.ln, fun H13 e13 => ?_⟩
    exact k H13 (fun b o hb nb => e13 _ _ (e12 _ _ (E11 _ _ (kp4 hb nb)))) ((hPr.ext e12).ext e13)
end
end K33
end
section
set_option Elab.async false
set_option autoImplicit false
set_option linter.all false
set_option maxRecDepth 100000
set_option maxHeartbeats 4000000
set_option pp.maxSteps 1500
namespace K33
open PySem PySem.Spec PyProof.Rows L2 Ls
open C8 (pss_cut tCut)
open TL
/-! ### part_of, is_place -/
def lenO : Option (List Dd) → Int
  | none => -1
  | some ds => ds.length
def okAt (o : Option (List Dd)) (n : Int) : Bool := decide (0 ≤ n) && decide (n ≤ lenO o)
theorem parts_first {i : Nat} {z : Str} (h : partsS[i]? = some z) : ∀ m, m < i → partsS[m]? ≠ some z := fun m hm => by
  match i, h, m, hm with
  | 1, h, 0, _ => cases h; decide +kernel
  | 2, h, 0, _ => cases h; decide +kernel
  | 2, h, 1, _ => cases h; decide +kernel
  | 3, h, 0, _ => cases h; decide +kernel
  | 3, h, 1, _ => cases h; decide +kernel
  | 3, h, 2, _ => cases h; decide +kernel
  | 4, h, 0, _ => cases h; decide +kernel
  | 4, h, 1, _ => cases h; decide +kernel
  | 4, h, 2, _ => cases h; decide +kernel
  | 4, h, 3, _ => cases h; decide +kernel
  | i + 5, h, _, _ => simp [partsS] at h
theorem pts_at (p : Pr) {i : Nat} {z : Str} (h : partsS[i]? = some z) : ∃ o, p.pts[i]? = some o := by
  match i, h with
  | 0, _ => exact ⟨_, rfl⟩
  | 1, _ => exact ⟨_, rfl⟩
  | 2, _ => exact ⟨_, rfl⟩
  | 3, _ => exact ⟨_, rfl⟩
  | 4, _ => exact ⟨_, rfl⟩
  | i + 5, h => simp [partsS] at h
section
variable {P : PySem.Program} {w : World} {K : PySem.W.Frag} {mg : Str → Option Value} {base : Heap} {CE CD CU CM CO CP tP : Addr} {tk : Str → Tok}
def spPO (K : PySem.W.Frag) (cl : Dd → Addr) (CP : Addr) : Sp := fun vs H Q _ => ∃ (a : Addr) (p : Pr) (i : Nat) (z : Str), vs = [.ref a, .str z] ∧ PrAt K cl CP H a p ∧ partsS[i]? = some z ∧ ∀ v o, p.pts[i]? = some o → PtAt K cl H v o → Q v H
abbrev s_part_of : Stmt := top 54
abbrev N_part_of : List Str := ["program", "part"]
theorem sc_part_of : FnScope N_part_of ["program", "part"] (defScope s_part_of) := ⟨rfl, rfl, rfl, by decide +kernel, rfl, by decide +kernel, by decide +kernel⟩
theorem ok_part_of {cl : Dd → Addr} {f : Addr} {fd : FuncData} (F : Fun K "part_of" "part_of" s_part_of f fd) (T : Tx K mg CE CD CU CM CO CP tP tk) (hC : ClP K CP) : FnOk P w K mg base CX0 1 f fd ["program", "part"] (spPO K cl CP) := by
  refine F.ok sc_part_of (fun vs H Q E h => ?_) (fun cdv A outer s H vs Q E hr h => ?_)
  · obtain ⟨a, p, i, z, rfl, _⟩ := h
    rfl
  · obtain ⟨a, p, i, z, rfl, ⟨dx, t, vs, g, q, r, ha, ht, hp, hg, hq, hr'⟩, hz, k⟩ := h
    refine ⟨_, (pss_one (ps_ret (pe_ix ix_tup (pe_fld (pv 0) rfl) (pe_bm PySem.F.plainAttrs_tuple PySem.F.slot_tuple_index PySem.F.type_tuple_index mt_tup_index (pe_gref (by rfl) T.m_PARTS) (pa_cons (pv 1) pa_nil)) (fun _ _ => rfl)))), ?_⟩
    obtain ⟨o, ho⟩ := pts_at p hz
    have hl := hp.len
    have hi : i < vs.length := by
      have := (List.getElem?_eq_some_iff.mp hz).1
      have h5 : partsS.length = 5 := rfl
      omega
    have hv : vs[i]? = some vs[i] := List.getElem?_eq_getElem hi
    generalize vs[i] = v at hv
    obtain ⟨o', ho', hpt⟩ := hp.at_ hv
    refine ⟨_, rfl, a, _, dx, _, _, rfl, ha, hC.cl, hC.nP, pfl_p t g q r, ?_⟩
    refine ⟨.inr (.inl ⟨rfl, T.pob⟩), _, rfl, tP, partsS, z, i, rfl, rfl, T.parts _, hz, parts_first hz, t, _, (i : Nat), v, rfl, rfl, SqT.of ht, atI_nat hv, k v o' ho' hpt⟩
def spIP (K : PySem.W.Frag) (cl : Dd → Addr) (CP : Addr) : Sp := fun vs H Q _ => ∃ (a b : Addr) (p : Pr) (i : Nat) (z : Str) (n : Int) (o : Option (List Dd)), vs = [.ref a, .ref b] ∧ PrAt K cl CP H a p ∧ H b = some (.tup [.str z, .int n]) ∧ partsS[i]? = some z ∧ p.pts[i]? = some o ∧ Q (.bl (okAt o n)) H
abbrev s_is_place : Stmt := top 55
abbrev N_is_place : List Str := ["program", "value", "deeds"]
theorem sc_is_place : FnScope N_is_place ["program", "value"] (defScope s_is_place) := ⟨rfl, rfl, rfl, by decide +kernel, rfl, by decide +kernel, by decide +kernel⟩
theorem ok_is_place {cl : Dd → Addr} {f : Addr} {fd : FuncData} (F : Fun K "is_place" "is_place" s_is_place f fd) (T : Tx K mg CE CD CU CM CO CP tP tk) (c_part_of : Cal P w K mg base CX0 1 "part_of" (spPO K cl CP)) (c_is_integer : Cal P w K mg base CX0 1 "is_integer" spInt) : FnOk P w K mg base CX0 3 f fd ["program", "value"] (spIP K cl CP) := by
  refine F.ok sc_is_place (fun vs H Q E h => ?_) (fun cdv A outer s H vs Q E hr h => ?_)
  · obtain ⟨a, b, p, i, z, n, o, rfl, _⟩ := h
    rfl
  · obtain ⟨a, b, p, i, z, n, o, rfl, ha, hb, hz, ho, k⟩ := h
    refine ⟨_, (pss_cons (ps_if ((pw_or (pt_not (pt_val (pe_callB call_isi (by rfl) (T.bn _ (by decide +kernel)) (by decide +kernel) (pa_cons (pv 1) (pa_cons (pe_gty (T := "tuple") (by rfl) (T.bn _ (by decide +kernel)) (by decide +kernel)) pa_nil))))) (pw_or (pt_cmpR op_ne (pe_callB call_len_seq (by rfl) (T.bn _ (by decide +kernel)) (by decide +kernel) (pa_cons (pv 1) pa_nil)) pe_int (nomark _)) (pw_or (pt_not (pt_val (pe_callB call_isi (by rfl) (T.bn _ (by decide +kernel)) (by decide +kernel) (pa_cons (pe_ix ix_tup (pv 1) pe_int (fun _ _ => rfl)) (pa_cons (pe_gty (T := "str") (by rfl) (T.bn _ (by decide +kernel)) (by decide +kernel)) pa_nil))))) (pw_or1 (pt_cmpR op_notIn_seq (pe_ix ix_tup (pv 1) pe_int (fun _ _ => rfl)) (pe_gref (by rfl) T.m_PARTS) rfl)))))).pt (pss_one (ps_ret pe_bl)) pss_nil)
      (pss_cons (ps_set (i := 2) sc_is_place.nd rfl (by first | exact Or.inl rfl | exact Or.inr rfl) (pe_cal c_part_of (hr.mono (by decide)) (by rfl) pass0 (pa_cons (pv 0) (pa_cons (pe_ix ix_tup (pv 1) pe_int (fun _ _ => rfl)) pa_nil))))
      (pss_one (ps_ret (pe_and (pe_cmpR op_notN (pv 2) pe_non (nomark _)) (pe_and (pe_cal c_is_integer (hr.mono (by decide)) (by rfl) pass0 (pa_cons (pe_ix ix_tup (pv 1) pe_int (fun _ _ => rfl)) pa_nil)) (pe_one (pe_chain op_le op_le pe_int (pe_ix ix_tup (pv 1) pe_int (fun _ _ => rfl)) (pe_callB call_len_seq (by rfl) (T.bn _ (by decide +kernel)) (by decide +kernel) (pa_cons (pv 2) pa_nil)))))))))), ?_⟩
    have tvz : TVs H [.str z, .int n] [.str z, .int n] := .cons (.str z) (.cons (.int n) .nil)
    have tvb : TV H (.ref b) (.tuple [.str z, .int n]) := .tup hb tvz
    have kt : PySem.W.kitOne K (.type "tuple") (.type "tuple") = some true := kit_ty (by decide +kernel)
    refine ⟨_, rfl, _, _, _, _, true, rfl, .ty "tuple", tyX_of tvb, kt, _, rfl, ?_⟩
    refine iteF ?_
    refine ⟨_, rfl, b, _, rfl, .inr (SqT.of hb), rfl, _, rfl, ?_⟩
    refine iteNo rfl ?_
    refine ⟨_, rfl, b, _, 0, .str z, rfl, rfl, SqT.of hb, atI_nat (j := 0) rfl, _, _, _, _, true, rfl, .ty "str", tyX_of (.str z), kit_str _, _, rfl, ?_⟩
    refine iteF ?_
    refine ⟨_, rfl, b, _, 0, .str z, rfl, rfl, SqT.of hb, atI_nat (j := 0) rfl, tP, _, rfl, .inr (T.parts _), rfl, rfl, _, rfl, ?_⟩
    rw [inV_strs]
    refine iteNo (by rw [decide_eq_true (List.mem_of_getElem? hz)]; rfl) ?_
    refine ⟨_, rfl, _, rfl, b, _, 0, .str z, rfl, rfl, SqT.of hb, atI_nat (j := 0) rfl, a, p, i, z, rfl, ha, hz, fun v o' ho' hpt => ?_⟩
    rw [ho] at ho'
    cases ho'
    have nn := hpt.nn
    refine ⟨_, rfl, rfl, _, rfl, ?_⟩
    cases o with
    | none =>
      have ek : okAt none n = false := by
        unfold okAt lenO
        by_cases h0 : 0 ≤ n
        · rw [decide_eq_false (show ¬ n ≤ -1 by omega), Bool.and_false]
        · rw [decide_eq_false h0, Bool.false_and]
      rw [ek] at k
      refine iteNo (by rw [nn]; rfl) ?_
      exact k
    | some ds =>
      obtain ⟨t, as, rfl, hta, hda⟩ := hpt
      refine iteYes (by rw [nn]; rfl) ?_
      refine ⟨_, rfl, b, _, 1, .int n, rfl, rfl, SqT.of hb, atI_nat (j := 1) rfl, .int n, _, rfl, .int n, ?_⟩
      refine ⟨_, rfl, iteYes rfl ?_⟩
      have ln : (as.map V.ref).length = ds.length := by rw [List.length_map, hda.1]
      refine ⟨_, rfl, b, _, 1, .int n, rfl, rfl, SqT.of hb, atI_nat (j := 1) rfl, _, _, rfl, rfl, ?_⟩
      by_cases h0 : 0 ≤ n
      · refine ⟨true, by simp [h0], iteT ?_⟩
        refine ⟨_, rfl, t, _, rfl, .inr hta, _, _, rfl, rfl, ?_⟩
        have ek : okAt (some ds) n = decide (n ≤ ((as.map V.ref).length : Nat)) := by
          unfold okAt lenO
          rw [decide_eq_true h0, Bool.true_and, ln]
        rw [ek] at k
        exact k
      · refine ⟨false, by simp; omega, iteF ?_⟩
        have ek : okAt (some ds) n = false := by
          unfold okAt
          rw [decide_eq_false h0, Bool.false_and]
        rw [ek] at k
        exact k
end
end K33
end
section
set_option Elab.async false
set_option autoImplicit false
set_option linter.all false
set_option maxRecDepth 100000
set_option maxHeartbeats 4000000
set_option pp.maxSteps 1500
namespace K33
open PySem PySem.Spec PyProof.Rows L2 Ls
open C8 (pss_cut tCut)
open TL
/-! ### needed names, plain -/
def ahd (d : Dd) (ns : List Str) : List Str := ascF (d.2 ++ ns.filter fun n => decide (some n ≠ d.1))
def bck : List Dd → List Str → List Str
  | [], ns => ns
  | d :: r, ns => ahd d (bck r ns)
theorem ahd_mem {d : Dd} {ns : List Str} {y : Str} : y ∈ ahd d ns ↔ y ∈ d.2 ∨ (y ∈ ns ∧ some y ≠ d.1) := by
  unfold ahd
  rw [ascF_mem, List.mem_append, List.mem_filter, decide_eq_true_eq]
theorem bck_sub {us : List Str} : ∀ {ds : List Dd} {ns : List Str}, (∀ d ∈ ds, ∀ z ∈ d.2, z ∈ us) → (∀ z ∈ ns, z ∈ us) → ∀ z ∈ bck ds ns, z ∈ us
  | [], ns, _, h, z, hz => h z hz
  | d :: r, ns, hd, h, z, hz => by
    rcases ahd_mem.mp (show z ∈ ahd d (bck r ns) from hz) with h1 | ⟨h1, _⟩
    · exact hd d (List.mem_cons_self ..) z h1
    · exact bck_sub (fun e he => hd e (List.mem_cons_of_mem _ he)) h z h1
theorem bck_nodup {ds : List Dd} {ns : List Str} (h : ns.Nodup) : (bck ds ns).Nodup := by
  cases ds with
  | nil => exact h
  | cons d r => exact (ascF_ok _).1
theorem bck_len {us : List Str} {ds : List Dd} {ns : List Str} (hd : ∀ d ∈ ds, ∀ z ∈ d.2, z ∈ us) (h : ∀ z ∈ ns, z ∈ us) (nd : ns.Nodup) : (bck ds ns).length ≤ us.length := nodup_len (bck_nodup nd) (bck_sub hd h)
theorem fm_if {α β : Type} (p : α → Prop) [DecidablePred p] (f : α → β) : ∀ l : List α, l.filterMap (fun x => if p x then some (f x) else none) = (l.filter fun x => decide (p x)).map f
  | [] => rfl
  | a :: l => by
    rw [List.filterMap_cons, List.filter_cons, fm_if p f l]
    by_cases h : p a
    · rw [if_pos h, if_pos (decide_eq_true h)]
      rfl
    · rw [if_neg h, if_neg (by rw [decide_eq_false h]; exact Bool.false_ne_true)]
section
variable {P : PySem.Program} {w : World} {K : PySem.W.Frag} {mg : Str → Option Value} {base : Heap} {CE CD CU CM CO CP tP : Addr} {tk : Str → Tok}
/-! ### ahead_of -/
def spAhd (K : PySem.W.Frag) (cl : Dd → Addr) : Sp := fun vs H Q _ => ∃ (a t : Addr) (d : Dd) (ns : List Str), vs = [.ref a, .ref t] ∧ DeedAt cl H a d ∧ Good d ∧ SqT K H t (ns.map V.str) ∧ ns.length ≤ 50 ∧ ∀ q H', Ext H H' → nw H H' q = some (.tup ((ahd d ns).map V.str)) → Q (.ref q) H'
abbrev s_ahead_of : Stmt := top 57
abbrev N_ahead_of : List Str := ["deed", "names", "kept", "name"]
theorem sc_ahead_of : FnScope N_ahead_of ["deed", "names"] (defScope s_ahead_of) := ⟨rfl, rfl, rfl, by decide +kernel, rfl, by decide +kernel, by decide +kernel⟩
theorem ok_ahd {f : Addr} {fd : FuncData} (F : Fun K "ahead_of" "ahead_of" s_ahead_of f fd) (T : Tx K mg CE CD CU CM CO CP tP tk) (c_uses : Prp P w K mg base CX0 1 (InC CU CM CO) "uses" (spUses (clsD CU CM CO))) (c_makes : Prp P w K mg base CX0 1 (InC CU CM CO) "makes" (spMakes (clsD CU CM CO))) :
    FnOk P w K mg base CX0 3 f fd ["deed", "names"] (spAhd K (clsD CU CM CO)) := by
  refine F.ok sc_ahead_of (fun vs H Q E h => ?_) (fun cdv A outer s H vs Q E hr h => ?_)
  · obtain ⟨a, t, d, ns, rfl, _⟩ := h
    rfl
  · obtain ⟨a, t, d, ns, rfl, hda, hgd, ht, hn, k⟩ := h
    have h4 : sizeLine = 16777216 := sizeLine_eq
    refine ⟨_, (pss_cons (ps_setLc (i := 2) (own := [("name", 3)]) rfl sc_ahead_of.nd rfl rfl (sw_true rfl rfl rfl (by decide +kernel)) (pi_tup (pv 1)) (blkOk_by (own := [("name", 3)]) (N := N_ahead_of) (sc := defScope s_ahead_of) (by decide +kernel)) (fun _ _ _ _ _ => (pg_name (i := 3) sc_ahead_of.nd rfl (by first | exact Or.inl rfl | exact Or.inr rfl))) (fun _ _ _ _ _ => pts_one (pt_cmpR op_ne (pv 3) ((pe_prp c_makes (hr.mono (by decide)) pass0) (pv 0)) (nomark _))) (fun _ _ _ _ _ => (pv 3)))
      (pss_one (ps_ret (pe_callTy call_tuple_of (by rfl) (T.bn _ (by decide +kernel)) (by decide +kernel) (pa_cons (pe_callB (cr_sortT rfl) (by rfl) (T.bn _ (by decide +kernel)) (by decide +kernel) (pa_cons (pe_callTy (cr_setT rfl) (by rfl) (T.bn _ (by decide +kernel)) (by decide +kernel) (pa_cons (pe_lc (own := [("name", 3)]) rfl sc_ahead_of.nd (pi_list (pe_lst (StX.pa_star ((pe_prp c_uses (hr.mono (by decide)) pass0) (pv 0)) (StX.pa_star (pv 2) pa_nil)))) (blkOk_by (own := [("name", 3)]) (N := N_ahead_of) (sc := defScope s_ahead_of) (by decide +kernel)) (fun _ _ _ _ _ => (pg_name (i := 3) sc_ahead_of.nd rfl (by first | exact Or.inl rfl | exact Or.inr rfl))) (fun _ _ _ _ _ => pts_nil) (fun _ _ _ _ _ => (pe_callTy SkE.call_str_str (by rfl) (T.bn _ (by decide +kernel)) (by decide +kernel) (pa_cons (pv 3) pa_nil)))) pa_nil)) pa_nil)) pa_nil))))), ?_⟩
    obtain ⟨dx', fs', ha⟩ := hda.at_
    refine ⟨_, rfl, t, rfl, ⟨_, ht⟩, fun D hD => ?_⟩
    refine lc_strs (walk_tup (K := K) (xs := ns.map V.str)) (fun z => if some z ≠ d.1 then some (.str z) else none) (by omega) (fun l => ht.ext (Ext.upd hD)) (fun i z l C N hz hC hN => ?_) ?_
    · have e1 : Ext H (upd H D (.lst l)) := Ext.upd hD
      refine ⟨rfl, _, rfl, _, rfl, a, _, dx', fs', rfl, e1 _ _ ha, clsD_in CU CM CO d, a, d, rfl, hda.ext e1, ?_⟩
      obtain ⟨m, us⟩ := d
      cases m with
      | none =>
        refine ⟨rfl, _, rfl, iteYes rfl ⟨_, rfl, hC _ (if_pos (by simp))⟩⟩
      | some m =>
        refine ⟨rfl, _, rfl, ?_⟩
        by_cases e : z = m
        · refine iteNo (by subst e; show (!decide (V.str z = V.str z)) = false; rw [decide_eq_true rfl]; rfl) (hN (if_neg (by simp [e])))
        · refine iteYes (by show (!decide (V.str z = V.str m)) = true; rw [strNo e]; rfl) ⟨_, rfl, hC _ (if_pos fun q => e (Option.some.inj q))⟩
    · rw [fm_if (fun z => some z ≠ d.1) V.str]
      have lk : (ns.filter fun n => decide (some n ≠ d.1)).length ≤ ns.length := List.length_filter_le _ _
      have ek : ahd d ns = ascF (d.2 ++ ns.filter fun n => decide (some n ≠ d.1)) := rfl
      rw [ek] at k
      generalize (ns.filter fun n => decide (some n ≠ d.1)) = kept at lk k ⊢
      have e1 : Ext H (upd H D (.lst (kept.map V.str))) := Ext.upd hD
      have f1 : (upd H D (.lst (kept.map V.str))) D = some (.lst (kept.map V.str)) := upd_same
      generalize (upd H D (.lst (kept.map V.str))) = H1 at e1 f1
      have cat : d.2.map V.str ++ (kept.map V.str ++ []) = (d.2 ++ kept).map V.str := by rw [List.append_nil, List.map_append]
      have ll : (d.2 ++ kept).length ≤ 53 := by
        have := hgd.le
        rw [List.length_append]
        omega
      refine ⟨_, rfl, a, _, dx', fs', rfl, e1 _ _ ha, clsD_in CU CM CO d, a, d, rfl, hda.ext e1, fun tu htu => ⟨tu, _, rfl, .inl (SqT.of htu), _, rfl, D, _, rfl, .inr (SqL.of f1), ?_⟩⟩
      refine ⟨(by rw [cat, List.length_map]; omega), fun L nL => ?_⟩
      have e2 : Ext H1 (upd H1 L (.lst (d.2.map V.str ++ (kept.map V.str ++ [])))) := Ext.upd nL
      have f2 : (upd H1 L (.lst (d.2.map V.str ++ (kept.map V.str ++ [])))) L = some (.lst ((d.2 ++ kept).map V.str)) := by rw [upd_same, cat]
      generalize (upd H1 L (.lst (d.2.map V.str ++ (kept.map V.str ++ [])))) = H2 at e2 f2
      generalize d.2 ++ kept = zs at f2 ll k
      refine ⟨L, rfl, ⟨_, SqL.of f2⟩, fun D2 hD2 => ?_⟩
      refine lc_str1 (walk_list (K := K) (xs := zs.map V.str)) V.str (by omega) (fun l => (SqL.of f2).ext (Ext.upd hD2)) (fun i z l C hz hC => ⟨rfl, _, rfl, _, rfl, hC⟩) ?_
      have e3 : Ext H2 (upd H2 D2 (.lst (zs.map V.str))) := Ext.upd hD2
      have f3 : (upd H2 D2 (.lst (zs.map V.str))) D2 = some (.lst (zs.map V.str)) := upd_same
      generalize (upd H2 D2 (.lst (zs.map V.str))) = H3 at e3 f3
      have e03 := (e1.trans e2).trans e3
      refine ⟨D2, zs, rfl, SqL.of f3, by omega, fun S M1 nS nd lM mM => ?_⟩
      have e9 : Ext H3 (upd H3 S (SetT w S M1)) := Ext.upd nS
      refine ⟨S, M1, rfl, upd_same, by omega, fun ys p pm so np => ?_⟩
      have e10 := e9.trans (Ext.upd (o := HO.lst (ys.map V.str)) np)
      refine ⟨p, _, rfl, .inl ⟨SqL.of upd_same, fun q nq => ?_⟩⟩
      have as : Asc zs ys := ⟨pm.nodup_iff.mpr nd, so, fun y => by rw [pm.mem_iff, mM]⟩
      refine k q _ (e03.trans (e10.trans (Ext.upd nq))) ?_
      rw [nw_at (ext_free (e03.trans e10) nq), upd_same, as.eq]
/-! ### names_back, back_through -/
def spNB (K : PySem.W.Frag) (cl : Dd → Addr) : Sp := fun vs H Q _ => ∃ (t u : Addr) (as : List Addr) (ds : List Dd) (ns us : List Str), vs = [.ref t, .ref u] ∧ SqT K H t (as.map V.ref) ∧ DsAt cl H as ds ∧ (∀ d ∈ ds, Good d) ∧ ds.length ≤ 1000 ∧ H u = some (.tup (ns.map V.str)) ∧ ns.Nodup ∧ us.length ≤ 50 ∧ (∀ d ∈ ds, ∀ z ∈ d.2, z ∈ us) ∧ (∀ z ∈ ns, z ∈ us) ∧
  ∀ (q : Addr) (ts : List Addr) (H' : Hp), Ext H H' → H q = none → H' q = some (.lst (ts.map V.ref)) → ts.length = ds.length + 1 → (∀ (i : Nat) (t' : Addr), ts[i]? = some t' → H' t' = some (.tup ((bck (ds.drop i) ns).map V.str))) → Q (.ref q) H'
abbrev s_names_back : Stmt := top 58
abbrev N_names_back : List Str := ["deeds", "names", "found", "deed"]
theorem sc_names_back : FnScope N_names_back ["deeds", "names"] (defScope s_names_back) := ⟨rfl, rfl, rfl, by decide +kernel, rfl, by decide +kernel, by decide +kernel⟩
theorem ok_nb {f : Addr} {fd : FuncData} (F : Fun K "names_back" "names_back" s_names_back f fd) (T : Tx K mg CE CD CU CM CO CP tP tk) (c_ahead_of : Cal P w K mg base CX0 3 "ahead_of" (spAhd K (clsD CU CM CO))) :
    FnOk P w K mg base CX0 4 f fd ["deeds", "names"] (spNB K (clsD CU CM CO)) := by
  refine F.ok sc_names_back (fun vs H Q E h => ?_) (fun cdv A outer s H vs Q E hr h => ?_)
  · obtain ⟨t, u, as, ds, ns, us, rfl, _⟩ := h
    rfl
  · obtain ⟨t, u, as, ds, ns, us, rfl, ht, hds, hgd, hl, hu, hnd, hus, hsd, hsn, k⟩ := h
    have h4 : sizeLine = 16777216 := sizeLine_eq
    refine ⟨_, (pss_cons (ps_set (i := 2) sc_names_back.nd rfl (by first | exact Or.inl rfl | exact Or.inr rfl) (pe_lst (pa_cons (pv 1) pa_nil)))
      (pss_cons (ps_for PassesOwn.never rfl (pi_tup (pe_revT (pv 0))) (pg_name (i := 3) sc_names_back.nd rfl (by first | exact Or.inl rfl | exact Or.inr rfl))
      (pss_cons (ps_set (i := 1) sc_names_back.nd rfl (by first | exact Or.inl rfl | exact Or.inr rfl) (pe_cal c_ahead_of (hr.mono (by decide)) (by rfl) pass0 (pa_cons (pv 3) (pa_cons (pv 1) pa_nil))))
      (pss_one (ps_expr (pe_bm PySem.F.plainAttrs_list PySem.F.slot_list_append PySem.F.type_list_append mt_append (pv 2) (pa_cons (pv 1) pa_nil))))))
      (pss_one (ps_ret (pe_revL (pv 2)))))), ?_⟩
    refine ⟨_, rfl, (by show 1 ≤ sizeLine; decide), fun L nL => ?_⟩
    have e1 : Ext H (upd H L (.lst [.ref u])) := Ext.upd nL
    have f1 : (upd H L (.lst [.ref u])) L = some (.lst [.ref u]) := upd_same
    generalize (upd H L (.lst [.ref u])) = H1 at e1 f1
    refine ⟨_, rfl, t, _, rfl, ht.ext e1, fun r nr => ?_⟩
    have e2 : Ext H1 (upd H1 r (.tup (as.map V.ref).reverse)) := Ext.upd nr
    have f2 : (upd H1 r (.tup (as.map V.ref).reverse)) r = some (.tup (as.map V.ref).reverse) := upd_same
    have f21 := e2 _ _ f1
    generalize (upd H1 r (.tup (as.map V.ref).reverse)) = H2 at e2 f2 f21
    have nLH : H L = none := nL
    have lz : (as.map V.ref).reverse.length = ds.length := by rw [List.length_reverse, List.length_map, hds.1]
    have e02 := e1.trans e2
    have nrL : r ≠ L := (ne_of_none f1 nr).symm
    have ext0 : ∀ {H' : Hp}, (∀ b o, H2 b = some o → b ≠ L → H' b = some o) → Ext H H' := fun kp b o q => kp b o (e02 b o q) (ne_of_none q nLH)
    refine ⟨r, rfl, ⟨_, SqT.of f2⟩, for_it (walk_tup (K := K) (xs := (as.map V.ref).reverse)) (fun i σ' H' => ∃ uI x3 ts, σ' = [some (.ref t), some (.ref uI), some (.ref L), x3] ∧ (∀ b o, H2 b = some o → b ≠ L → H' b = some o) ∧ H' L = some (.lst (ts.map V.ref)) ∧ ts.length = i + 1 ∧ ts[i]? = some uI ∧ ∀ (j : Nat) (t' : Addr), ts[j]? = some t' → H' t' = some (.tup ((bck (ds.drop (ds.length - j)) ns).map V.str)))
      ⟨u, _, [u], rfl, fun b o q _ => q, f21, rfl, rfl, fun j t' h => ?_⟩ (fun i σ' H' _ ⟨_, _, _, _, kp, _⟩ => SqT.of (kp _ _ f2 nrL)) ?_ ?_⟩
    · match j, h with
      | 0, h =>
        cases h
        rw [Nat.sub_zero, List.drop_length]
        exact e02 _ _ hu
      | j + 1, h => simp at h
    · rintro i x σ' _ H3 hi ⟨uI, x3, ts, rfl, kp, f3, lt, hI, hts⟩ ⟨rfl, hx⟩
      have e03 := ext0 kp
      rw [lz] at hi
      rw [List.getElem?_reverse (by rw [List.length_map, hds.1]; exact hi), List.length_map, hds.1, List.getElem?_map] at hx
      obtain ⟨b, hb, rfl⟩ := Option.map_eq_some_iff.mp hx
      obtain ⟨d, hd, hda⟩ := hds.2 _ b hb
      have hdr : ds.drop (ds.length - (i + 1)) = d :: ds.drop (ds.length - i) := by
        have h1 := (List.getElem?_eq_some_iff.mp hd)
        obtain ⟨h2, h3⟩ := h1
        rw [show ds.length - (i + 1) = ds.length - 1 - i by omega, List.drop_eq_getElem_cons h2, h3, show ds.length - 1 - i + 1 = ds.length - i by omega]
      have hbl : (bck (ds.drop (ds.length - i)) ns).length ≤ 50 := Nat.le_trans (bck_len (us := us) (fun d h => hsd d (List.mem_of_mem_drop h)) hsn hnd) hus
      refine ⟨_, rfl, _, rfl, b, uI, d, _, rfl, hda.ext e03, hgd d (List.mem_of_getElem? hd), SqT.of (hts i uI hI), hbl, fun q H4 e4 nq => ?_⟩
      have f4 := e4 _ _ f3
      refine ⟨_, rfl, .inl ⟨rfl, _, SqL.of f4⟩, _, rfl, L, _, _, rfl, rfl, f4, by rw [List.length_map]; omega, q, _, ts ++ [q], rfl, fun b' o h1 h2 => by rw [upd_ne h2]; exact e4 _ _ (kp b' o h1 h2), by rw [upd_same, List.map_append]; rfl, by rw [List.length_append, lt]; rfl, by rw [List.getElem?_append_right (by omega), lt]; simp, fun j t' h => ?_⟩
      have kp5 : ∀ b' o, H4 b' = some o → b' ≠ L → (upd H4 L (.lst (ts.map V.ref ++ [.ref q]))) b' = some o := fun b' o h1 h2 => by rw [upd_ne h2]; exact h1
      by_cases hj : j < ts.length
      · rw [List.getElem?_append_left hj] at h
        exact kp5 _ _ (e4 _ _ (hts j t' h)) (ne_of (e4 _ _ (hts j t' h)) f4 (by intro z; cases z))
      · have : j = ts.length := by
          have h1 := (List.getElem?_eq_some_iff.mp h).1
          rw [List.length_append, List.length_singleton] at h1
          omega
        subst this
        rw [List.getElem?_append_right (Nat.le_refl _), Nat.sub_self] at h
        cases h
        rw [lt, hdr]
        exact kp5 _ _ (nw_some nq).2 (ne_of (nw_some nq).2 f4 (by intro z; cases z))
    · rintro σ' H3 ⟨uI, x3, ts, rfl, kp, f3, lt, hI, hts⟩
      rw [lz] at lt
      refine ⟨_, rfl, L, _, rfl, SqL.of f3, fun q nq => ?_⟩
      have e4 : Ext H3 (upd H3 q (.lst (ts.map V.ref).reverse)) := Ext.upd nq
      refine k q ts.reverse _ ((ext0 kp).trans e4) (ext_free (ext0 kp) nq) (by rw [upd_same, List.map_reverse]) (by rw [List.length_reverse, lt]) fun i t' h => ?_
      have hi : i < ts.length := by
        have := (List.getElem?_eq_some_iff.mp h).1
        rwa [List.length_reverse] at this
      rw [List.getElem?_reverse hi, lt] at h
      have := hts _ t' h
      rw [show ds.length - (ds.length + 1 - 1 - i) = i by omega] at this
      exact e4 _ _ this
def spBT (K : PySem.W.Frag) (cl : Dd → Addr) : Sp := fun vs H Q _ => ∃ (t u : Addr) (as : List Addr) (ds : List Dd) (ns us : List Str), vs = [.ref t, .ref u] ∧ SqT K H t (as.map V.ref) ∧ DsAt cl H as ds ∧ (∀ d ∈ ds, Good d) ∧ ds.length ≤ 1000 ∧ H u = some (.tup (ns.map V.str)) ∧ ns.Nodup ∧ us.length ≤ 50 ∧ (∀ d ∈ ds, ∀ z ∈ d.2, z ∈ us) ∧ (∀ z ∈ ns, z ∈ us) ∧
  ∀ (q : Addr) (H' : Hp), Ext H H' → H' q = some (.tup ((bck ds ns).map V.str)) → Q (.ref q) H'
abbrev s_back_through : Stmt := top 59
abbrev N_back_through : List Str := ["deeds", "names"]
theorem sc_back_through : FnScope N_back_through ["deeds", "names"] (defScope s_back_through) := ⟨rfl, rfl, rfl, by decide +kernel, rfl, by decide +kernel, by decide +kernel⟩
theorem ok_bt {cl : Dd → Addr} {f : Addr} {fd : FuncData} (F : Fun K "back_through" "back_through" s_back_through f fd) (T : Tx K mg CE CD CU CM CO CP tP tk) (c_names_back : Cal P w K mg base CX0 4 "names_back" (spNB K cl)) :
    FnOk P w K mg base CX0 5 f fd ["deeds", "names"] (spBT K cl) := by
  refine F.ok sc_back_through (fun vs H Q E h => ?_) (fun cdv A outer s H vs Q E hr h => ?_)
  · obtain ⟨t, u, as, ds, ns, us, rfl, _⟩ := h
    rfl
  · obtain ⟨t, u, as, ds, ns, us, rfl, ht, hds, hgd, hl, hu, hnd, hus, hsd, hsn, k⟩ := h
    refine ⟨_, (pss_one (ps_ret (pe_ix ix_list (pe_cal c_names_back (hr.mono (by decide)) (by rfl) pass0 (pa_cons (pv 0) (pa_cons (pv 1) pa_nil))) pe_int (fun _ _ => rfl)))), ?_⟩
    refine ⟨_, rfl, _, rfl, t, u, as, ds, ns, us, rfl, ht, hds, hgd, hl, hu, hnd, hus, hsd, hsn, fun q ts H' e nq hq lt hts => ?_⟩
    obtain ⟨t0, h0⟩ : ∃ t0, ts[0]? = some t0 := ⟨ts[0]'(by omega), List.getElem?_eq_getElem _⟩
    exact ⟨q, _, 0, .ref t0, rfl, rfl, SqL.of hq, atI_nat (j := 0) (by rw [List.getElem?_map, h0]; rfl), k t0 H' e (hts 0 t0 h0)⟩
end
end K33
end
section
set_option Elab.async false
set_option autoImplicit false
set_option linter.all false
set_option maxRecDepth 100000
set_option maxHeartbeats 4000000
set_option pp.maxSteps 1500
namespace K33
open PySem PySem.Spec PyProof.Rows L2 Ls
open C8 (pss_cut tCut)
open TL
/-! ### the names that are needed at the end of a part -/
def blF (p : Pr) (isLoop se : Bool) : List Str := if isLoop then bck p.bt (if se then bck (p.sd.getD []) (bck p.bh p.rs) else bck p.bh p.rs) else bck p.bh p.rs
def aeF (p : Pr) (z : Str) (fi fu se : Bool) : List Str :=
  if z = "behind" then p.rs
  else if z = "second" then (if fu then bck (p.sd.getD []) (blF p false se) else blF p false se)
  else if z = "between" then (if se then bck (p.sd.getD []) (blF p false se) else blF p false se)
  else if (if z = "loop" then fu else fi) then bck (p.lp.getD []) (blF p true se) else blF p true se
/-- what the walks ask of a program: us holds all names -/
structure NdOk (p : Pr) (us : List Str) : Prop where
  dg : ∀ d ∈ p.ds, Good d
  ln : p.ds.length ≤ 1000
  nd : p.rs.Nodup
  l50 : us.length ≤ 50
  du : ∀ d ∈ p.ds, ∀ z ∈ d.2, z ∈ us
  ru : ∀ z ∈ p.rs, z ∈ us
/-- deeds of a part -/
structure DsOk (us : List Str) (ds : List Dd) : Prop where
  dg : ∀ d ∈ ds, Good d
  ln : ds.length ≤ 1000
  du : ∀ d ∈ ds, ∀ z ∈ d.2, z ∈ us
structure NsOk (us ns : List Str) : Prop where
  nd : ns.Nodup
  su : ∀ z ∈ ns, z ∈ us
theorem NsOk.bck {us : List Str} {ds : List Dd} {ns : List Str} (h : NsOk us ns) (d : DsOk us ds) : NsOk us (bck ds ns) := ⟨bck_nodup h.nd, bck_sub d.du h.su⟩
theorem NdOk.part {p : Pr} {us : List Str} (h : NdOk p us) {o : Option (List Dd)} (ho : o ∈ p.pts) : DsOk us (o.getD []) := by
  have sub : ∀ d ∈ o.getD [], d ∈ p.ds := fun d hd => List.mem_flatten.mpr ⟨_, List.mem_map.mpr ⟨o, ho, rfl⟩, hd⟩
  refine ⟨fun d hd => h.dg d (sub d hd), ?_, fun d hd => h.du d (sub d hd)⟩
  have l := h.ln
  have := ds_len p
  simp only [Pr.pts, List.mem_cons, List.not_mem_nil, or_false] at ho
  rcases ho with rfl | rfl | rfl | rfl | rfl
  · show p.ah.length ≤ _; omega
  · omega
  · show p.bt.length ≤ _; omega
  · omega
  · show p.bh.length ≤ _; omega
theorem NdOk.ah {p : Pr} {us : List Str} (h : NdOk p us) : DsOk us p.ah := h.part (o := some p.ah) (by simp [Pr.pts])
theorem NdOk.lp {p : Pr} {us : List Str} (h : NdOk p us) : DsOk us (p.lp.getD []) := h.part (by simp [Pr.pts])
theorem NdOk.bt {p : Pr} {us : List Str} (h : NdOk p us) : DsOk us p.bt := h.part (o := some p.bt) (by simp [Pr.pts])
theorem NdOk.sd {p : Pr} {us : List Str} (h : NdOk p us) : DsOk us (p.sd.getD []) := h.part (by simp [Pr.pts])
theorem NdOk.bh {p : Pr} {us : List Str} (h : NdOk p us) : DsOk us p.bh := h.part (o := some p.bh) (by simp [Pr.pts])
theorem NdOk.rs {p : Pr} {us : List Str} (h : NdOk p us) : NsOk us p.rs := ⟨h.nd, h.ru⟩
theorem NdOk.bl {p : Pr} {us : List Str} (h : NdOk p us) (a b : Bool) : NsOk us (blF p a b) := by
  unfold blF
  cases a with
  | false => exact h.rs.bck h.bh
  | true =>
    rw [if_pos rfl]
    refine NsOk.bck ?_ h.bt
    cases b with
    | false => exact h.rs.bck h.bh
    | true => exact (h.rs.bck h.bh).bck h.sd
theorem NdOk.ae {p : Pr} {us : List Str} (h : NdOk p us) (z : Str) (fi fu se : Bool) : NsOk us (aeF p z fi fu se) := by
  unfold aeF
  by_cases h1 : z = "behind"
  · rw [if_pos h1]
    exact h.rs
  rw [if_neg h1]
  by_cases h2 : z = "second"
  · rw [if_pos h2]
    cases fu with
    | false => exact h.bl false se
    | true => exact (h.bl false se).bck h.sd
  rw [if_neg h2]
  by_cases h3 : z = "between"
  · rw [if_pos h3]
    cases se with
    | false => exact h.bl false false
    | true => exact (h.bl false true).bck h.sd
  rw [if_neg h3]
  generalize (if z = "loop" then fu else fi) = b
  cases b with
  | false => exact h.bl true se
  | true => exact (h.bl true se).bck h.lp
/-- the call's arguments, gathered -/
theorem bt_go {K : PySem.W.Frag} {cl : Dd → Addr} {H : Hp} {t u : Addr} {as : List Addr} {ds : List Dd} {ns us : List Str} {Q : VK} {E : XK} (ht : SqT K H t (as.map V.ref)) (hd : DsAt cl H as ds) (hu : H u = some (.tup (ns.map V.str))) (d : DsOk us ds) (n : NsOk us ns) (l : us.length ≤ 50)
    (k : ∀ (q : Addr) (H' : Hp), Ext H H' → H' q = some (.tup ((bck ds ns).map V.str)) → Q (.ref q) H') : spBT K cl [.ref t, .ref u] H Q E := ⟨t, u, as, ds, ns, us, rfl, ht, hd, d.dg, d.ln, hu, n.nd, l, d.du, n.su, k⟩
theorem PrAt.at_ {K : PySem.W.Frag} {cl : Dd → Addr} {CP : Addr} {H : Hp} {a : Addr} {p : Pr} (h : PrAt K cl CP H a p) : ∃ dx fs, H a = some (.ins CP dx fs) := let ⟨dx, t, vs, g, q, r, h1, _⟩ := h.ex; ⟨dx, _, h1⟩
section
variable {P : PySem.Program} {w : World} {K : PySem.W.Frag} {mg : Str → Option Value} {base : Heap} {CE CD CU CM CO CP tP : Addr} {tk : Str → Tok}
/-! ### behind_loop -/
def spBL (K : PySem.W.Frag) (cl : Dd → Addr) (CP : Addr) : Sp := fun vs H Q _ => ∃ (a : Addr) (p : Pr) (z : Str) (se : Bool) (us : List Str), vs = [.ref a, .str z, .bl se] ∧ PrAt K cl CP H a p ∧ NdOk p us ∧ ∀ q H', Ext H H' → H' q = some (.tup ((blF p (decide (z = "loop")) se).map V.str)) → Q (.ref q) H'
abbrev s_behind_loop : Stmt := top 60
abbrev N_behind_loop : List Str := ["program", "part", "has_second", "found"]
theorem sc_behind_loop : FnScope N_behind_loop ["program", "part", "has_second"] (defScope s_behind_loop) := ⟨rfl, rfl, rfl, by decide +kernel, rfl, by decide +kernel, by decide +kernel⟩
theorem ok_bl {cl : Dd → Addr} {f : Addr} {fd : FuncData} (F : Fun K "behind_loop" "behind_loop" s_behind_loop f fd) (T : Tx K mg CE CD CU CM CO CP tP tk) (c_back_through : Cal P w K mg base CX0 5 "back_through" (spBT K cl)) (c_pbehind : Prp P w K mg base CX0 1 (· = CP) "behind" (spPt K cl CP fun p => some p.bh)) (c_presults : Prp P w K mg base CX0 1 (· = CP) "results" (spGR K cl CP fun p => p.rs))
    (c_psecond : Prp P w K mg base CX0 1 (· = CP) "second" (spPt K cl CP fun p => p.sd)) (c_pbetween : Prp P w K mg base CX0 1 (· = CP) "between" (spPt K cl CP fun p => some p.bt)) : FnOk P w K mg base CX0 6 f fd ["program", "part", "has_second"] (spBL K cl CP) := by
  refine F.ok sc_behind_loop (fun vs H Q E h => ?_) (fun cdv A outer s H vs Q E hr h => ?_)
  · obtain ⟨a, p, z, se, us, rfl, _⟩ := h
    rfl
  · obtain ⟨a, p, z, se, us, rfl, hp, hn, k⟩ := h
    refine ⟨_, (pss_cons (ps_set (i := 3) sc_behind_loop.nd rfl (by first | exact Or.inl rfl | exact Or.inr rfl) (pe_cal c_back_through (hr.mono (by decide)) (by rfl) pass0 (pa_cons ((pe_prp c_pbehind (hr.mono (by decide)) pass0) (pv 0)) (pa_cons ((pe_prp c_presults (hr.mono (by decide)) pass0) (pv 0)) pa_nil))))
      (pss_cut (ps_if (pt_cmpR op_eq (pv 1) pe_str (nomark _)) (pss_cut (ps_if ((pw_and (pt_val (pv 2)) (pw_and1 (pt_cmpR op_notN ((pe_prp c_psecond (hr.mono (by decide)) pass0) (pv 0)) pe_non (nomark _))))).pt (pss_one (ps_set (i := 3) sc_behind_loop.nd rfl (by first | exact Or.inl rfl | exact Or.inr rfl) (pe_cal c_back_through (hr.mono (by decide)) (by rfl) pass0 (pa_cons ((pe_prp c_psecond (hr.mono (by decide)) pass0) (pv 0)) (pa_cons (pv 3) pa_nil))))) pss_nil)
      (pss_one (ps_set (i := 3) sc_behind_loop.nd rfl (by first | exact Or.inl rfl | exact Or.inr rfl) (pe_cal c_back_through (hr.mono (by decide)) (by rfl) pass0 (pa_cons ((pe_prp c_pbetween (hr.mono (by decide)) pass0) (pv 0)) (pa_cons (pv 3) pa_nil)))))) pss_nil)
      (pss_one (ps_ret (pv 3))))), ?_⟩
    obtain ⟨dx, fs, ha⟩ := hp.at_
    refine ⟨_, rfl, a, CP, dx, fs, rfl, ha, rfl, a, p, rfl, hp, fun v hv => ?_⟩
    obtain ⟨t, as, rfl, ht, hd⟩ := hv
    refine ⟨_, rfl, a, CP, dx, fs, rfl, ha, rfl, a, p, rfl, hp, fun g hg => ⟨t, g, as, p.bh, p.rs, us, rfl, ht, hd, hn.bh.dg, hn.bh.ln, hg, hn.rs.nd, hn.l50, hn.bh.du, hn.rs.su, fun q H1 e1 hq => ?_⟩⟩
    refine ⟨fun σ' H' => ∃ q, σ' = [some (.ref a), some (.str z), some (.bl se), some (.ref q)] ∧ Ext H H' ∧ H' q = some (.tup ((blF p (decide (z = "loop")) se).map V.str)), ?_, fun σ' H' ⟨q, e, e2, hq⟩ => by subst e; exact ⟨_, rfl, k q H' e2 hq⟩⟩
    refine ⟨_, rfl, rfl, _, rfl, ?_⟩
    by_cases hz : z = "loop"
    · refine iteYes (by rw [hz]; exact decide_eq_true rfl) ?_
      have eb : blF p (decide (z = "loop")) se = bck p.bt (if se then bck (p.sd.getD []) (bck p.bh p.rs) else bck p.bh p.rs) := by unfold blF; rw [decide_eq_true hz, if_pos rfl]
      rw [eb]
      refine ⟨fun σ' H' => ∃ q, σ' = [some (.ref a), some (.str z), some (.bl se), some (.ref q)] ∧ Ext H H' ∧ H' q = some (.tup ((if se then bck (p.sd.getD []) (bck p.bh p.rs) else bck p.bh p.rs).map V.str)), ?_, ?_⟩
      · refine ⟨_, rfl, se, rfl, ?_⟩
        cases se with
        | false =>
          refine iteNo rfl ?_
          exact ⟨q, rfl, e1, hq⟩
        | true =>
          refine iteYes rfl ?_
          have hp1 := hp.ext e1
          refine ⟨_, rfl, a, CP, dx, fs, rfl, e1 _ _ ha, rfl, a, p, rfl, hp1, fun v hv => ⟨rfl, _, rfl, ?_⟩⟩
          have nn : decide (v = V.non) = p.sd.isNone := hv.nn
          cases hs : p.sd with
          | none =>
            refine iteNo (by rw [nn, hs]; rfl) ?_
            exact ⟨q, rfl, e1, by simpa [bck] using hq⟩
          | some ds =>
            refine iteYes (by rw [nn, hs]; rfl) ?_
            refine ⟨_, rfl, a, CP, dx, fs, rfl, e1 _ _ ha, rfl, a, p, rfl, hp1, fun v hv => ?_⟩
            have hv2 : PtAt K cl H1 v (some ds) := by rw [← hs]; exact hv
            obtain ⟨t2, as2, rfl, ht2, hd2⟩ := hv2
            have hsd := hn.sd
            rw [hs] at hsd
            have hns := hn.rs.bck hn.bh
            exact ⟨_, rfl, t2, q, as2, ds, _, us, rfl, ht2, hd2, hsd.dg, hsd.ln, hq, hns.nd, hn.l50, hsd.du, hns.su, fun q3 H3 e3 hq3 => ⟨_, rfl, e1.trans e3, hq3⟩⟩
      · rintro σ' H2 ⟨q2, rfl, e2, hq2⟩
        have hp2 := hp.ext e2
        refine ⟨_, rfl, a, CP, dx, fs, rfl, e2 _ _ ha, rfl, a, p, rfl, hp2, fun v hv => ?_⟩
        obtain ⟨t, as, rfl, ht, hd⟩ := hv
        have hns : NsOk us (if se then bck (p.sd.getD []) (bck p.bh p.rs) else bck p.bh p.rs) := by cases se with | false => exact hn.rs.bck hn.bh | true => exact (hn.rs.bck hn.bh).bck hn.sd
        exact ⟨_, rfl, t, q2, as, p.bt, _, us, rfl, ht, hd, hn.bt.dg, hn.bt.ln, hq2, hns.nd, hn.l50, hn.bt.du, hns.su, fun q H3 e3 hq3 => ⟨_, rfl, e2.trans e3, hq3⟩⟩
    · refine iteNo (strNo hz) ?_
      have eb : blF p (decide (z = "loop")) se = bck p.bh p.rs := by unfold blF; rw [decide_eq_false hz]; rfl
      exact ⟨q, rfl, e1, by rw [eb]; exact hq⟩
/-! ### at_end -/
def spAE (K : PySem.W.Frag) (cl : Dd → Addr) (CP : Addr) : Sp := fun vs H Q _ => ∃ (a : Addr) (p : Pr) (z : Str) (fi fu se : Bool) (us : List Str), vs = [.ref a, .str z, .bl fi, .bl fu, .bl se] ∧ PrAt K cl CP H a p ∧ NdOk p us ∧ (z = "second" → p.sd ≠ none) ∧ ∀ q H', Ext H H' → H' q = some (.tup ((aeF p z fi fu se).map V.str)) → Q (.ref q) H'
abbrev s_at_end : Stmt := top 61
abbrev N_at_end : List Str := ["program", "part", "has_first", "has_further", "has_second", "found", "has_round"]
theorem sc_at_end : FnScope N_at_end ["program", "part", "has_first", "has_further", "has_second"] (defScope s_at_end) := ⟨rfl, rfl, rfl, by decide +kernel, rfl, by decide +kernel, by decide +kernel⟩
theorem ok_ae {cl : Dd → Addr} {f : Addr} {fd : FuncData} (F : Fun K "at_end" "at_end" s_at_end f fd) (T : Tx K mg CE CD CU CM CO CP tP tk) (c_back_through : Cal P w K mg base CX0 5 "back_through" (spBT K cl)) (c_behind_loop : Cal P w K mg base CX0 6 "behind_loop" (spBL K cl CP)) (c_presults : Prp P w K mg base CX0 1 (· = CP) "results" (spGR K cl CP fun p => p.rs))
    (c_psecond : Prp P w K mg base CX0 1 (· = CP) "second" (spPt K cl CP fun p => p.sd)) (c_ploop : Prp P w K mg base CX0 1 (· = CP) "loop" (spPt K cl CP fun p => p.lp)) : FnOk P w K mg base CX0 7 f fd ["program", "part", "has_first", "has_further", "has_second"] (spAE K cl CP) := by
  refine F.ok sc_at_end (fun vs H Q E h => ?_) (fun cdv A outer s H vs Q E hr h => ?_)
  · obtain ⟨a, p, z, fi, fu, se, us, rfl, _⟩ := h
    rfl
  · obtain ⟨a, p, z, fi, fu, se, us, rfl, hp, hn, hsz, k⟩ := h
    refine ⟨_, (pss_cons (ps_if (pt_cmpR op_eq (pv 1) pe_str (nomark _)) (pss_one (ps_ret ((pe_prp c_presults (hr.mono (by decide)) pass0) (pv 0)))) pss_nil)
      (pss_cons (ps_if (pt_cmpR op_eq (pv 1) pe_str (nomark _)) (pss_cons (ps_set (i := 5) sc_at_end.nd rfl (by first | exact Or.inl rfl | exact Or.inr rfl) (pe_cal c_behind_loop (hr.mono (by decide)) (by rfl) pass0 (pa_cons (pv 0) (pa_cons pe_str (pa_cons (pv 4) pa_nil)))))
      (pss_one (ps_ret (pe_ifExp (pt_val (pv 3)) (pe_cal c_back_through (hr.mono (by decide)) (by rfl) pass0 (pa_cons ((pe_prp c_psecond (hr.mono (by decide)) pass0) (pv 0)) (pa_cons (pv 5) pa_nil))) (pv 5))))) pss_nil)
      (pss_cons (ps_if (pt_cmpR op_eq (pv 1) pe_str (nomark _)) (pss_cons (ps_set (i := 5) sc_at_end.nd rfl (by first | exact Or.inl rfl | exact Or.inr rfl) (pe_cal c_behind_loop (hr.mono (by decide)) (by rfl) pass0 (pa_cons (pv 0) (pa_cons pe_str (pa_cons (pv 4) pa_nil)))))
      (pss_one (ps_ret (pe_ifExp ((pw_and (pt_val (pv 4)) (pw_and1 (pt_cmpR op_notN ((pe_prp c_psecond (hr.mono (by decide)) pass0) (pv 0)) pe_non (nomark _))))).pt (pe_cal c_back_through (hr.mono (by decide)) (by rfl) pass0 (pa_cons ((pe_prp c_psecond (hr.mono (by decide)) pass0) (pv 0)) (pa_cons (pv 5) pa_nil))) (pv 5))))) pss_nil)
      (pss_cons (ps_set (i := 5) sc_at_end.nd rfl (by first | exact Or.inl rfl | exact Or.inr rfl) (pe_cal c_behind_loop (hr.mono (by decide)) (by rfl) pass0 (pa_cons (pv 0) (pa_cons pe_str (pa_cons (pv 4) pa_nil)))))
      (pss_cons (ps_if (pt_cmpR op_isN ((pe_prp c_ploop (hr.mono (by decide)) pass0) (pv 0)) pe_non (nomark _)) (pss_one (ps_ret (pv 5))) pss_nil)
      (pss_cut (ps_set (i := 6) sc_at_end.nd rfl (by first | exact Or.inl rfl | exact Or.inr rfl) (pe_ifExp (pt_cmpR op_eq (pv 1) pe_str (nomark _)) (pv 3) (pv 2)))
      (pss_one (ps_ret (pe_ifExp (pt_val (pv 6)) (pe_cal c_back_through (hr.mono (by decide)) (by rfl) pass0 (pa_cons ((pe_prp c_ploop (hr.mono (by decide)) pass0) (pv 0)) (pa_cons (pv 5) pa_nil))) (pv 5)))))))))), ?_⟩
    obtain ⟨dx, fs, ha⟩ := hp.at_
    unfold aeF at k
    have l1 : ¬ (("second" : Str) = "loop") := by decide +kernel
    have l2 : ¬ (("between" : Str) = "loop") := by decide +kernel
    refine ⟨_, rfl, rfl, _, rfl, ?_⟩
    by_cases h1 : z = "behind"
    · rw [if_pos h1] at k
      refine iteYes (by rw [h1]; exact decide_eq_true rfl) ?_
      exact ⟨_, rfl, a, CP, dx, fs, rfl, ha, rfl, a, p, rfl, hp, fun g hg => k g H Ext.rfl' hg⟩
    rw [if_neg h1] at k
    refine iteNo (strNo h1) ?_
    refine ⟨_, rfl, rfl, _, rfl, ?_⟩
    by_cases h2 : z = "second"
    · rw [if_pos h2] at k
      refine iteYes (by rw [h2]; exact decide_eq_true rfl) ?_
      refine ⟨_, rfl, _, rfl, a, p, "second", se, us, rfl, hp, hn, fun q H1 e1 hq => ?_⟩
      rw [decide_eq_false l1] at hq
      refine ⟨_, rfl, fu, rfl, ?_⟩
      cases fu with
      | false =>
        exact iteNo rfl ⟨_, rfl, k q H1 e1 hq⟩
      | true =>
        refine iteYes rfl ?_
        refine ⟨_, rfl, a, CP, dx, fs, rfl, e1 _ _ ha, rfl, a, p, rfl, hp.ext e1, fun v hv => ?_⟩
        have hsd := hn.sd
        obtain ⟨ds, hs⟩ : ∃ ds, p.sd = some ds := Option.ne_none_iff_exists'.mp (hsz h2)
        have hv2 : PtAt K cl H1 v (some ds) := by rw [← hs]; exact hv
        obtain ⟨t2, as2, rfl, ht2, hd2⟩ := hv2
        rw [hs] at hsd k
        have hns := hn.bl false se
        exact ⟨_, rfl, t2, q, as2, ds, _, us, rfl, ht2, hd2, hsd.dg, hsd.ln, hq, hns.nd, hn.l50, hsd.du, hns.su, fun q3 H3 e3 hq3 => k q3 H3 (e1.trans e3) hq3⟩
    rw [if_neg h2] at k
    refine iteNo (strNo h2) ?_
    refine ⟨_, rfl, rfl, _, rfl, ?_⟩
    by_cases h3 : z = "between"
    · rw [if_pos h3] at k
      refine iteYes (by rw [h3]; exact decide_eq_true rfl) ?_
      refine ⟨_, rfl, _, rfl, a, p, "second", se, us, rfl, hp, hn, fun q H1 e1 hq => ?_⟩
      rw [decide_eq_false l1] at hq
      refine ⟨_, rfl, se, rfl, ?_⟩
      cases se with
      | false =>
        exact iteNo rfl ⟨_, rfl, k q H1 e1 hq⟩
      | true =>
        refine iteYes rfl ?_
        have hp1 := hp.ext e1
        refine ⟨_, rfl, a, CP, dx, fs, rfl, e1 _ _ ha, rfl, a, p, rfl, hp1, fun v hv => ⟨rfl, _, rfl, ?_⟩⟩
        have nn : decide (v = V.non) = p.sd.isNone := hv.nn
        cases hs : p.sd with
        | none =>
          refine iteNo (by rw [nn, hs]; rfl) ?_
          exact ⟨_, rfl, k q H1 e1 (by simpa [bck, hs] using hq)⟩
        | some ds =>
          refine iteYes (by rw [nn, hs]; rfl) ?_
          refine ⟨_, rfl, a, CP, dx, fs, rfl, e1 _ _ ha, rfl, a, p, rfl, hp1, fun v hv => ?_⟩
          have hv2 : PtAt K cl H1 v (some ds) := by rw [← hs]; exact hv
          obtain ⟨t2, as2, rfl, ht2, hd2⟩ := hv2
          have hsd := hn.sd
          rw [hs] at hsd k
          have hns := hn.bl false true
          exact ⟨_, rfl, t2, q, as2, ds, _, us, rfl, ht2, hd2, hsd.dg, hsd.ln, hq, hns.nd, hn.l50, hsd.du, hns.su, fun q3 H3 e3 hq3 => k q3 H3 (e1.trans e3) hq3⟩
    rw [if_neg h3] at k
    refine iteNo (strNo h3) ?_
    refine ⟨_, rfl, _, rfl, a, p, "loop", se, us, rfl, hp, hn, fun q H1 e1 hq => ?_⟩
    rw [decide_eq_true (rfl : ("loop" : Str) = "loop")] at hq
    have hp1 := hp.ext e1
    refine ⟨_, rfl, a, CP, dx, fs, rfl, e1 _ _ ha, rfl, a, p, rfl, hp1, fun v hv => ⟨rfl, _, rfl, ?_⟩⟩
    have nn : decide (v = V.non) = p.lp.isNone := hv.nn
    cases hs : p.lp with
    | none =>
      refine iteYes (by rw [nn, hs]; rfl) ?_
      refine ⟨_, rfl, k q H1 e1 ?_⟩
      rw [hs]
      generalize (if z = "loop" then fu else fi) = b
      cases b <;> exact hq
    | some ds =>
      refine iteNo (by rw [nn, hs]; rfl) ?_
      have hsd := hn.lp
      rw [hs] at hsd k
      have hns := hn.bl true se
      have fin : ∀ b : Bool, (if z = "loop" then fu else fi) = b → ∃ b', b' = b := fun b _ => ⟨_, rfl⟩
      refine ⟨fun σ' H' => σ' = [some (.ref a), some (.str z), some (.bl fi), some (.bl fu), some (.bl se), some (.ref q), some (.bl (if z = "loop" then fu else fi))] ∧ H' = H1, ?_, ?_⟩
      · refine ⟨_, rfl, rfl, _, rfl, ?_⟩
        by_cases h4 : z = "loop"
        · rw [if_pos h4]
          exact iteYes (by rw [h4]; exact decide_eq_true rfl) ⟨_, rfl, rfl, rfl⟩
        · rw [if_neg h4]
          exact iteNo (strNo h4) ⟨_, rfl, rfl, rfl⟩
      · rintro σ' H2 ⟨rfl, rfl⟩
        generalize (if z = "loop" then fu else fi) = b at k ⊢
        refine ⟨_, rfl, b, rfl, ?_⟩
        cases b with
        | false => exact iteNo rfl ⟨_, rfl, k q H2 e1 hq⟩
        | true =>
          refine iteYes rfl ?_
          refine ⟨_, rfl, a, CP, dx, fs, rfl, e1 _ _ ha, rfl, a, p, rfl, hp1, fun v hv => ?_⟩
          have hv2 : PtAt K cl H2 v (some ds) := by rw [← hs]; exact hv
          obtain ⟨t2, as2, rfl, ht2, hd2⟩ := hv2
          exact ⟨_, rfl, t2, q, as2, ds, _, us, rfl, ht2, hd2, hsd.dg, hsd.ln, hq, hns.nd, hn.l50, hsd.du, hns.su, fun q3 H3 e3 hq3 => k q3 H3 (e1.trans e3) hq3⟩
end
end K33
end
section
set_option Elab.async false
set_option autoImplicit false
set_option linter.all false
set_option maxRecDepth 100000
set_option maxHeartbeats 4000000
set_option pp.maxSteps 1500
namespace K33
open PySem PySem.Spec PyProof.Rows L2 Ls
open C8 (pss_cut tCut)
open TL
/-! ### needed -/
theorem DsAt.drop {cl : Dd → Addr} {H : Hp} {as : List Addr} {ds : List Dd} (h : DsAt cl H as ds) (m : Nat) : DsAt cl H (as.drop m) (ds.drop m) := by
  refine ⟨by rw [List.length_drop, List.length_drop, h.1], fun i a q => ?_⟩
  rw [List.getElem?_drop] at q
  obtain ⟨d, h1, h2⟩ := h.2 _ a q
  exact ⟨d, by rw [List.getElem?_drop]; exact h1, h2⟩
theorem DsOk.drop {us : List Str} {ds : List Dd} (h : DsOk us ds) (m : Nat) : DsOk us (ds.drop m) := ⟨fun d hd => h.dg d (List.mem_of_mem_drop hd), by rw [List.length_drop]; have := h.ln; omega, fun d hd => h.du d (List.mem_of_mem_drop hd)⟩
theorem DeedAt.keepD {cl : Dd → Addr} {H H' : Hp} {a q : Addr} {d : Dd} {kvs : List (Key × V)} (h : DeedAt cl H a d) (hq : H q = some (.dK kvs)) (kp : ∀ b o, H b = some o → b ≠ q → H' b = some o) : DeedAt cl H' a d := by
  obtain ⟨dy, fs, t1, t2, h1, h2, h3, h4, h5⟩ := h
  exact ⟨dy, fs, t1, t2, kp _ _ h1 (ne_of h1 hq (by intro z; cases z)), h2, h3, kp _ _ h4 (ne_of h4 hq (by intro z; cases z)), kp _ _ h5 (ne_of h5 hq (by intro z; cases z))⟩
theorem sqT_keepD {K : PySem.W.Frag} {H H' : Hp} {t q : Addr} {xs : List V} {kvs : List (Key × V)} (h : SqT K H t xs) (hq : H q = some (.dK kvs)) (kp : ∀ b o, H b = some o → b ≠ q → H' b = some o) : SqT K H' t xs := by
  rcases h with (h | ⟨o, h⟩) | h
  · exact .inl (.inl (kp _ _ h (ne_of h hq (by intro z; cases z))))
  · exact .inl (.inr ⟨o, kp _ _ h (ne_of h hq (by intro z; cases z))⟩)
  · exact .inr h
theorem PtAt.keepD {K : PySem.W.Frag} {cl : Dd → Addr} {H H' : Hp} {v : V} {o : Option (List Dd)} {q : Addr} {kvs : List (Key × V)} (h : PtAt K cl H v o) (hq : H q = some (.dK kvs)) (kp : ∀ b o, H b = some o → b ≠ q → H' b = some o) : PtAt K cl H' v o := by
  cases o with
  | none => exact h
  | some ds =>
    obtain ⟨t, as, h1, h2, h3⟩ := h
    exact ⟨t, as, h1, sqT_keepD h2 hq kp, h3.1, fun i a q => let ⟨d, g1, g2⟩ := h3.2 i a q; ⟨d, g1, g2.keepD hq kp⟩⟩
def partK (v0 v1 v2 v3 v4 : V) : List (Key × V) := [(Sum.inr "ahead", v0), (Sum.inr "loop", v1), (Sum.inr "between", v2), (Sum.inr "second", v3), (Sum.inr "behind", v4)]
theorem partK_get {v0 v1 v2 v3 v4 v : V} {i : Nat} {z : Str} (hz : partsS[i]? = some z) (hv : [v0, v1, v2, v3, v4][i]? = some v) : valV (partK v0 v1 v2 v3 v4) (Sum.inr z) = some v := by
  match i, hz, hv with
  | 0, hz, hv => cases hz; cases hv; kernel_rfl
  | 1, hz, hv => cases hz; cases hv; kernel_rfl
  | 2, hz, hv => cases hz; cases hv; kernel_rfl
  | 3, hz, hv => cases hz; cases hv; kernel_rfl
  | 4, hz, hv => cases hz; cases hv; kernel_rfl
  | i + 5, hz, hv => simp [partsS] at hz
section
variable {P : PySem.Program} {w : World} {K : PySem.W.Frag} {mg : Str → Option Value} {base : Heap} {CE CD CU CM CO CP tP : Addr} {tk : Str → Tok}
def spD2 (K : PySem.W.Frag) (cl : Dd → Addr) (CP : Addr) : Sp := fun vs H Q _ => ∃ (a : Addr) (p : Pr), vs = [.ref a] ∧ PrAt K cl CP H a p ∧ ∀ q v0 v1 v2 v3 v4 H', Ext H H' → H' q = some (.dK (partK v0 v1 v2 v3 v4)) → PtsAt K cl H' [v0, v1, v2, v3, v4] p → Q (.ref q) H'
abbrev s_deeds_of_2 : Stmt := top 62
abbrev N_deeds_of_2 : List Str := ["program"]
theorem sc_deeds_of_2 : FnScope N_deeds_of_2 ["program"] (defScope s_deeds_of_2) := ⟨rfl, rfl, rfl, by decide +kernel, rfl, by decide +kernel, by decide +kernel⟩
theorem ok_d2 {cl : Dd → Addr} {f : Addr} {fd : FuncData} (F : Fun K "deeds_of" "deeds_of" s_deeds_of_2 f fd) (T : Tx K mg CE CD CU CM CO CP tP tk) (c_pahead : Prp P w K mg base CX0 1 (· = CP) "ahead" (spPt K cl CP fun p => some p.ah)) (c_ploop : Prp P w K mg base CX0 1 (· = CP) "loop" (spPt K cl CP fun p => p.lp))
    (c_pbetween : Prp P w K mg base CX0 1 (· = CP) "between" (spPt K cl CP fun p => some p.bt)) (c_psecond : Prp P w K mg base CX0 1 (· = CP) "second" (spPt K cl CP fun p => p.sd)) (c_pbehind : Prp P w K mg base CX0 1 (· = CP) "behind" (spPt K cl CP fun p => some p.bh)) : FnOk P w K mg base CX0 3 f fd ["program"] (spD2 K cl CP) := by
  refine F.ok sc_deeds_of_2 (fun vs H Q E h => ?_) (fun cdv A outer s H vs Q E hr h => ?_)
  · obtain ⟨a, p, rfl, _⟩ := h
    rfl
  · obtain ⟨a, p, rfl, hp, k⟩ := h
    refine ⟨_, (pss_one (ps_ret (pe_disp (pps_cons pe_str ((pe_prp c_pahead (hr.mono (by decide)) pass0) (pv 0)) (pps_cons pe_str ((pe_prp c_ploop (hr.mono (by decide)) pass0) (pv 0)) (pps_cons pe_str ((pe_prp c_pbetween (hr.mono (by decide)) pass0) (pv 0)) (pps_cons pe_str ((pe_prp c_psecond (hr.mono (by decide)) pass0) (pv 0)) (pps_cons pe_str ((pe_prp c_pbehind (hr.mono (by decide)) pass0) (pv 0)) pps_nil))))) (by rfl) (by rfl) (fun z => by cases z) (by decide)))), ?_⟩
    obtain ⟨dx, fs, ha⟩ := hp.at_
    intro q nq
    have e1 : Ext H (upd H q (.dK [])) := Ext.upd nq
    have hp1 := hp.ext e1
    have ha1 := e1 _ _ ha
    refine ⟨_, rfl, a, CP, dx, fs, rfl, ha1, rfl, a, p, rfl, hp1, fun v0 h0 => ?_⟩
    refine ⟨_, rfl, a, CP, dx, fs, rfl, ha1, rfl, a, p, rfl, hp1, fun v1 h1 => ?_⟩
    refine ⟨_, rfl, a, CP, dx, fs, rfl, ha1, rfl, a, p, rfl, hp1, fun v2 h2 => ?_⟩
    refine ⟨_, rfl, a, CP, dx, fs, rfl, ha1, rfl, a, p, rfl, hp1, fun v3 h3 => ?_⟩
    refine ⟨_, rfl, a, CP, dx, fs, rfl, ha1, rfl, a, p, rfl, hp1, fun v4 h4 => ?_⟩
    refine ⟨upd_same, partK v0 v1 v2 v3 v4, rfl, by show 5 ≤ 15; decide, ?_⟩
    rw [upd_upd, show mergeK [] (partK v0 v1 v2 v3 v4) = partK v0 v1 v2 v3 v4 from by kernel_rfl]
    have e2 : Ext H (upd H q (.dK (partK v0 v1 v2 v3 v4))) := Ext.upd nq
    refine k q v0 v1 v2 v3 v4 _ e2 upd_same ?_
    have hq0 : (upd H q (.dK [])) q = some (.dK []) := upd_same
    have kp : ∀ b o, (upd H q (.dK [])) b = some o → b ≠ q → (upd H q (.dK (partK v0 v1 v2 v3 v4))) b = some o := fun b o h n => by
      rw [upd_ne n] at h ⊢
      exact h
    exact ⟨v0, v1, v2, v3, v4, rfl, PtAt.keepD h0 hq0 kp, PtAt.keepD h1 hq0 kp, PtAt.keepD h2 hq0 kp, PtAt.keepD h3 hq0 kp, PtAt.keepD h4 hq0 kp⟩
def spNe (K : PySem.W.Frag) (cl : Dd → Addr) (CP : Addr) : Sp := fun vs H Q _ => ∃ (a b : Addr) (p : Pr) (i m : Nat) (z : Str) (ds : List Dd) (fi fu se : Bool) (us : List Str), vs = [.ref a, .ref b, .bl fi, .bl fu, .bl se] ∧ PrAt K cl CP H a p ∧ NdOk p us ∧ H b = some (.tup [.str z, .int m]) ∧ partsS[i]? = some z ∧ p.pts[i]? = some (some ds) ∧ m ≤ ds.length ∧
  ∀ q H', Ext H H' → H' q = some (.tup ((bck (ds.drop m) (aeF p z fi fu se)).map V.str)) → Q (.ref q) H'
abbrev s_needed : Stmt := top 64
abbrev N_needed : List Str := ["program", "place", "first", "further", "second", "part", "index", "deeds"]
theorem sc_needed : FnScope N_needed ["program", "place", "first", "further", "second"] (defScope s_needed) := ⟨rfl, rfl, rfl, by decide +kernel, rfl, by decide +kernel, by decide +kernel⟩
theorem ok_needed {cl : Dd → Addr} {f : Addr} {fd : FuncData} {kws : List (Str × V)} (F : FunD K "needed" "needed" (defArgs s_needed) (defBody s_needed) (defScope s_needed) [] kws f fd) (T : Tx K mg CE CD CU CM CO CP tP tk) (c_is_place : Cal P w K mg base CX0 3 "is_place" (spIP K cl CP)) (c_deeds_of_needed : Cal P w K mg base CX0 3 "deeds_of_needed" (spD2 K cl CP)) (c_back_through : Cal P w K mg base CX0 5 "back_through" (spBT K cl)) (c_at_end : Cal P w K mg base CX0 7 "at_end" (spAE K cl CP)) :
    FnOk P w K mg base CX0 8 f fd ["program", "place", "first", "further", "second"] (spNe K cl CP) := by
  refine F.ok sc_needed (fun vs H Q E h => ?_) (fun cdv A outer s H vs Q E hr h => ?_)
  · obtain ⟨a, b, p, i, m, z, ds, fi, fu, se, us, rfl, _⟩ := h
    rfl
  · obtain ⟨a, b, p, i, m, z, ds, fi, fu, se, us, rfl, hp, hn, hb, hz, ho, hm, k⟩ := h
    have hu := hu_of hr
    refine ⟨_, (pss_cons (ps_if (pt_not (pt_val (pe_cal c_is_place (hr.mono (by decide)) (by rfl) pass0 (pa_cons (pv 0) (pa_cons (pv 1) pa_nil))))) (pss_one ps_never) pss_nil)
      (pss_cons (ps_asg (pv 1) (pg_tup rfl (pgs_cons (pg_name (i := 5) sc_needed.nd rfl (by first | exact Or.inl rfl | exact Or.inr rfl)) (pgs_cons (pg_name (i := 6) sc_needed.nd rfl (by first | exact Or.inl rfl | exact Or.inr rfl)) pgs_nil))))
      (pss_cons (ps_set (i := 7) sc_needed.nd rfl (by first | exact Or.inl rfl | exact Or.inr rfl) (pe_cal c_deeds_of_needed (hr.mono (by decide)) (by rfl) pass0 (pa_cons (pv 0) pa_nil)))
      (pss_one (ps_ret (pe_cal c_back_through (hr.mono (by decide)) (by rfl) pass0 (pa_cons (pe_slice sl_tupA (pe_dget hu (pv 7) (pv 5) (fun _ _ => rfl)) (po_some (pv 6)) po_none) (pa_cons (pe_cal c_at_end (hr.mono (by decide)) (by rfl) pass0 (pa_cons (pv 0) (pa_cons (pv 5) (pa_cons (pv 2) (pa_cons (pv 3) (pa_cons (pv 4) pa_nil)))))) pa_nil)))))))), ?_⟩
    have eok : okAt (some ds) (m : Nat) = true := by
      unfold okAt lenO
      rw [decide_eq_true (show (0 : Int) ≤ (m : Nat) by omega), decide_eq_true (show ((m : Nat) : Int) ≤ (ds.length : Nat) by omega)]
      rfl
    refine ⟨_, rfl, _, rfl, a, b, p, i, z, m, some ds, rfl, hp, hb, hz, ho, ?_⟩
    rw [eok]
    refine ⟨_, rfl, iteF ?_⟩
    refine ⟨_, rfl, b, _, rfl, SqT.of hb, rfl, _, _, rfl, _, _, rfl, rfl, ?_⟩
    refine ⟨_, rfl, a, p, rfl, hp, fun q v0 v1 v2 v3 v4 H1 e1 hq hv => ?_⟩
    obtain ⟨v, hvi⟩ : ∃ v, [v0, v1, v2, v3, v4][i]? = some v := by
      have := (List.getElem?_eq_some_iff.mp hz).1
      exact ⟨_, List.getElem?_eq_getElem (show i < [v0, v1, v2, v3, v4].length from this)⟩
    obtain ⟨o, ho', hpt⟩ := hv.at_ hvi
    rw [ho] at ho'
    cases ho'
    obtain ⟨t, as, rfl, ht, hd⟩ := hpt
    have gt : DGet H1 q (.str z) (some (.ref t)) := by
      have := DGet.k (k := Sum.inr z) hq
      rwa [partK_get hz hvi] at this
    have hp1 := hp.ext e1
    have la : (as.map V.ref).length = ds.length := by rw [List.length_map, hd.1]
    have hdo : DsOk us ds := hn.part (o := some ds) (List.mem_of_getElem? ho)
    have hsz : z = "second" → p.sd ≠ none := fun e hn' => by
      subst e
      match i, hz, ho with
      | 0, hz, _ => exact absurd (Option.some.inj hz) (by decide +kernel)
      | 1, hz, _ => exact absurd (Option.some.inj hz) (by decide +kernel)
      | 2, hz, _ => exact absurd (Option.some.inj hz) (by decide +kernel)
      | 3, _, ho => rw [show p.pts[3]? = some p.sd from rfl, hn'] at ho; cases ho
      | 4, hz, _ => exact absurd (Option.some.inj hz) (by decide +kernel)
      | i + 5, hz, _ => simp [partsS] at hz
    have hae := hn.ae z fi fu se
    refine ⟨_, rfl, _, rfl, q, _, rfl, gt, _, rfl, (m : Nat), rfl, t, _, rfl, ht, fun hw => ?_, fun _ c nc => ?_⟩
    · have hm0 : m = 0 := by
        have := hw.1
        rw [sIx_pos (show (0 : Int) ≤ (m : Nat) by omega), la] at this
        have h2 : ((m : Nat) : Int).toNat = m := Int.toNat_natCast m
        omega
      subst hm0
      refine ⟨_, rfl, _, rfl, _, rfl, _, rfl, _, rfl, a, p, z, fi, fu, se, us, rfl, hp1, hn, hsz, fun u H2 e2 hu2 => ?_⟩
      exact ⟨t, u, as, ds, _, us, rfl, ht.ext e2, hd.ext e2, hdo.dg, hdo.ln, hu2, hae.nd, hn.l50, hdo.du, hae.su, fun q3 H3 e3 hq3 => k q3 H3 ((e1.trans e2).trans e3) hq3⟩
    · rw [cutV_from _ (show (0 : Int) ≤ (m : Nat) by omega), Int.toNat_natCast, ← List.map_drop]
      have e2 : Ext H1 (upd H1 c (.tup ((as.drop m).map V.ref))) := Ext.upd nc
      have f2 : (upd H1 c (.tup ((as.drop m).map V.ref))) c = some (.tup ((as.drop m).map V.ref)) := upd_same
      generalize (upd H1 c (.tup ((as.drop m).map V.ref))) = H2 at e2 f2
      have hdo' := hdo.drop m
      refine ⟨_, rfl, _, rfl, _, rfl, _, rfl, _, rfl, a, p, z, fi, fu, se, us, rfl, hp1.ext e2, hn, hsz, fun u H3 e3 hu3 => ?_⟩
      exact ⟨c, u, as.drop m, ds.drop m, _, us, rfl, (SqT.of f2).ext e3, ((hd.drop m).ext e2).ext e3, hdo'.dg, hdo'.ln, hu3, hae.nd, hn.l50, hdo'.du, hae.su, fun q4 H4 e4 hq4 => k q4 H4 (((e1.trans e2).trans e3).trans e4) hq4⟩
end
end K33
end
section
set_option Elab.async false
set_option autoImplicit false
set_option linter.all false
set_option maxRecDepth 100000
set_option maxHeartbeats 4000000
set_option pp.maxSteps 1500
namespace K33
open PySem PySem.Spec PyProof.Rows L2 Ls
open C8 (pss_cut tCut)
open TL
theorem seqIx {j : Int} {n : Nat} (h0 : 0 ≤ j) (h1 : j < n) : seqIndex? j n = some j.toNat := by
  have h2 : ¬ j < 0 := by omega
  simp [seqIndex?, h2, h0, h1]
theorem erase_map : ∀ (l : List Str) (k : Nat), (l.map V.str).eraseIdx k = (l.eraseIdx k).map V.str
  | [], _ => rfl
  | _ :: _, 0 => rfl
  | a :: l, k + 1 => congrArg (V.str a :: ·) (erase_map l k)
theorem erase_perm : ∀ {l : List Str} {k : Nat} {z : Str}, l[k]? = some z → (z :: l.eraseIdx k).Perm l
  | [], _, _, h => by simp at h
  | a :: l, 0, z, h => by
    have : a = z := by simpa using h
    subst this
    exact List.Perm.refl _
  | a :: l, k + 1, z, h => (List.Perm.swap a z _).trans (List.Perm.cons a (erase_perm (l := l) (k := k) (by simpa using h)))
def poolsS : List (List Str) := [["a", "b", "c", "d", "e", "f"], ["x", "xy", "xyz", "xyzz", "xyzzz", "xyzzzz"], ["use", "make", "do", "loop", "end", "given"], ["zzzzzz", "aaaaaa", "azazaz", "z", "again", "store"]]
theorem pools_ok : poolsS.all (fun ws => ws.all isName && decide ws.Nodup && decide (ws.length = 6)) = true := by decide +kernel
theorem pool_of {ws : List Str} (h : ws ∈ poolsS) : (∀ z ∈ ws, isName z = true) ∧ ws.Nodup ∧ ws.length = 6 := by
  have q := List.all_eq_true.mp pools_ok ws h
  simp only [Bool.and_eq_true, decide_eq_true_eq, List.all_eq_true] at q
  exact ⟨q.1.1, q.1.2, q.2⟩
theorem keep_free {p c a : Addr} {H H8 : Hp} {n : Nat} (k : Keep p c H H8) (hp : PenAt H8 p c n) (q : H8 a = none) : H a = none := by
  obtain ⟨n1, n2⟩ := hp.ne q
  cases h : H a with
  | none => rfl
  | some o =>
    rw [k a o h n1.symm n2.symm] at q
    cases q
section
variable {P : PySem.Program} {w : World} {K : PySem.W.Frag} {mg : Str → Option Value} {base : Heap} {CE CD CU CM CO CP tP : Addr} {tk : Str → Tok}
/-! ### _law_some -/
def spSome : Sp := fun vs H Q _ => ∃ (p c : Addr) (n : Nat) (q : Addr) (ps : List Str) (least most : Nat), vs = [.ref p, .ref q, .int least, .int most] ∧ PenAt H p c n ∧ n < 1000000 ∧ H q = some (.lst (ps.map V.str)) ∧ q ≠ p ∧ q ≠ c ∧ ps.Nodup ∧ ps.length ≤ 10 ∧ least ≤ most ∧ least ≤ ps.length ∧
  ∀ (l : Addr) (us : List Str) (H' : Hp), H l = none → l ≠ p → l ≠ c → H' l = some (.lst (us.map V.str)) → us.Nodup → (∀ z ∈ us, z ∈ ps) → least ≤ us.length → us.length ≤ most → PenAt H' p c (n + 20) → Keep p c H H' → Q (.ref l) H'
abbrev s__law_some : Stmt := top 69
abbrev N__law_some : List Str := ["_law_pen_here", "_law_pool", "_law_least", "_law_most", "_law_left", "_law_many", "_law_lap"]
theorem sc__law_some : FnScope N__law_some ["_law_pen_here", "_law_pool", "_law_least", "_law_most"] (defScope s__law_some) := ⟨rfl, rfl, rfl, by decide +kernel, rfl, by decide +kernel, by decide +kernel⟩
theorem ok_some {f : Addr} {fd : FuncData} (F : Fun K "_law_some" "_law_some" s__law_some f fd) (T : Tx K mg CE CD CU CM CO CP tP tk) (c__law_draw : Cal P w K mg base CX0 1 "_law_draw" spDraw) : FnOk P w K mg base CX0 2 f fd ["_law_pen_here", "_law_pool", "_law_least", "_law_most"] spSome := by
  refine F.ok sc__law_some (fun vs H Q E h => ?_) (fun cdv A outer s H vs Q E hr h => ?_)
  · obtain ⟨p, c, n, q, ps, least, most, rfl, _⟩ := h
    rfl
  · obtain ⟨p, c, n, q, ps, least, most, rfl, hp, hn, hq, nqp, nqc, hnd, hle, hlm, hlp, k⟩ := h
    have h4 : sizeLine = 16777216 := sizeLine_eq
    have lp : (ps.map V.str).length = ps.length := List.length_map _
    refine ⟨_, (pss_cons (ps_set (i := 4) sc__law_some.nd rfl (by first | exact Or.inl rfl | exact Or.inr rfl) (pe_callTy call_list_of (by rfl) (T.bn _ (by decide +kernel)) (by decide +kernel) (pa_cons (pv 1) pa_nil)))
      (pss_cons (ps_set (i := 5) sc__law_some.nd rfl (by first | exact Or.inl rfl | exact Or.inr rfl) (pe_op op_add (pv 2) (pe_cal c__law_draw (hr.mono (by decide)) (by rfl) pass0 (pa_cons (pv 0) (pa_cons (pe_op op_add (pe_op op_sub (pe_callB (call_min2 rfl) (by rfl) (T.bn _ (by decide +kernel)) (by decide +kernel) (pa_cons (pv 3) (pa_cons (pe_callB call_len_seq (by rfl) (T.bn _ (by decide +kernel)) (by decide +kernel) (pa_cons (pv 1) pa_nil)) pa_nil))) (pv 2)) pe_int) pa_nil)))))
      (pss_one (ps_ret (pe_lc (own := [("_law_lap", 6)]) rfl sc__law_some.nd (pi_range1 rfl (T.bn _ (by decide +kernel)) (pa_cons (pv 5) pa_nil)) (blkOk_by (own := [("_law_lap", 6)]) (N := N__law_some) (sc := defScope s__law_some) (by decide +kernel)) (fun _ _ _ _ _ => (pg_name (i := 6) sc__law_some.nd rfl (by first | exact Or.inl rfl | exact Or.inr rfl))) (fun _ _ _ _ _ => pts_nil) (fun _ _ _ _ _ => (pe_popK (K := K) rfl (pv 4) (pa_cons (pe_cal c__law_draw (hr.mono (by decide)) (by rfl) pass0 (pa_cons (pv 0) (pa_cons (pe_callB (call_lenK (K := K) rfl) (by rfl) (T.bn _ (by decide +kernel)) (by decide +kernel) (pa_cons (pv 4) pa_nil)) pa_nil))) pa_nil)))))))), ?_⟩
    refine ⟨_, rfl, q, _, rfl, .inl (SqL.of hq), fun L nL => ?_⟩
    obtain ⟨npL, ncL⟩ := hp.ne nL
    have e1 : Ext H (upd H L (.lst (ps.map V.str))) := Ext.upd nL
    have f1 : (upd H L (.lst (ps.map V.str))) L = some (.lst (ps.map V.str)) := upd_same
    generalize (upd H L (.lst (ps.map V.str))) = H1 at e1 f1
    have hq1 := e1 _ _ hq
    refine ⟨_, rfl, _, rfl, _, rfl, _, rfl, q, _, rfl, .inl (SqL.of hq1), most, ps.length, by rw [lp], ?_⟩
    have hmm : ∀ x : Int, x = (if (ps.length : Int) < most then (ps.length : Int) else most) → x ≤ most ∧ x ≤ ps.length ∧ (least : Int) ≤ x := fun x hx => by
      rw [hx]
      split <;> omega
    obtain ⟨m1, m2, m3⟩ := hmm _ rfl
    generalize (if (ps.length : Int) < most then (ps.length : Int) else most) = mm at m1 m2 m3
    refine ⟨_, rfl, _, _, rfl, rfl, _, _, rfl, rfl, p, c, n, mm - least + 1, rfl, hp.ext e1, by omega, by omega, by omega, fun j H2 j0 j1 hp2 kp2 => ?_⟩
    have f2 := kp2 L _ f1 npL.symm ncL.symm
    have k02 : Keep p c H H2 := (Keep.ext e1).trans kp2
    refine ⟨_, _, rfl, rfl, ?_⟩
    refine ⟨_, rfl, (least : Int) + j, rfl, by omega, by omega, fun D hD => ?_⟩
    obtain ⟨npD, ncD⟩ := hp2.ne hD
    have nLD : L ≠ D := ne_of_none f2 hD
    have hDH : H D = none := by
      cases q : H D with
      | none => rfl
      | some o =>
        rw [k02 D o q npD.symm ncD.symm] at hD
        cases hD
    refine lc_it walk_range (fun i H' => ∃ left acc : List Str, H' L = some (.lst (left.map V.str)) ∧ H' D = some (.lst (acc.map V.str)) ∧ (acc ++ left).Perm ps ∧ acc.length = i ∧ PenAt H' p c (n + 1 + i) ∧ Keep p c H H') ?_ (fun _ _ _ _ => trivial) ?_ ?_
    · refine ⟨ps, [], by rw [upd_ne nLD]; exact f2, upd_same, List.Perm.refl _, rfl, hp2.upd npD ncD, fun b o q h1 h2 => ?_⟩
      rw [upd_ne (ne_of_none (k02 b o q h1 h2) hD)]
      exact k02 b o q h1 h2
    · rintro i x H3 _ hi ⟨left, acc, g1, g2, pm, hl, hp3, k03⟩ ⟨rfl, rfl⟩
      have hpl := pm.length_eq
      rw [List.length_append] at hpl
      have ll : (left.map V.str).length = left.length := List.length_map _
      have hi' : i < ((least : Int) + j).toNat := hi
      refine ⟨rfl, _, rfl, .inl ⟨rfl, _, SqL.of g1⟩, _, rfl, _, rfl, L, _, rfl, .inl (SqL.of g1), p, c, _, left.length, by rw [ll], hp3, by omega, by omega, by omega, fun u H4 u0 u1 hp4 kp4 => ?_⟩
      have g14 := kp4 L _ g1 npL.symm ncL.symm
      have g24 := kp4 D _ g2 npD.symm ncD.symm
      have hk : u.toNat < left.length := by omega
      obtain ⟨z, hz⟩ : ∃ z, left[u.toNat]? = some z := ⟨_, List.getElem?_eq_getElem hk⟩
      refine ⟨L, _, u, u.toNat, .str z, rfl, rfl, g14, by omega, by omega, seqIx u0 (by rw [ll]; exact u1), by rw [List.getElem?_map, hz]; rfl, ?_⟩
      refine ⟨acc.map V.str, by rw [upd_ne nLD.symm]; exact g24, by rw [List.length_map]; omega, left.eraseIdx u.toNat, acc ++ [z], ?_, ?_, ?_, by simp [hl], ?_, ?_⟩
      · rw [upd_ne nLD, upd_same, erase_map]
      · rw [upd_same, List.map_append]
        rfl
      · refine List.Perm.trans ?_ pm
        rw [List.append_assoc]
        refine List.Perm.append_left _ ?_
        exact erase_perm hz
      · exact ((hp4.upd npL ncL).upd npD ncD).mono (by omega)
      · intro b o q h1 h2
        have q3 := k03 b o q h1 h2
        rw [upd_ne (ne_of_none q hDH), upd_ne (ne_of_none q nL)]
        exact kp4 b o q3 h1 h2
    · rintro H3 ⟨left, acc, g1, g2, pm, hl, hp3, k03⟩
      have hpl := pm.length_eq
      rw [List.length_append] at hpl
      have nda : (acc ++ left).Nodup := pm.nodup_iff.mpr hnd
      exact k D acc H3 hDH npD.symm ncD.symm g2 (List.nodup_append.mp nda).1 (fun z hz => pm.mem_iff.mp (List.mem_append_left _ hz)) (by omega) (by omega) (hp3.mono (by omega)) k03
/-! ### _law_names -/
def spLNames : Sp := fun vs H Q _ => ∃ (p c : Addr) (n m : Nat), vs = [.ref p, .int m] ∧ 1 ≤ m ∧ m ≤ 6 ∧ PenAt H p c n ∧ n < 900000 ∧
  ∀ (l : Addr) (ws : List Str) (H' : Hp), H l = none → l ≠ p → l ≠ c → H' l = some (.lst (ws.map V.str)) → ws.Nodup → (∀ z ∈ ws, isName z = true) → ws.length = m → PenAt H' p c (n + 30) → Keep p c H H' → Q (.ref l) H'
abbrev s__law_names : Stmt := top 70
abbrev N__law_names : List Str := ["_law_pen_here", "_law_many", "_law_pools"]
theorem sc__law_names : FnScope N__law_names ["_law_pen_here", "_law_many"] (defScope s__law_names) := ⟨rfl, rfl, rfl, by decide +kernel, rfl, by decide +kernel, by decide +kernel⟩
theorem ok_lnames {f : Addr} {fd : FuncData} (F : Fun K "_law_names" "_law_names" s__law_names f fd) (T : Tx K mg CE CD CU CM CO CP tP tk) (c__law_pick : Cal P w K mg base CX0 2 "_law_pick" (spPick K)) (c__law_some : Cal P w K mg base CX0 2 "_law_some" spSome) : FnOk P w K mg base CX0 3 f fd ["_law_pen_here", "_law_many"] spLNames := by
  refine F.ok sc__law_names (fun vs H Q E h => ?_) (fun cdv A outer s H vs Q E hr h => ?_)
  · obtain ⟨p, c, n, m, rfl, _⟩ := h
    rfl
  · obtain ⟨p, c, n, m, rfl, hm1, hm6, hp, hn, k⟩ := h
    refine ⟨_, (pss_cons (ps_set (i := 2) sc__law_names.nd rfl (by first | exact Or.inl rfl | exact Or.inr rfl) (pe_lst (pa_cons (pe_lst (pa_cons pe_str (pa_cons pe_str (pa_cons pe_str (pa_cons pe_str (pa_cons pe_str (pa_cons pe_str pa_nil))))))) (pa_cons (pe_lst (pa_cons pe_str (pa_cons pe_str (pa_cons pe_str (pa_cons pe_str (pa_cons pe_str (pa_cons pe_str pa_nil))))))) pa_nil))))
      (pss_cons (ps_expr (pe_bm PySem.F.plainAttrs_list PySem.F.slot_list_append PySem.F.type_list_append mt_append (pv 2) (pa_cons (pe_lst (pa_cons pe_str (pa_cons pe_str (pa_cons pe_str (pa_cons pe_str (pa_cons pe_str (pa_cons pe_str pa_nil))))))) pa_nil)))
      (pss_cons (ps_expr (pe_bm PySem.F.plainAttrs_list PySem.F.slot_list_append PySem.F.type_list_append mt_append (pv 2) (pa_cons (pe_lst (pa_cons pe_str (pa_cons pe_str (pa_cons pe_str (pa_cons pe_str (pa_cons pe_str (pa_cons pe_str pa_nil))))))) pa_nil)))
      (pss_one (ps_ret (pe_cal c__law_some (hr.mono (by decide)) (by rfl) pass0 (pa_cons (pv 0) (pa_cons (pe_cal c__law_pick (hr.mono (by decide)) (by rfl) pass0 (pa_cons (pv 0) (pa_cons (pv 2) pa_nil))) (pa_cons (pv 1) (pa_cons (pv 1) pa_nil)))))))))), ?_⟩
    refine ⟨(by show 6 ≤ sizeLine; decide), fun a0 n0 => ⟨(by show 6 ≤ sizeLine; decide), fun a1 n1 => ⟨(by show 2 ≤ sizeLine; decide), fun L nL => ?_⟩⟩⟩
    have e0 : Ext H (upd H a0 (.lst [.str "a", .str "b", .str "c", .str "d", .str "e", .str "f"])) := Ext.upd n0
    have f0 : (upd H a0 (.lst [.str "a", .str "b", .str "c", .str "d", .str "e", .str "f"])) a0 = some (.lst ((["a", "b", "c", "d", "e", "f"] : List Str).map V.str)) := upd_same
    generalize (upd H a0 (.lst [.str "a", .str "b", .str "c", .str "d", .str "e", .str "f"])) = H1 at e0 f0 n1 nL ⊢
    have e1 : Ext H1 (upd H1 a1 (.lst [.str "x", .str "xy", .str "xyz", .str "xyzz", .str "xyzzz", .str "xyzzzz"])) := Ext.upd n1
    have f1 : (upd H1 a1 (.lst [.str "x", .str "xy", .str "xyz", .str "xyzz", .str "xyzzz", .str "xyzzzz"])) a1 = some (.lst ((["x", "xy", "xyz", "xyzz", "xyzzz", "xyzzzz"] : List Str).map V.str)) := upd_same
    generalize (upd H1 a1 (.lst [.str "x", .str "xy", .str "xyz", .str "xyzz", .str "xyzzz", .str "xyzzzz"])) = H2 at e1 f1 nL ⊢
    have e2 : Ext H2 (upd H2 L (.lst [.ref a0, .ref a1])) := Ext.upd nL
    have fL : (upd H2 L (.lst [.ref a0, .ref a1])) L = some (.lst [.ref a0, .ref a1]) := upd_same
    generalize (upd H2 L (.lst [.ref a0, .ref a1])) = H3 at e2 fL ⊢
    have E2 := e0.trans e1
    have E3 := E2.trans e2
    have hLH : H L = none := ext_free E2 nL
    have n0L : a0 ≠ L := ne_of_none (e1 _ _ f0) nL
    have n1L : a1 ≠ L := ne_of_none f1 nL
    refine ⟨_, rfl, .inl ⟨rfl, _, SqL.of fL⟩, (by show 6 ≤ sizeLine; decide), fun a2 n2 => ?_⟩
    have e3 : Ext H3 (upd H3 a2 (.lst [.str "use", .str "make", .str "do", .str "loop", .str "end", .str "given"])) := Ext.upd n2
    have f2 : (upd H3 a2 (.lst [.str "use", .str "make", .str "do", .str "loop", .str "end", .str "given"])) a2 = some (.lst ((["use", "make", "do", "loop", "end", "given"] : List Str).map V.str)) := upd_same
    generalize (upd H3 a2 (.lst [.str "use", .str "make", .str "do", .str "loop", .str "end", .str "given"])) = H4 at e3 f2 ⊢
    have n2L : a2 ≠ L := (ne_of_none fL n2).symm
    refine ⟨L, _, _, rfl, rfl, e3 _ _ fL, (by show 2 < sizeLine; decide), ?_⟩
    have K4 : ∀ b o, H4 b = some o → b ≠ L → (upd H4 L (.lst ([.ref a0, .ref a1] ++ [.ref a2]))) b = some o := fun b o q h => by rw [upd_ne h]; exact q
    have fL5 : (upd H4 L (.lst ([.ref a0, .ref a1] ++ [.ref a2]))) L = some (.lst [.ref a0, .ref a1, .ref a2]) := upd_same
    generalize (upd H4 L (.lst ([.ref a0, .ref a1] ++ [.ref a2]))) = H5 at K4 fL5 ⊢
    have E4 := E3.trans e3
    have E5 : Ext H H5 := fun b o q => K4 b o (E4 b o q) (ne_of_none q hLH)
    have g0 := K4 _ _ (e3 _ _ (e2 _ _ (e1 _ _ f0))) n0L
    have g1 := K4 _ _ (e3 _ _ (e2 _ _ f1)) n1L
    have g2 := K4 _ _ f2 n2L
    refine ⟨_, rfl, .inl ⟨rfl, _, SqL.of fL5⟩, (by show 6 ≤ sizeLine; decide), fun a3 n3 => ?_⟩
    have e5 : Ext H5 (upd H5 a3 (.lst [.str "zzzzzz", .str "aaaaaa", .str "azazaz", .str "z", .str "again", .str "store"])) := Ext.upd n3
    have f3 : (upd H5 a3 (.lst [.str "zzzzzz", .str "aaaaaa", .str "azazaz", .str "z", .str "again", .str "store"])) a3 = some (.lst ((["zzzzzz", "aaaaaa", "azazaz", "z", "again", "store"] : List Str).map V.str)) := upd_same
    generalize (upd H5 a3 (.lst [.str "zzzzzz", .str "aaaaaa", .str "azazaz", .str "z", .str "again", .str "store"])) = H6 at e5 f3 ⊢
    have n3L : a3 ≠ L := (ne_of_none fL5 n3).symm
    refine ⟨L, _, _, rfl, rfl, e5 _ _ fL5, (by show 3 < sizeLine; decide), ?_⟩
    have K6 : ∀ b o, H6 b = some o → b ≠ L → (upd H6 L (.lst ([.ref a0, .ref a1, .ref a2] ++ [.ref a3]))) b = some o := fun b o q h => by rw [upd_ne h]; exact q
    have fL7 : (upd H6 L (.lst ([.ref a0, .ref a1, .ref a2] ++ [.ref a3]))) L = some (.lst [.ref a0, .ref a1, .ref a2, .ref a3]) := upd_same
    generalize (upd H6 L (.lst ([.ref a0, .ref a1, .ref a2] ++ [.ref a3]))) = H7 at K6 fL7 ⊢
    have E7 : Ext H H7 := fun b o q => K6 b o (e5 b o (E5 b o q)) (ne_of_none q hLH)
    have g0 := K6 _ _ (e5 _ _ g0) n0L
    have g1 := K6 _ _ (e5 _ _ g1) n1L
    have g2 := K6 _ _ (e5 _ _ g2) n2L
    have g3 := K6 _ _ f3 n3L
    have hp7 := hp.ext E7
    obtain ⟨nLp, nLc⟩ := hp.ne hLH
    have away : ∀ {a : Addr}, H a = none → a ≠ p ∧ a ≠ c := fun {a} h => ⟨(hp.ne h).1.symm, (hp.ne h).2.symm⟩
    refine ⟨_, rfl, _, rfl, _, rfl, p, c, n, .ref L, rfl, hp7, by omega, .inl ⟨L, _, rfl, nLp.symm, nLc.symm, fL7, by simp, by simp, fun x H8 hx hp8 kp8 => ?_⟩⟩
    have k08 : Keep p c H H8 := (Keep.ext E7).trans kp8
    obtain ⟨q, ws, rfl, hws, nq, gq⟩ : ∃ (q : Addr) (ws : List Str), x = .ref q ∧ ws ∈ poolsS ∧ H q = none ∧ H7 q = some (.lst (ws.map V.str)) := by
      simp only [List.mem_cons, List.not_mem_nil, or_false] at hx
      rcases hx with rfl | rfl | rfl | rfl
      · exact ⟨_, _, rfl, by simp [poolsS], n0, g0⟩
      · exact ⟨_, _, rfl, by simp [poolsS], ext_free e0 n1, g1⟩
      · exact ⟨_, _, rfl, by simp [poolsS], ext_free E3 n2, g2⟩
      · exact ⟨_, _, rfl, by simp [poolsS], ext_free E5 n3, g3⟩
    obtain ⟨q1, q2⟩ := away nq
    obtain ⟨w1, w2, w3⟩ := pool_of hws
    refine ⟨_, rfl, _, rfl, p, c, n + 1, q, ws, m, m, rfl, hp8, by omega, kp8 _ _ gq q1 q2, q1, q2, w2, by omega, by omega, by omega, fun l us H9 nl l1 l2 hl9 und us1 us2 us3 hp9 kp9 => ?_⟩
    exact k l us H9 (keep_free k08 hp8 nl) l1 l2 hl9 und (fun z hz => w1 z (us1 z hz)) (by omega) (hp9.mono (by omega)) (k08.trans kp9)
/-! ### _law_real_deed -/
def spReal (cl : Dd → Addr) : Sp := fun vs H Q _ => ∃ (d : Dd) (l : Addr), vs = [madeV d, .ref l] ∧ H l = some (.lst (d.2.map V.str)) ∧ Good d ∧ ∀ a H', Ext H H' → H a = none → DeedAt cl H' a d → Q (.ref a) H'
abbrev s__law_real_deed : Stmt := top 71
abbrev N__law_real_deed : List Str := ["_law_made", "_law_used"]
theorem sc__law_real_deed : FnScope N__law_real_deed ["_law_made", "_law_used"] (defScope s__law_real_deed) := ⟨rfl, rfl, rfl, by decide +kernel, rfl, by decide +kernel, by decide +kernel⟩
theorem ok_real {f : Addr} {fd : FuncData} (F : Fun K "_law_real_deed" "_law_real_deed" s__law_real_deed f fd) (T : Tx K mg CE CD CU CM CO CP tP tk)
    (c_Use : Mkc P w K mg base CX0 5 CU "Use" (spUse CU)) (c_Make : Mkc P w K mg base CX0 5 CM "Make" (spMake CM)) (c_Do : Mkc P w K mg base CX0 5 CO "Do" (spDo CO)) :
    FnOk P w K mg base CX0 7 f fd ["_law_made", "_law_used"] (spReal (clsD CU CM CO)) := by
  refine F.ok sc__law_real_deed (fun vs H Q E h => ?_) (fun cdv A outer s H vs Q E hr h => ?_)
  · obtain ⟨d, l, rfl, _⟩ := h
    rfl
  · obtain ⟨d, l, rfl, hl, hg, k⟩ := h
    refine ⟨_, (pss_cons (ps_if (pt_cmpR op_isN (pv 0) pe_non (nomark _)) (pss_cons (ps_if (pt_cmpR op_eq (pe_callB call_len_seq (by rfl) (T.bn _ (by decide +kernel)) (by decide +kernel) (pa_cons (pv 1) pa_nil)) pe_int (nomark _)) (pss_one (ps_ret (pe_mkc c_Use (hr.mono (by decide)) (by rfl) pass0 (pa_cons (pe_ix ix_list (pv 1) pe_int (fun _ _ => rfl)) pa_nil)))) pss_nil)
      (pss_one (ps_ret (pe_ifExp (pt_cmpR op_eq (pe_callB call_len_seq (by rfl) (T.bn _ (by decide +kernel)) (by decide +kernel) (pa_cons (pv 1) pa_nil)) pe_int (nomark _)) (pe_mkc c_Use (hr.mono (by decide)) (by rfl) pass0 (pa_cons (pe_ix ix_list (pv 1) pe_int (fun _ _ => rfl)) (pa_cons (pe_ix ix_list (pv 1) pe_int (fun _ _ => rfl)) pa_nil))) (pe_mkc c_Use (hr.mono (by decide)) (by rfl) pass0 (pa_cons (pe_ix ix_list (pv 1) pe_int (fun _ _ => rfl)) (pa_cons (pe_ix ix_list (pv 1) pe_int (fun _ _ => rfl)) (pa_cons (pe_ix ix_list (pv 1) pe_int (fun _ _ => rfl)) pa_nil)))))))) pss_nil)
      (pss_cons (ps_if (pt_cmpR (op_eqNil hr) (pv 1) (pe_lst pa_nil) (nomark _)) (pss_one (ps_ret (pe_mkc c_Make (hr.mono (by decide)) (by rfl) pass0 (pa_cons (pv 0) pa_nil)))) pss_nil)
      (pss_cons (ps_if (pt_cmpR op_eq (pe_callB call_len_seq (by rfl) (T.bn _ (by decide +kernel)) (by decide +kernel) (pa_cons (pv 1) pa_nil)) pe_int (nomark _)) (pss_one (ps_ret (pe_mkc c_Do (hr.mono (by decide)) (by rfl) pass0 (pa_cons (pv 0) (pa_cons (pe_ix ix_list (pv 1) pe_int (fun _ _ => rfl)) pa_nil))))) pss_nil)
      (pss_one (ps_ret (pe_ifExp (pt_cmpR op_eq (pe_callB call_len_seq (by rfl) (T.bn _ (by decide +kernel)) (by decide +kernel) (pa_cons (pv 1) pa_nil)) pe_int (nomark _)) (pe_mkc c_Do (hr.mono (by decide)) (by rfl) pass0 (pa_cons (pv 0) (pa_cons (pe_ix ix_list (pv 1) pe_int (fun _ _ => rfl)) (pa_cons (pe_ix ix_list (pv 1) pe_int (fun _ _ => rfl)) pa_nil)))) (pe_mkc c_Do (hr.mono (by decide)) (by rfl) pass0 (pa_cons (pv 0) (pa_cons (pe_ix ix_list (pv 1) pe_int (fun _ _ => rfl)) (pa_cons (pe_ix ix_list (pv 1) pe_int (fun _ _ => rfl)) (pa_cons (pe_ix ix_list (pv 1) pe_int (fun _ _ => rfl)) pa_nil))))))))))), ?_⟩
    refine ⟨_, rfl, rfl, _, rfl, ?_⟩
    have fin : ∀ (x dx : Addr) (H4 : Hp), H x = none → H dx = none → MadeX (clsD CU CM CO d) x dx d.2 d.1.toList (upd (upd H dx (.own x)) x (.ins (clsD CU CM CO d) dx [])) H4 → Q (.ref x) H4 := fun x dx H4 nx ndx hk => by
      obtain ⟨z1, z2⟩ := made_at nx ndx hk
      exact k x H4 z1 nx z2
    obtain ⟨m, us⟩ := d
    have h3 : us.length ≤ 3 := hg.le
    cases m with
    | none =>
      refine iteYes (decide_eq_true rfl) ?_
      match us, hl, hg, fin with
      | [], hl, hg, fin => exact absurd rfl (hg.ne rfl)
      | [u0], hl, hg, fin =>
        refine ⟨_, rfl, l, _, rfl, .inl (SqL.of hl), rfl, _, rfl, ?_⟩
        refine iteYes (decide_eq_true rfl) ?_
        exact ⟨_, rfl, l, _, 0, .str u0, rfl, rfl, SqL.of hl, atI_nat (j := 0) rfl, fun x dx nx ndx _ => ⟨x, dx, [u0], rfl, upd_same, hg.nm, hg.nd, by simp, hg.le, fun H4 hk => ⟨rfl, fin _ _ _ nx ndx hk⟩⟩⟩
      | [u0, u1], hl, hg, fin =>
        refine ⟨_, rfl, l, _, rfl, .inl (SqL.of hl), rfl, _, rfl, ?_⟩
        refine iteNo (decide_eq_false (by intro q; have := V.int.inj q; simp at this)) ?_
        refine ⟨_, rfl, l, _, rfl, .inl (SqL.of hl), rfl, _, rfl, ?_⟩
        refine iteYes (decide_eq_true rfl) ?_
        exact ⟨_, rfl, l, _, 0, .str u0, rfl, rfl, SqL.of hl, atI_nat (j := 0) rfl, _, rfl, l, _, 1, .str u1, rfl, rfl, SqL.of hl, atI_nat (j := 1) rfl, fun x dx nx ndx _ => ⟨x, dx, [u0, u1], rfl, upd_same, hg.nm, hg.nd, by simp, hg.le, fun H4 hk => ⟨rfl, fin _ _ _ nx ndx hk⟩⟩⟩
      | [u0, u1, u2], hl, hg, fin =>
        refine ⟨_, rfl, l, _, rfl, .inl (SqL.of hl), rfl, _, rfl, ?_⟩
        refine iteNo (decide_eq_false (by intro q; have := V.int.inj q; simp at this)) ?_
        refine ⟨_, rfl, l, _, rfl, .inl (SqL.of hl), rfl, _, rfl, ?_⟩
        refine iteNo (decide_eq_false (by intro q; have := V.int.inj q; simp at this)) ?_
        exact ⟨_, rfl, l, _, 0, .str u0, rfl, rfl, SqL.of hl, atI_nat (j := 0) rfl, _, rfl, l, _, 1, .str u1, rfl, rfl, SqL.of hl, atI_nat (j := 1) rfl, _, rfl, l, _, 2, .str u2, rfl, rfl, SqL.of hl, atI_nat (j := 2) rfl, fun x dx nx ndx _ => ⟨x, dx, [u0, u1, u2], rfl, upd_same, hg.nm, hg.nd, by simp, hg.le, fun H4 hk => ⟨rfl, fin _ _ _ nx ndx hk⟩⟩⟩
      | _ :: _ :: _ :: _ :: _, hl, hg, fin => exact absurd hg.le (by simp)
    | some z =>
      refine iteNo (decide_eq_false (by intro q; cases q)) ?_
      refine ⟨_, rfl, (by show 0 ≤ sizeLine; decide), fun e ne => ?_⟩
      have e5 : Ext H (upd H e (.lst [])) := Ext.upd ne
      refine ⟨l, e, _, rfl, rfl, e5 _ _ hl, upd_same, _, rfl, ?_⟩
      generalize (upd H e (.lst [])) = H5 at e5
      have hl := e5 _ _ hl
      have fin : ∀ (x dx : Addr) (H4 : Hp), H5 x = none → H5 dx = none → MadeX (clsD CU CM CO (some z, us)) x dx us [z] (upd (upd H5 dx (.own x)) x (.ins (clsD CU CM CO (some z, us)) dx [])) H4 → Q (.ref x) H4 := fun x dx H4 nx ndx hk => by
        obtain ⟨z1, z2⟩ := made_at (d := (some z, us)) nx ndx hk
        exact k x H4 (e5.trans z1) (ext_free e5 nx) z2
      match us, hl, hg, fin with
      | [], hl, hg, fin =>
        refine iteYes rfl ?_
        exact ⟨_, rfl, fun x dx nx ndx _ => ⟨x, dx, z, rfl, upd_same, hg.mn z rfl, fun H4 hk => ⟨rfl, fin _ _ _ nx ndx hk⟩⟩⟩
      | [u0], hl, hg, fin =>
        refine iteNo rfl ?_
        refine ⟨_, rfl, l, _, rfl, .inl (SqL.of hl), rfl, _, rfl, ?_⟩
        refine iteYes (decide_eq_true rfl) ?_
        exact ⟨_, rfl, _, rfl, l, _, 0, .str u0, rfl, rfl, SqL.of hl, atI_nat (j := 0) rfl, fun x dx nx ndx _ => ⟨x, dx, z, [u0], rfl, upd_same, hg.mn z rfl, hg.nm, hg.nd, by simp, hg.le, fun H4 hk => ⟨rfl, fin _ _ _ nx ndx hk⟩⟩⟩
      | [u0, u1], hl, hg, fin =>
        refine iteNo rfl ?_
        refine ⟨_, rfl, l, _, rfl, .inl (SqL.of hl), rfl, _, rfl, ?_⟩
        refine iteNo (decide_eq_false (by intro q; have := V.int.inj q; simp at this)) ?_
        refine ⟨_, rfl, l, _, rfl, .inl (SqL.of hl), rfl, _, rfl, ?_⟩
        refine iteYes (decide_eq_true rfl) ?_
        exact ⟨_, rfl, _, rfl, l, _, 0, .str u0, rfl, rfl, SqL.of hl, atI_nat (j := 0) rfl, _, rfl, l, _, 1, .str u1, rfl, rfl, SqL.of hl, atI_nat (j := 1) rfl, fun x dx nx ndx _ => ⟨x, dx, z, [u0, u1], rfl, upd_same, hg.mn z rfl, hg.nm, hg.nd, by simp, hg.le, fun H4 hk => ⟨rfl, fin _ _ _ nx ndx hk⟩⟩⟩
      | [u0, u1, u2], hl, hg, fin =>
        refine iteNo rfl ?_
        refine ⟨_, rfl, l, _, rfl, .inl (SqL.of hl), rfl, _, rfl, ?_⟩
        refine iteNo (decide_eq_false (by intro q; have := V.int.inj q; simp at this)) ?_
        refine ⟨_, rfl, l, _, rfl, .inl (SqL.of hl), rfl, _, rfl, ?_⟩
        refine iteNo (decide_eq_false (by intro q; have := V.int.inj q; simp at this)) ?_
        exact ⟨_, rfl, _, rfl, l, _, 0, .str u0, rfl, rfl, SqL.of hl, atI_nat (j := 0) rfl, _, rfl, l, _, 1, .str u1, rfl, rfl, SqL.of hl, atI_nat (j := 1) rfl, _, rfl, l, _, 2, .str u2, rfl, rfl, SqL.of hl, atI_nat (j := 2) rfl, fun x dx nx ndx _ => ⟨x, dx, z, [u0, u1, u2], rfl, upd_same, hg.mn z rfl, hg.nm, hg.nd, by simp, hg.le, fun H4 hk => ⟨rfl, fin _ _ _ nx ndx hk⟩⟩⟩
      | _ :: _ :: _ :: _ :: _, hl, hg, fin => exact absurd hg.le (by simp)
end
end K33
end
section
set_option Elab.async false
set_option autoImplicit false
set_option linter.all false
set_option maxRecDepth 100000
set_option maxHeartbeats 4000000
set_option pp.maxSteps 1500
namespace K33
open PySem PySem.Spec PyProof.Rows L2 Ls
open C8 (pss_cut tCut)
open TL
/-! ### drawn deeds -/
def gdDs (fs : List Str) : List Str → List Dd → Prop
  | _, [] => True
  | here, d :: r => Good d ∧ (∀ z ∈ d.2, z ∈ here) ∧ (∀ m, d.1 = some m → m ∈ fs) ∧ gdDs fs (here ++ d.1.toList) r
theorem gdDs_snoc {fs : List Str} : ∀ {ds : List Dd} {here : List Str} {d : Dd}, gdDs fs here ds → Good d → (∀ z ∈ d.2, z ∈ aft here ds) → (∀ m, d.1 = some m → m ∈ fs) → gdDs fs here (ds ++ [d])
  | [], here, d, _, g, u, m => ⟨g, fun z hz => by simpa [aft] using u z hz, m, True.intro⟩
  | x :: r, here, d, h, g, u, m => ⟨h.1, h.2.1, h.2.2.1, gdDs_snoc h.2.2.2 g (fun z hz => by rw [← aft_cons]; exact u z hz) m⟩
theorem aft_app (here : List Str) (ds : List Dd) (d : Dd) : aft here (ds ++ [d]) = aft here ds ++ d.1.toList := by
  unfold aft
  rw [List.map_append, List.flatten_append, ← List.append_assoc]
  simp
theorem gdDs_good {fs : List Str} : ∀ {ds : List Dd} {here : List Str}, gdDs fs here ds → ∀ d ∈ ds, Good d
  | [], _, _, d, hd => absurd hd (List.not_mem_nil)
  | x :: r, here, h, d, hd => by
    rcases List.mem_cons.mp hd with rfl | hd
    · exact h.1
    · exact gdDs_good h.2.2.2 d hd
theorem gdDs_ok {fs ag : List Str} (hf : ∀ z ∈ fs, z ∉ ag) : ∀ {ds : List Dd} {here k : List Str}, gdDs fs here ds → (∀ z ∈ here, z ∈ k) → okDs ag k ds
  | [], _, _, _, _ => True.intro
  | d :: r, here, k, h, hk => ⟨fun z hz => hk z (h.2.1 z hz), fun m hm => hf m (h.2.2.1 m hm), gdDs_ok hf h.2.2.2 fun z hz => by
      rcases List.mem_append.mp hz with hz | hz
      · exact List.mem_append_left _ (hk z hz)
      · exact List.mem_append_right _ hz⟩
theorem aft_sub {us : List Str} {here : List Str} {ds : List Dd} (h : ∀ z ∈ here, z ∈ us) (hd : ∀ d ∈ ds, ∀ m, d.1 = some m → m ∈ us) : ∀ z ∈ aft here ds, z ∈ us := fun z hz => by
  unfold aft at hz
  rcases List.mem_append.mp hz with hz | hz
  · exact h z hz
  · obtain ⟨l, hl, hz⟩ := List.mem_flatten.mp hz
    obtain ⟨d, hd', rfl⟩ := List.mem_map.mp hl
    obtain ⟨m, us'⟩ := d
    cases m with
    | none => cases hz
    | some m =>
      have : z = m := by simpa using hz
      subst this
      exact hd _ hd' _ rfl
theorem gdDs_made {fs : List Str} : ∀ {ds : List Dd} {here : List Str}, gdDs fs here ds → ∀ d ∈ ds, ∀ m, d.1 = some m → m ∈ fs
  | [], _, _, d, hd => absurd hd (List.not_mem_nil)
  | x :: r, here, h, d, hd => by
    rcases List.mem_cons.mp hd with rfl | hd
    · exact h.2.2.1
    · exact gdDs_made h.2.2.2 d hd
theorem gdDs_used {fs us : List Str} (hf : ∀ z ∈ fs, z ∈ us) : ∀ {ds : List Dd} {here : List Str}, gdDs fs here ds → (∀ z ∈ here, z ∈ us) → ∀ d ∈ ds, ∀ z ∈ d.2, z ∈ us
  | [], _, _, _, d, hd => absurd hd (List.not_mem_nil)
  | x :: r, here, h, hk, d, hd => by
    rcases List.mem_cons.mp hd with rfl | hd
    · exact fun z hz => hk z (h.2.1 z hz)
    · refine gdDs_used hf h.2.2.2 (fun z hz => ?_) d hd
      rcases List.mem_append.mp hz with hz | hz
      · exact hk z hz
      · obtain ⟨m, us'⟩ := x
        cases m with
        | none => cases hz
        | some m =>
          have : z = m := by simpa using hz
          subst this
          exact hf _ (h.2.2.1 _ rfl)
/-- a drawn deed: a pair of the made name and the list of the used ones -/
def SdAt (H : Hp) (v : V) (d : Dd) : Prop := ∃ t l, v = .ref t ∧ H t = some (.tup [madeV d, .ref l]) ∧ H l = some (.lst (d.2.map V.str))
theorem SdAt.ext {H H' : Hp} {v : V} {d : Dd} (h : SdAt H v d) (e : Ext H H') : SdAt H' v d := let ⟨t, l, h1, h2, h3⟩ := h; ⟨t, l, h1, e _ _ h2, e _ _ h3⟩
def SdsAt (H : Hp) (xs : List V) (ds : List Dd) : Prop := xs.length = ds.length ∧ ∀ (i : Nat) (x : V), xs[i]? = some x → ∃ d, ds[i]? = some d ∧ SdAt H x d
theorem SdsAt.ext {H H' : Hp} {xs : List V} {ds : List Dd} (h : SdsAt H xs ds) (e : Ext H H') : SdsAt H' xs ds := ⟨h.1, fun i x q => let ⟨d, h1, h2⟩ := h.2 i x q; ⟨d, h1, h2.ext e⟩⟩
theorem SdsAt.nil {H : Hp} : SdsAt H [] [] := ⟨rfl, fun i x q => by simp at q⟩
theorem SdsAt.snoc {H : Hp} {xs : List V} {ds : List Dd} {x : V} {d : Dd} (h : SdsAt H xs ds) (g : SdAt H x d) : SdsAt H (xs ++ [x]) (ds ++ [d]) := by
  refine ⟨by rw [List.length_append, List.length_append, h.1]; rfl, fun i y q => ?_⟩
  by_cases hi : i < xs.length
  · rw [List.getElem?_append_left hi] at q
    rw [List.getElem?_append_left (by rw [← h.1]; exact hi)]
    exact h.2 i y q
  · have hl := (List.getElem?_eq_some_iff.mp q).1
    rw [List.length_append, List.length_singleton] at hl
    have : i = xs.length := by omega
    subst this
    rw [List.getElem?_append_right (Nat.le_refl _), Nat.sub_self] at q
    cases q
    rw [h.1, List.getElem?_append_right (Nat.le_refl _), Nat.sub_self]
    exact ⟨d, rfl, g⟩
/-- what is new, but for two lists that are written -/
def Zn (F G : Addr) (H H' : Hp) : Hp := hid [F, G] (nw H H')
theorem zn_keep {F G p c : Addr} {H H1 H2 : Hp} {n : Nat} (hp : PenAt H p c n) (k : Keep p c H1 H2) : Ext (Zn F G H H1) (Zn F G H H2) := fun b o q => by
  obtain ⟨h1, h2⟩ := hid_some q
  obtain ⟨h3, h4⟩ := nw_some h2
  obtain ⟨n1, n2⟩ := hp.ne h3
  unfold Zn
  rw [hid_at h1, nw_at h3]
  exact k b o h4 n1.symm n2.symm
theorem zn_upd {F G a : Addr} {H H' : Hp} {o : HO} (h : a ∈ [F, G]) : Zn F G H (upd H' a o) = Zn F G H H' := by
  funext b
  unfold Zn
  by_cases hb : b ∈ [F, G]
  · unfold hid
    rw [if_pos hb, if_pos hb]
  · rw [hid_at hb, hid_at hb]
    unfold nw
    rw [upd_ne (fun e => hb (by rw [e]; exact h))]
theorem zn_at {F G a : Addr} {H H' : Hp} {o : HO} (h : H a = none) (hF : a ≠ F) (hG : a ≠ G) (q : H' a = some o) : Zn F G H H' a = some o := by
  unfold Zn
  rw [hid_at (by simp [hF, hG]), nw_at h]
  exact q
/-- what stands behind some laps -/
structure DSt (H H' : Hp) (p c F G : Addr) (n : Nat) (ks fs : List Str) (i m : Nat) (xs : List V) (ds : List Dd) (here : List Str) : Prop where
  f : H' F = some (.lst xs)
  g : H' G = some (.lst (here.map V.str))
  s : SdsAt (Zn F G H H') xs ds
  d : gdDs fs ks ds
  l : ds.length = i
  nd : here.Nodup
  mm : ∀ z, z ∈ here ↔ z ∈ aft ks ds
  pp : PenAt H' p c (n + 1 + 30 * i + m)
  kk : Keep p c H H'
theorem DSt.keep {H H1 H2 : Hp} {p c F G : Addr} {n n0 : Nat} {ks fs : List Str} {i m m' : Nat} {xs : List V} {ds : List Dd} {here : List Str} (hp : PenAt H p c n0) (h : DSt H H1 p c F G n ks fs i m xs ds here) (k : Keep p c H1 H2) (nF : F ≠ p ∧ F ≠ c) (nG : G ≠ p ∧ G ≠ c) (hp2 : PenAt H2 p c (n + 1 + 30 * i + m')) :
    DSt H H2 p c F G n ks fs i m' xs ds here := ⟨k _ _ h.f nF.1 nF.2, k _ _ h.g nG.1 nG.2, h.s.ext (zn_keep hp k), h.d, h.l, h.nd, h.mm, hp2, h.kk.trans k⟩
/-- a deed has been put behind the others -/
structure ASt (H H' : Hp) (p c F G : Addr) (n i : Nat) (xs : List V) (ds : List Dd) (here : List Str) (mo : Option Str) (d : Dd) (x : V) : Prop where
  d1 : d.1 = mo
  gd : Good d
  us : ∀ z ∈ d.2, z ∈ here
  f : H' F = some (.lst (xs ++ [x]))
  g : H' G = some (.lst (here.map V.str))
  s : SdsAt (Zn F G H H') (xs ++ [x]) (ds ++ [d])
  pp : PenAt H' p c (n + 1 + 30 * i + 22)
  kk : Keep p c H H'
theorem app_step {H H8 : Hp} {p c F G T lu : Addr} {n n0 i : Nat} {ks fs : List Str} {xs : List V} {ds : List Dd} {here : List Str} {d : Dd} (hp : PenAt H p c n0) (st : DSt H H8 p c F G n ks fs i 22 xs ds here) (nF : H F = none) (nG : H G = none) (nFG : F ≠ G) (gd : Good d) (us : ∀ z ∈ d.2, z ∈ here)
    (hlu : H8 lu = some (.lst (d.2.map V.str))) (nlu : H lu = none) (lF : lu ≠ F) (lG : lu ≠ G) (nT : H8 T = none) : ASt H (upd (upd H8 T (.tup [madeV d, .ref lu])) F (.lst (xs ++ [.ref T]))) p c F G n i xs ds here d.1 d (.ref T) := by
  have eT : Ext H8 (upd H8 T (.tup [madeV d, .ref lu])) := Ext.upd nT
  have fT : (upd H8 T (.tup [madeV d, .ref lu])) T = some (.tup [madeV d, .ref lu]) := upd_same
  generalize (upd H8 T (.tup [madeV d, .ref lu])) = H9 at eT fT
  have k9 : Keep p c H8 H9 := Keep.ext eT
  have k09 := st.kk.trans k9
  have nTH : H T = none := keep_free st.kk st.pp nT
  have nFp : F ≠ p ∧ F ≠ c := ⟨(hp.ne nF).1.symm, (hp.ne nF).2.symm⟩
  have nTF : T ≠ F := (ne_of_none st.f nT).symm
  have nTG : T ≠ G := (ne_of_none st.g nT).symm
  refine ⟨rfl, gd, us, upd_same, by rw [upd_ne nFG.symm]; exact eT _ _ st.g, ?_, (st.pp.ext eT).upd nFp.1.symm nFp.2.symm, fun b o q h1 h2 => ?_⟩
  · rw [zn_upd (by simp)]
    exact (st.s.ext (zn_keep hp k9)).snoc ⟨T, lu, rfl, zn_at nTH nTF nTG fT, zn_at nlu lF lG (eT _ _ hlu)⟩
  · rw [upd_ne (ne_of_none q nF)]
    exact k09 b o q h1 h2
section
variable {P : PySem.Program} {w : World} {K : PySem.W.Frag} {mg : Str → Option Value} {base : Heap} {CE CD CU CM CO CP tP : Addr} {tk : Str → Tok}
/-! ### _law_order -/
def spOrd : Sp := fun vs H Q _ => vs = [] ∧ ∀ q, H q = none → Q (.ref q) (upd H q (.lst (partsS.map V.str)))
abbrev s__law_order : Stmt := top 72
abbrev N__law_order : List Str := []
theorem sc__law_order : FnScope N__law_order [] (defScope s__law_order) := ⟨rfl, rfl, rfl, by decide +kernel, rfl, by decide +kernel, by decide +kernel⟩
theorem ok_order {f : Addr} {fd : FuncData} (F : Fun K "_law_order" "_law_order" s__law_order f fd) (T : Tx K mg CE CD CU CM CO CP tP tk) : FnOk P w K mg base CX0 1 f fd [] spOrd := by
  refine F.ok sc__law_order (fun vs H Q E h => ?_) (fun cdv A outer s H vs Q E hr h => ?_)
  · obtain ⟨rfl, _⟩ := h
    rfl
  · obtain ⟨rfl, k⟩ := h
    refine ⟨_, (pss_one (ps_ret (pe_lst (pa_cons pe_str (pa_cons pe_str (pa_cons pe_str (pa_cons pe_str (pa_cons pe_str pa_nil)))))))), ?_⟩
    exact ⟨(by show 5 ≤ sizeLine; decide), fun q nq => k q nq⟩
/-! ### _law_deeds -/
def spLDeeds : Sp := fun vs H Q _ => ∃ (p c : Addr) (n : Nat) (kn fr : Addr) (ks fs : List Str) (most : Nat), vs = [.ref p, .ref kn, .ref fr, .int most] ∧ PenAt H p c n ∧ n < 500000 ∧ H kn = some (.lst (ks.map V.str)) ∧ kn ≠ p ∧ kn ≠ c ∧ H fr = some (.lst (fs.map V.str)) ∧ fr ≠ p ∧ fr ≠ c ∧
  ks.Nodup ∧ ks ≠ [] ∧ (∃ us : List Str, us.length ≤ 6 ∧ (∀ z ∈ us, isName z = true) ∧ (∀ z ∈ ks, z ∈ us) ∧ ∀ z ∈ fs, z ∈ us) ∧ fs.length ≤ 6 ∧ most ≤ 24 ∧
  ∀ (t fl hl : Addr) (xs : List V) (ds : List Dd) (here : List Str) (H' : Hp), H t = none → H fl = none → H hl = none → t ≠ p → t ≠ c → fl ≠ p → fl ≠ c → hl ≠ p → hl ≠ c → H' t = some (.tup [.ref fl, .ref hl]) → H' fl = some (.lst xs) → SdsAt (nw H H') xs ds → H' hl = some (.lst (here.map V.str)) → gdDs fs ks ds → ds.length ≤ most → here.Nodup → (∀ z, z ∈ here ↔ z ∈ aft ks ds) → PenAt H' p c (n + 1000) → Keep p c H H' → Q (.ref t) H'
abbrev s__law_deeds : Stmt := top 73
abbrev N__law_deeds : List Str := ["_law_pen_here", "_law_known", "_law_free", "_law_most", "_law_found", "_law_here", "_law_lap", "_law_way", "_law_used", "_law_made"]
theorem sc__law_deeds : FnScope N__law_deeds ["_law_pen_here", "_law_known", "_law_free", "_law_most"] (defScope s__law_deeds) := ⟨rfl, rfl, rfl, by decide +kernel, rfl, by decide +kernel, by decide +kernel⟩
theorem ok_ldeeds {f : Addr} {fd : FuncData} (F : Fun K "_law_deeds" "_law_deeds" s__law_deeds f fd) (T : Tx K mg CE CD CU CM CO CP tP tk) (c__law_draw : Cal P w K mg base CX0 1 "_law_draw" spDraw) (c__law_pick : Cal P w K mg base CX0 2 "_law_pick" (spPick K)) (c__law_some : Cal P w K mg base CX0 2 "_law_some" spSome) :
    FnOk P w K mg base CX0 4 f fd ["_law_pen_here", "_law_known", "_law_free", "_law_most"] spLDeeds := by
  refine F.ok sc__law_deeds (fun vs H Q E h => ?_) (fun cdv A outer s H vs Q E hr h => ?_)
  · obtain ⟨p, c, n, kn, fr, ks, fs, most, rfl, _⟩ := h
    rfl
  · obtain ⟨p, c, n, kn, fr, ks, fs, most, rfl, hp, hn, hkn, knp, knc, hfr, frp, frc, hkd, hkne, ⟨us, hus, husn, hksu, hfsu⟩, hfl, hmost, k⟩ := h
    have h4 : sizeLine = 16777216 := sizeLine_eq
    refine ⟨_, (pss_cons (ps_par (i := 4) (j := 5) rfl sc__law_deeds.nd rfl rfl (by decide) rfl rfl (pa_cons (pe_lst pa_nil) (pa_cons (pe_callTy call_list_of (by rfl) (T.bn _ (by decide +kernel)) (by decide +kernel) (pa_cons (pv 1) pa_nil)) pa_nil)) (by rfl))
      (pss_cons (ps_for PassesOwn.never rfl (pi_range1 rfl (T.bn _ (by decide +kernel)) (pa_cons (pe_cal c__law_draw (hr.mono (by decide)) (by rfl) pass0 (pa_cons (pv 0) (pa_cons (pe_op op_add (pv 3) pe_int) pa_nil))) pa_nil)) (pg_name (i := 6) sc__law_deeds.nd rfl (by first | exact Or.inl rfl | exact Or.inr rfl))
      (pss_cons (ps_par (i := 7) (j := 8) rfl sc__law_deeds.nd rfl rfl (by decide) rfl rfl (pa_cons (pe_cal c__law_draw (hr.mono (by decide)) (by rfl) pass0 (pa_cons (pv 0) (pa_cons pe_int pa_nil))) (pa_cons (pe_cal c__law_some (hr.mono (by decide)) (by rfl) pass0 (pa_cons (pv 0) (pa_cons (pv 5) (pa_cons pe_int (pa_cons pe_int pa_nil))))) pa_nil)) (by rfl))
      (pss_cut (ps_set (i := 9) sc__law_deeds.nd rfl (by first | exact Or.inl rfl | exact Or.inr rfl) (pe_ifExp ((pw_and (pt_cmpR op_gt (pv 7) pe_int (nomark _)) (pw_and1 (pt_cmpR (op_neNil hr) (pv 2) (pe_lst pa_nil) (nomark _))))).pt (pe_cal c__law_pick (hr.mono (by decide)) (by rfl) pass0 (pa_cons (pv 0) (pa_cons (pv 2) pa_nil))) pe_non))
      (pss_cut (ps_expr (pe_bm PySem.F.plainAttrs_list PySem.F.slot_list_append PySem.F.type_list_append mt_append (pv 4) (pa_cons (pe_tup (pa_cons (pv 9) (pa_cons (pe_ifExp ((pw_and (pt_cmpR op_eq (pv 7) pe_int (nomark _)) (pw_and1 (pt_cmpR op_notN (pv 9) pe_non (nomark _))))).pt (pe_lst pa_nil) (pv 8)) pa_nil))) pa_nil)))
      (pss_one (ps_if ((pw_and (pt_cmpR op_notN (pv 9) pe_non (nomark _)) (pw_and1 (pt_cmpR op_notIn_seq (pv 9) (pv 5) rfl)))).pt (pss_one (ps_expr (pe_bm PySem.F.plainAttrs_list PySem.F.slot_list_append PySem.F.type_list_append mt_append (pv 5) (pa_cons (pv 9) pa_nil)))) pss_nil))))))
      (pss_one (ps_ret (pe_tup (pa_cons (pv 4) (pa_cons (pv 5) pa_nil))))))), ?_⟩
    refine ⟨(by show 0 ≤ sizeLine; decide), fun F' nF => ?_⟩
    have e1 : Ext H (upd H F' (.lst [])) := Ext.upd nF
    have f1 : (upd H F' (.lst [])) F' = some (.lst []) := upd_same
    generalize (upd H F' (.lst [])) = H1 at e1 f1
    refine ⟨_, rfl, kn, _, rfl, .inl (SqL.of (e1 _ _ hkn)), fun G nG => ?_⟩
    have e2 : Ext H1 (upd H1 G (.lst (ks.map V.str))) := Ext.upd nG
    have g2 : (upd H1 G (.lst (ks.map V.str))) G = some (.lst (ks.map V.str)) := upd_same
    generalize (upd H1 G (.lst (ks.map V.str))) = H2 at e2 g2
    have f2 := e2 _ _ f1
    have e02 := e1.trans e2
    have nGH : H G = none := ext_free e1 nG
    have nFG : F' ≠ G := ne_of_none f1 nG
    have nFp : F' ≠ p ∧ F' ≠ c := ⟨(hp.ne nF).1.symm, (hp.ne nF).2.symm⟩
    have nGp : G ≠ p ∧ G ≠ c := ⟨(hp.ne nGH).1.symm, (hp.ne nGH).2.symm⟩
    refine ⟨_, _, rfl, ?_⟩
    refine ⟨_, rfl, _, rfl, _, _, rfl, rfl, p, c, n, (most : Int) + 1, rfl, hp.ext e02, by omega, by omega, by omega, fun j H3 j0 j1 hp3 kp3 => ?_⟩
    obtain ⟨jn, rfl⟩ : ∃ jn : Nat, j = jn := ⟨j.toNat, by omega⟩
    have k03 : Keep p c H H3 := (Keep.ext e02).trans kp3
    refine ⟨(jn : Int), rfl, by omega, by omega, ?_⟩
    refine for_range (n := jn) (fun i σ H' => ∃ x6 x7 x8 x9 xs ds here, σ = [some (.ref p), some (.ref kn), some (.ref fr), some (.int most), some (.ref F'), some (.ref G), x6, x7, x8, x9] ∧ DSt H H' p c F' G n ks fs i 0 xs ds here)
      ⟨_, _, _, _, [], [], ks, rfl, kp3 _ _ f2 nFp.1 nFp.2, kp3 _ _ g2 nGp.1 nGp.2, .nil, True.intro, rfl, hkd, fun z => by simp [aft], hp3, k03⟩ ?_ ?_
    · rintro i σ H4 hi ⟨x6, x7, x8, x9, xs, ds, here, rfl, st⟩
      have hsub : ∀ z ∈ here, z ∈ us := fun z hz => aft_sub hksu (fun d hd m hm => hfsu m (gdDs_made st.d d hd m hm)) z ((st.mm z).mp hz)
      have hlen : here.length ≤ 6 := Nat.le_trans (nodup_len st.nd hsub) hus
      have hpos : 1 ≤ here.length := by
        obtain ⟨k0, kr, rfl⟩ : ∃ k0 kr, ks = k0 :: kr := by
          cases ks with
          | nil => exact absurd rfl hkne
          | cons a b => exact ⟨a, b, rfl⟩
        exact List.length_pos_of_mem ((st.mm k0).mpr (by unfold aft; simp))
      refine ⟨_, rfl, p, c, _, 5, rfl, st.pp, by omega, by decide, by decide, fun w H5 w0 w1 hp5 kp5 => ?_⟩
      have st5 := st.keep hp kp5 nFp nGp (hp5.mono (m := n + 1 + 30 * i + 1) (by omega))
      refine ⟨_, rfl, _, rfl, p, c, _, G, here, 1, 3, rfl, hp5, by omega, st5.g, nGp.1, nGp.2, st.nd, by omega, by decide, hpos, fun l ul H6 nl lp lc hl und usub u1 u3 hp6 kp6 => ?_⟩
      have st6 := st5.keep hp kp6 nFp nGp (hp6.mono (m := n + 1 + 30 * i + 21) (by omega))
      have nlH : H l = none := keep_free st5.kk st5.pp nl
      have nlF : l ≠ F' := (ne_of_none st5.f nl).symm
      have nlG : l ≠ G := (ne_of_none st5.g nl).symm
      refine ⟨_, _, rfl, ?_⟩
      refine ⟨fun σ' H' => ∃ (mo : Option Str) (y6 : Option V), σ' = [some (.ref p), some (.ref kn), some (.ref fr), some (.int most), some (.ref F'), some (.ref G), y6, some (.int w), some (.ref l), some (madeV (mo, []))] ∧ (∀ m, mo = some m → m ∈ fs) ∧ DSt H H' p c F' G n ks fs i 22 xs ds here ∧ H' l = some (.lst (ul.map V.str)), ?_, ?_⟩
      · have hfr6 := st6.kk _ _ hfr frp frc
        refine ⟨_, rfl, _, _, rfl, rfl, _, rfl, ?_⟩
        by_cases hw : 1 < w
        · refine iteYes (decide_eq_true hw) ?_
          refine ⟨_, rfl, (by show 0 ≤ sizeLine; decide), fun e ne => ⟨fr, e, fs.map V.str, rfl, rfl, (Ext.upd ne) _ _ hfr6, upd_same, _, rfl, ?_⟩⟩
          have e7 : Ext H6 (upd H6 e (.lst [])) := Ext.upd ne
          generalize (upd H6 e (.lst [])) = H7 at e7
          have k7 : Keep p c H6 H7 := Keep.ext e7
          have hp7 := hp6.ext e7
          by_cases hfs : fs = []
          · refine iteNo (by rw [hfs]; rfl) ?_
            exact ⟨none, _, rfl, (fun m h => by cases h), st6.keep hp k7 nFp nGp (hp7.mono (by omega)), e7 _ _ hl⟩
          · have hfp := List.length_pos_iff.mpr hfs
            refine iteYes (by cases fs with | nil => exact absurd rfl hfs | cons a b => rfl) ?_
            refine ⟨_, rfl, _, rfl, p, c, _, .ref fr, rfl, hp7, by omega, .inl ⟨fr, _, rfl, frp, frc, e7 _ _ hfr6, by rw [List.length_map]; exact hfp, by rw [List.length_map]; omega, fun x H8 hx hp8 kp8 => ?_⟩⟩
            obtain ⟨z, hz, rfl⟩ := List.mem_map.mp hx
            exact ⟨some z, _, rfl, (fun m h => by cases h; exact hz), st6.keep hp (k7.trans kp8) nFp nGp (hp8.mono (by omega)), kp8 _ _ (e7 _ _ hl) lp lc⟩
        · refine iteNo (decide_eq_false hw) ?_
          exact ⟨none, _, rfl, (fun m h => by cases h), st6.keep hp Keep.refl nFp nGp (hp6.mono (by omega)), hl⟩
      · rintro σ' H8 ⟨mo, y6, rfl, hmo, st8, hl8⟩
        have lxs : xs.length < sizeLine := by
          have := st8.s.1
          have := st8.l
          omega
        have gname : ∀ m, mo = some m → isName m = true := fun m h => husn m (hfsu m (hmo m h))
        have gA : Good (mo, ul) := ⟨fun z hz => husn z (hsub z (usub z hz)), gname, und, u3, fun _ e => by rw [show ul = [] from e] at u1; exact absurd u1 (by decide)⟩
        refine ⟨fun σ' H' => ∃ (d : Dd) (x : V), σ' = [some (.ref p), some (.ref kn), some (.ref fr), some (.int most), some (.ref F'), some (.ref G), y6, some (.int w), some (.ref l), some (madeV (mo, []))] ∧ ASt H H' p c F' G n i xs ds here mo d x, ?_, ?_⟩
        · refine ⟨_, rfl, .inl ⟨rfl, _, SqL.of st8.f⟩, _, rfl, _, rfl, rfl, _, rfl, ?_⟩
          by_cases hw : w = 2
          · subst hw
            refine iteYes (decide_eq_true rfl) ?_
            refine ⟨_, rfl, rfl, _, rfl, ?_⟩
            cases mo with
            | none =>
              refine iteNo rfl ?_
              exact ⟨_, rfl, (by show 2 ≤ sizeLine; decide), fun T' nT => ⟨F', _, _, rfl, rfl, (Ext.upd nT) _ _ st8.f, lxs, (none, ul), .ref T', rfl, app_step hp st8 nF nGH nFG gA usub hl8 nlH nlF nlG nT⟩⟩
            | some m =>
              refine iteYes rfl ?_
              refine ⟨(by show 0 ≤ sizeLine; decide), fun e ne => ?_⟩
              have e9 : Ext H8 (upd H8 e (.lst [])) := Ext.upd ne
              have f9 : (upd H8 e (.lst [])) e = some (.lst (([] : List Str).map V.str)) := upd_same
              generalize (upd H8 e (.lst [])) = H9 at e9 f9
              have st9 := st8.keep hp (Keep.ext e9) nFp nGp (st8.pp.ext e9)
              have gB : Good (some m, []) := ⟨fun z hz => absurd hz List.not_mem_nil, gname, .nil, Nat.zero_le _, fun e => by cases e⟩
              exact ⟨(by show 2 ≤ sizeLine; decide), fun T' nT => ⟨F', _, _, rfl, rfl, (Ext.upd nT) _ _ st9.f, lxs, (some m, []), .ref T', rfl, app_step hp st9 nF nGH nFG gB (fun z hz => absurd hz List.not_mem_nil) f9 (keep_free st8.kk st8.pp ne) (ne_of_none st8.f ne).symm (ne_of_none st8.g ne).symm nT⟩⟩
          · refine iteNo (decide_eq_false fun q => hw (V.int.inj q)) ?_
            exact ⟨_, rfl, (by show 2 ≤ sizeLine; decide), fun T' nT => ⟨F', _, _, rfl, rfl, (Ext.upd nT) _ _ st8.f, lxs, (mo, ul), .ref T', rfl, app_step hp st8 nF nGH nFG gA usub hl8 nlH nlF nlG nT⟩⟩
        · rintro σ' H9 ⟨d, x, rfl, as⟩
          have gd' : gdDs fs ks (ds ++ [d]) := gdDs_snoc st8.d as.gd (fun z hz => (st8.mm z).mp (as.us z hz)) fun m hm => hmo m (by rw [← as.d1]; exact hm)
          have dl : (ds ++ [d]).length = i + 1 := by rw [List.length_append, st8.l]; rfl
          refine ⟨_, rfl, rfl, _, rfl, ?_⟩
          have d1 := as.d1
          cases mo with
          | none =>
            refine iteNo rfl ?_
            refine ⟨_, _, _, _, _, _, here, rfl, as.f, as.g, as.s, gd', dl, st8.nd, fun z => ?_, as.pp.mono (by omega), as.kk⟩
            rw [aft_app, d1, st8.mm]
            simp
          | some m =>
            refine iteYes rfl ?_
            refine ⟨_, rfl, _, rfl, G, _, rfl, .inl (SqL.of as.g), rfl, flat_strs _, _, rfl, ?_⟩
            show (if (!inV (.str m) (here.map V.str)) = true then _ else _)
            rw [inV_strs]
            by_cases hm : m ∈ here
            · refine iteNo (by rw [decide_eq_true hm]; rfl) ?_
              refine ⟨_, _, _, _, _, _, here, rfl, as.f, as.g, as.s, gd', dl, st8.nd, fun z => ?_, as.pp.mono (by omega), as.kk⟩
              rw [aft_app, d1, List.mem_append, ← st8.mm]
              constructor
              · exact fun h => .inl h
              · rintro (h | h)
                · exact h
                · have : z = m := by simpa using h
                  rw [this]
                  exact hm
            · refine iteYes (by rw [decide_eq_false hm]; rfl) ?_
              refine ⟨_, rfl, .inl ⟨rfl, _, SqL.of as.g⟩, _, rfl, G, _, _, rfl, rfl, as.g, by rw [List.length_map]; omega, _, _, _, _, _, _, here ++ [m], rfl, by rw [upd_ne nFG]; exact as.f, by rw [upd_same, List.map_append]; rfl, by rw [zn_upd (by simp)]; exact as.s, gd', dl, ?_, fun z => ?_, (as.pp.upd nGp.1.symm nGp.2.symm).mono (by omega), fun b o q h1 h2 => ?_⟩
              · exact List.nodup_append.mpr ⟨st8.nd, by simp, fun a ha b hb e => hm (by have : b = m := (by simpa using hb); rw [← this, ← e]; exact ha)⟩
              · rw [aft_app, d1, List.mem_append, List.mem_append, ← st8.mm]
                simp
              · rw [upd_ne (ne_of_none q nGH)]
                exact as.kk b o q h1 h2
    · rintro σ H4 ⟨x6, x7, x8, x9, xs, ds, here, rfl, st⟩
      refine ⟨_, rfl, _, rfl, (by show 2 ≤ sizeLine; decide), fun T' nT => ?_⟩
      have eT : Ext H4 (upd H4 T' (.tup [.ref F', .ref G])) := Ext.upd nT
      have nTH := keep_free st.kk st.pp nT
      have zs : Ext (Zn F' G H H4) (nw H (upd H4 T' (.tup [.ref F', .ref G]))) := fun b o q => by
        obtain ⟨h1, h2⟩ := hid_some q
        obtain ⟨h3, h4'⟩ := nw_some h2
        rw [nw_at h3]
        exact eT _ _ h4'
      exact k T' F' G xs ds here _ nTH nF nGH (hp.ne nTH).1.symm (hp.ne nTH).2.symm nFp.1 nFp.2 nGp.1 nGp.2 upd_same (eT _ _ st.f) (st.s.ext zs) (eT _ _ st.g) st.d (by have := st.l; omega) st.nd st.mm ((st.pp.ext eT).mono (by omega)) (st.kk.trans (Keep.ext eT))
end
end K33
end
section
set_option Elab.async false
set_option autoImplicit false
set_option linter.all false
set_option maxRecDepth 100000
set_option maxHeartbeats 4000000
set_option pp.maxSteps 1500
namespace K33
open PySem PySem.Spec PyProof.Rows L2 Ls
open C8 (pss_cut tCut)
open TL
/-! ### a drawn site -/
theorem merge_ag : ∀ {ag pre : List (Str × Int)}, ((pre ++ ag).map (·.1)).Nodup → mergeK (agK pre) (agK ag) = agK (pre ++ ag)
  | [], pre, _ => by rw [List.append_nil]; rfl
  | x :: r, pre, h => by
    have h1 : x.1 ∉ pre.map (·.1) := fun hm => by
      rw [List.map_append] at h
      exact (List.nodup_append.mp h).2.2 _ hm x.1 (by simp) rfl
    have e1 : putK (agK pre) (Sum.inr x.1) (V.int x.2) = agK (pre ++ [x]) := by
      rw [putK_new _ (agK_no h1)]
      unfold agK
      rw [List.map_append]
      rfl
    have ih := merge_ag (ag := r) (pre := pre ++ [x]) (by rw [List.append_assoc]; exact h)
    rw [List.append_assoc] at ih
    rw [show pre ++ x :: r = pre ++ ([x] ++ r) from rfl, ← ih, ← e1]
    rfl
theorem merge_ag0 {ag : List (Str × Int)} (h : (ag.map (·.1)).Nodup) : mergeK [] (agK ag) = agK ag := merge_ag (pre := []) h
def s8 (g q l b s e a r : V) : List (Key × V) := [(Sum.inr "given", g), (Sum.inr "again", q), (Sum.inr "loop", l), (Sum.inr "between", b), (Sum.inr "second", s), (Sum.inr "behind", e), (Sum.inr "ahead", a), (Sum.inr "results", r)]
def s7 (g q l b s e a : V) : List (Key × V) := [(Sum.inr "given", g), (Sum.inr "again", q), (Sum.inr "loop", l), (Sum.inr "between", b), (Sum.inr "second", s), (Sum.inr "behind", e), (Sum.inr "ahead", a)]
def s6 (g q l b s e : V) : List (Key × V) := [(Sum.inr "given", g), (Sum.inr "again", q), (Sum.inr "loop", l), (Sum.inr "between", b), (Sum.inr "second", s), (Sum.inr "behind", e)]
def s5 (g q l b s : V) : List (Key × V) := [(Sum.inr "given", g), (Sum.inr "again", q), (Sum.inr "loop", l), (Sum.inr "between", b), (Sum.inr "second", s)]
/-- a list of drawn deeds, or None -/
def PLst (H : Hp) (v : V) : Option (List Dd) → Prop
  | none => v = .non
  | some ds => ∃ l xs, v = .ref l ∧ H l = some (.lst xs) ∧ SdsAt H xs ds
theorem PLst.ext {H H' : Hp} {v : V} {o : Option (List Dd)} (h : PLst H v o) (e : Ext H H') : PLst H' v o := by
  cases o with
  | none => exact h
  | some ds =>
    obtain ⟨l, xs, h1, h2, h3⟩ := h
    exact ⟨l, xs, h1, e _ _ h2, h3.ext e⟩
/-- a site, as data: the arguments of a program -/
structure StAt (H : Hp) (a : Addr) (s : Pr) : Prop where
  ex : ∃ g q l b sd e ah r, H a = some (.dK (s8 (.ref g) (.ref q) l b sd e ah (.ref r))) ∧ H g = some (.lst (s.gv.map V.str)) ∧ H q = some (.dK (agK s.ag)) ∧ PLst H l s.lp ∧ PLst H b (some s.bt) ∧ PLst H sd s.sd ∧ PLst H e (some s.bh) ∧ PLst H ah (some s.ah) ∧ H r = some (.lst (s.rs.map V.str))
theorem StAt.ext {H H' : Hp} {a : Addr} {s : Pr} (h : StAt H a s) (x : Ext H H') : StAt H' a s :=
  let ⟨g, q, l, b, sd, e, ah, r, h1, h2, h3, h4, h5, h6, h7, h8, h9⟩ := h.ex
  ⟨⟨g, q, l, b, sd, e, ah, r, x _ _ h1, x _ _ h2, x _ _ h3, h4.ext x, h5.ext x, h6.ext x, h7.ext x, h8.ext x, x _ _ h9⟩⟩
theorem nw_keep {p c : Addr} {H H1 H2 : Hp} {n : Nat} (hp : PenAt H p c n) (k : Keep p c H1 H2) : Ext (nw H H1) (nw H H2) := fun b o q => by
  obtain ⟨h3, h4⟩ := nw_some q
  obtain ⟨n1, n2⟩ := hp.ne h3
  rw [nw_at h3]
  exact k b o h4 n1.symm n2.symm
theorem zn_new {p c S : Addr} {H Hc H' : Hp} {n : Nat} {o : HO} (kk : Keep p c H Hc) (hp : PenAt Hc p c n) (hS : Hc S = some o) : Ext (nw Hc H') (Zn S S H H') := fun b u q => by
  obtain ⟨h1, h2⟩ := nw_some q
  have nS : b ≠ S := (ne_of_none hS h1).symm
  exact zn_at (keep_free kk hp h1) nS nS h2
theorem zn_in {S : Addr} {H H1 : Hp} {o : HO} (nS : H1 S = none) : Ext (nw H H1) (Zn S S H (upd H1 S o)) := fun b u q => by
  obtain ⟨h1, h2⟩ := nw_some q
  have n := ne_of_none h2 nS
  exact zn_at h1 n n (by rw [upd_ne n]; exact h2)
theorem zn_out {S b : Addr} {H H1 : Hp} {o : HO} (h : Zn S S H H1 b = some o) : H1 b = some o ∧ b ≠ S ∧ H b = none := by
  obtain ⟨h1, h2⟩ := hid_some h
  obtain ⟨h3, h4⟩ := nw_some h2
  exact ⟨h4, by simpa using h1, h3⟩
theorem paired_mono {α β : Type} {F G : α → β → Prop} (h : ∀ a b, F a b → G a b) : ∀ {l : List α} {m : List β}, Paired F l m → Paired G l m
  | _, _, .nil => .nil
  | _, _, .cons x r => .cons (h _ _ x) (paired_mono h r)
theorem paired_map {α β γ : Type} {F : α → γ → Prop} {f : β → γ} : ∀ {l : List α} {m : List β}, Paired (fun a b => F a (f b)) l m → Paired F l (m.map f)
  | _, _, .nil => .nil
  | _, _, .cons x r => .cons x (paired_map r)
/-- items that are drawn out of a list of texts -/
theorem lc_drawn {J : It} {G : Hp → Prop} {g : TG} {tt : TT} {te : TE} {vs : List Nat} {σ : L2.St} {H1 : Hp} {D p c W : Addr} {m : Nat} {Qd : Hp → Prop} {us : List Str} (w : Walk J (us.map V.str).length G (YAt (us.map V.str))) (hu : us.length ≤ 100) (hp : PenAt H1 p c m) (hD : H1 D = none) (hW : H1 W = some (.lst (us.map V.str))) (nWp : W ≠ p) (nWc : W ≠ c)
    (hG : ∀ H, H W = some (.lst (us.map V.str)) → G H)
    (hs : ∀ (i : Nat) (z : Str) (H : Hp) (C : VK) (N : Hp → Prop), us[i]? = some z → i < us.length → PenAt H p c (m + i) → (∀ H', PenAt H' p c (m + i + 1) → Keep p c H H' → C (.str z) H') → (∀ H', PenAt H' p c (m + i + 1) → Keep p c H H' → N H') →
      g (.str z) (wipe σ vs) H fun σ2 H2 => wipe σ2 vs = wipe σ vs ∧ tt σ2 H2 fun b H3 => if b = true then te σ2 H3 C else N H3)
    (hd : ∀ (acc : List Str) (H : Hp), acc.Sublist us → H D = some (.lst (acc.map V.str)) → PenAt H p c (m + us.length) → Keep p c H1 H → Qd H) :
    ∃ W : Nat → Nat → Hp → Prop, (∃ m, W 0 m (upd H1 D (.lst []))) ∧ ∀ i m H, W i m H →
      (J.stop i H ∧ Qd H) ∨ (J.go i H ∧ ∃ Nx : Hp → Prop, (∀ H', Nx H' → ∃ m', m' < m ∧ W (i + 1) m' H') ∧ ∀ x H', J.yld i H x H' → g x (wipe σ vs) H' fun σ2 H2 => wipe σ2 vs = wipe σ vs ∧ tt σ2 H2 fun b H3 =>
        if b = true then te σ2 H3 fun y H4 => ∃ acc, H4 D = some (.lst acc) ∧ acc.length < sizeLine ∧ Nx (upd H4 D (.lst (acc ++ [y]))) else Nx H3) := by
  have h4 : sizeLine = 16777216 := sizeLine_eq
  obtain ⟨npD, ncD⟩ := hp.ne hD
  have lu : (us.map V.str).length = us.length := List.length_map _
  refine lc_it w (fun i H => ∃ acc : List Str, acc.Sublist (us.take i) ∧ H D = some (.lst (acc.map V.str)) ∧ PenAt H p c (m + i) ∧ Keep p c H1 H) ⟨[], List.nil_sublist _, upd_same, hp.upd npD ncD, Keep.new hD⟩ (fun i H _ ⟨_, _, _, _, kk⟩ => hG H (kk _ _ hW nWp nWc)) ?_ ?_
  · rintro i x _ H hi ⟨acc, sl, hDa, hpa, kk⟩ ⟨rfl, hx⟩
    rw [List.getElem?_map] at hx
    obtain ⟨z, hz, rfl⟩ := Option.map_eq_some_iff.mp hx
    have tk : us.take (i + 1) = us.take i ++ [z] := by rw [List.take_add_one, hz]; rfl
    have la := sl.length_le
    rw [List.length_take] at la
    refine hs i z H _ _ hz (by omega) hpa (fun H' hp' k' => ?_) fun H' hp' k' => ?_
    · have hD' := k' _ _ hDa npD.symm ncD.symm
      refine ⟨_, hD', by rw [List.length_map]; omega, acc ++ [z], ?_, by rw [upd_same, List.map_append]; rfl, hp'.upd npD ncD, fun b o q h1 h2 => ?_⟩
      · rw [tk]
        exact sl.append (List.Sublist.refl _)
      · rw [upd_ne (ne_of_none q hD)]
        exact k' _ _ (kk b o q h1 h2) h1 h2
    · exact ⟨acc, by rw [tk]; exact sl.trans (List.sublist_append_left _ _), k' _ _ hDa npD.symm ncD.symm, hp', kk.trans k'⟩
  · rintro H ⟨acc, sl, hDa, hpa, kk⟩
    rw [lu, List.take_length] at sl
    rw [lu] at hpa
    exact hd acc H sl hDa hpa kk
/-- what stands while the parts are drawn -/
structure Sg (H H' Hb : Hp) (p c S : Addr) (n m : Nat) (g q : Addr) (lv bv sv ev av : V) (kn : Addr) (lpo : Option (List Dd)) (bt : List Dd) (sdo : Option (List Dd)) (bh : List Dd) (cur : List Str) : Prop where
  f : H' S = some (.dK (s7 (.ref g) (.ref q) lv bv sv ev av))
  x : Ext (Zn S S H Hb) (Zn S S H H')
  l : PLst (Zn S S H H') lv lpo
  b : PLst (Zn S S H H') bv (some bt)
  s : PLst (Zn S S H H') sv sdo
  e : PLst (Zn S S H H') ev (some bh)
  kn : Zn S S H H' kn = some (.lst (cur.map V.str))
  pp : PenAt H' p c (n + m)
  kk : Keep p c H H'
theorem Sg.keep {H H1 H2 Hb : Hp} {p c S : Addr} {n n0 m m' : Nat} {g q : Addr} {lv bv sv ev av : V} {kn : Addr} {lpo : Option (List Dd)} {bt : List Dd} {sdo : Option (List Dd)} {bh : List Dd} {cur : List Str} (hp : PenAt H p c n0) (st : Sg H H1 Hb p c S n m g q lv bv sv ev av kn lpo bt sdo bh cur) (k : Keep p c H1 H2) (nS : S ≠ p ∧ S ≠ c) (hp2 : PenAt H2 p c (n + m')) : Sg H H2 Hb p c S n m' g q lv bv sv ev av kn lpo bt sdo bh cur := by
  have z := zn_keep (F := S) (G := S) hp k
  exact ⟨k _ _ st.f nS.1 nS.2, st.x.trans z, st.l.ext z, st.b.ext z, st.s.ext z, st.e.ext z, z _ _ st.kn, hp2, st.kk.trans k⟩
theorem Sg.put {H H1 Hb : Hp} {p c S : Addr} {n m : Nat} {g q : Addr} {lv bv sv ev av lv' bv' sv' ev' : V} {kn kn' : Addr} {lpo lpo' : Option (List Dd)} {bt bt' : List Dd} {sdo sdo' : Option (List Dd)} {bh bh' : List Dd} {cur cur' : List Str} (st : Sg H H1 Hb p c S n m g q lv bv sv ev av kn lpo bt sdo bh cur) (nSH : H S = none) (nS : S ≠ p ∧ S ≠ c)
    (l' : PLst (Zn S S H H1) lv' lpo') (b' : PLst (Zn S S H H1) bv' (some bt')) (s' : PLst (Zn S S H H1) sv' sdo') (e' : PLst (Zn S S H H1) ev' (some bh')) (k' : Zn S S H H1 kn' = some (.lst (cur'.map V.str))) : Sg H (upd H1 S (.dK (s7 (.ref g) (.ref q) lv' bv' sv' ev' av))) Hb p c S n m g q lv' bv' sv' ev' av kn' lpo' bt' sdo' bh' cur' := by
  have z : Zn S S H (upd H1 S (.dK (s7 (.ref g) (.ref q) lv' bv' sv' ev' av))) = Zn S S H H1 := zn_upd (by simp)
  refine ⟨upd_same, ?_, ?_, ?_, ?_, ?_, ?_, st.pp.upd nS.1.symm nS.2.symm, fun b o q h1 h2 => by rw [upd_ne (ne_of_none q nSH)]; exact st.kk b o q h1 h2⟩
  · rw [z]; exact st.x
  · rw [z]; exact l'
  · rw [z]; exact b'
  · rw [z]; exact s'
  · rw [z]; exact e'
  · rw [z]; exact k'
theorem flat_len : ∀ {ds : List Dd}, (∀ d ∈ ds, Good d) → (ds.map fun d => ascF (dn d)).flatten.length ≤ 4 * ds.length
  | [], _ => Nat.zero_le _
  | d :: r, h => by
    have ih := flat_len (ds := r) fun e he => h e (List.mem_cons_of_mem _ he)
    have h3 := (h d (List.mem_cons_self ..)).le
    have h1 : (ascF (dn d)).length ≤ (dn d).length := nodup_len (ascF_ok _).1 fun z hz => ascF_mem.mp hz
    have h2 : (dn d).length ≤ 4 := by
      unfold dn
      rw [List.length_append]
      have : d.1.toList.length ≤ 1 := by cases d.1 <;> simp
      omega
    rw [List.map_cons, List.flatten_cons, List.length_append, List.length_cons]
    omega
theorem aft_mono {a b : List Str} {ds : List Dd} (h : ∀ z ∈ a, z ∈ b) : ∀ z ∈ aft a ds, z ∈ aft b ds := fun z hz => by
  unfold aft at hz ⊢
  rcases List.mem_append.mp hz with hz | hz
  · exact List.mem_append_left _ (h z hz)
  · exact List.mem_append_right _ hz
theorem aft_in {z : Str} {a : List Str} {ds : List Dd} (h : z ∈ a) : z ∈ aft a ds := List.mem_append_left _ h
/-- a drawn site is a good one -/
theorem site_good {us fs ks c1 c2 c3 : List Str} {s : Pr} (lus : us.length ≤ 6) (usn : ∀ z ∈ us, isName z = true) (gnd : s.gv.Nodup) (gu : ∀ z ∈ s.gv, z ∈ us) (agn : (s.ag.map (·.1)).Nodup) (agu : ∀ z ∈ s.ag.map (·.1), z ∈ us) (pc9 : ∀ x ∈ s.ag, 0 ≤ x.2 ∧ x.2 ≤ 9)
    (fsub : ∀ z ∈ fs, z ∈ us) (fno : ∀ z ∈ fs, z ∉ s.ag.map (·.1)) (ksm : ∀ z, z ∈ ks ↔ z ∈ s.gv ∨ z ∈ s.ag.map (·.1)) (ga : gdDs fs ks s.ah) (la : s.ah.length ≤ 24) (c1m : ∀ z, z ∈ c1 ↔ z ∈ aft ks s.ah) (gl : gdDs fs c1 (s.lp.getD [])) (ll : (s.lp.getD []).length ≤ 24) (gb : gdDs fs c1 s.bt) (lb : s.bt.length ≤ 24)
    (c2m : ∀ z, z ∈ c2 ↔ z ∈ aft c1 s.bt) (gs : gdDs fs c2 (s.sd.getD [])) (ls : (s.sd.getD []).length ≤ 24) (gh : gdDs fs c2 s.bh) (lh : s.bh.length ≤ 24) (c3m : ∀ z, z ∈ c3 ↔ z ∈ aft c2 s.bh) (c3n : c3.Nodup) (rsl : s.rs.Sublist c3)
    (sb : s.bt ≠ [] → s.lp ≠ none ∧ s.sd ≠ none) (ss : s.sd ≠ none → s.lp ≠ none) (sh : s.bh ≠ [] → s.lp ≠ none) : GoodP s ∧ NdOk s.norm us := by
  have eds : ∀ d, d ∈ s.ds ↔ d ∈ s.ah ∨ d ∈ s.lp.getD [] ∨ d ∈ s.bt ∨ d ∈ s.sd.getD [] ∨ d ∈ s.bh := fun d => by simp [Pr.ds, Pr.pts]
  have ku : ∀ z ∈ ks, z ∈ us := fun z hz => ((ksm z).mp hz).elim (gu z) (agu z)
  have c1u : ∀ z ∈ c1, z ∈ us := fun z hz => aft_sub ku (fun d hd m hm => fsub m (gdDs_made ga d hd m hm)) z ((c1m z).mp hz)
  have c2u : ∀ z ∈ c2, z ∈ us := fun z hz => aft_sub c1u (fun d hd m hm => fsub m (gdDs_made gb d hd m hm)) z ((c2m z).mp hz)
  have c3u : ∀ z ∈ c3, z ∈ us := fun z hz => aft_sub c2u (fun d hd m hm => fsub m (gdDs_made gh d hd m hm)) z ((c3m z).mp hz)
  have dg : ∀ d ∈ s.ds, Good d := fun d hd => by
    rcases (eds d).mp hd with h | h | h | h | h
    · exact gdDs_good ga d h
    · exact gdDs_good gl d h
    · exact gdDs_good gb d h
    · exact gdDs_good gs d h
    · exact gdDs_good gh d h
  have du : ∀ d ∈ s.ds, ∀ z ∈ d.2, z ∈ us := fun d hd => by
    rcases (eds d).mp hd with h | h | h | h | h
    · exact gdDs_used fsub ga ku d h
    · exact gdDs_used fsub gl c1u d h
    · exact gdDs_used fsub gb c1u d h
    · exact gdDs_used fsub gs c2u d h
    · exact gdDs_used fsub gh c2u d h
  have dm : ∀ d ∈ s.ds, ∀ m, d.1 = some m → m ∈ us := fun d hd m hm => fsub m (by
    rcases (eds d).mp hd with h | h | h | h | h
    · exact gdDs_made ga d h m hm
    · exact gdDs_made gl d h m hm
    · exact gdDs_made gb d h m hm
    · exact gdDs_made gs d h m hm
    · exact gdDs_made gh d h m hm)
  have ru : ∀ z ∈ s.rs, z ∈ us := fun z hz => c3u z (rsl.subset hz)
  have rnd : s.rs.Nodup := rsl.nodup c3n
  have len : ∀ {l : List Str}, l.Nodup → (∀ z ∈ l, z ∈ us) → l.length ≤ 6 := fun h1 h2 => Nat.le_trans (nodup_len h1 h2) lus
  have l5 := ds_len s
  have k0m : ∀ z, z ∈ s.norm.k0 ↔ z ∈ ks := fun z => by
    show z ∈ ascF s.gv ++ (agF s.ag (ascF (s.ag.map (·.1)))).map (·.1) ↔ _
    rw [agF_keys, List.mem_append, ascF_mem, ascF_mem, ksm]
  have agm : ∀ z, z ∈ s.norm.ags ↔ z ∈ s.ag.map (·.1) := fun z => by
    show z ∈ (agF s.ag (ascF (s.ag.map (·.1)))).map (·.1) ↔ _
    rw [agF_keys, ascF_mem]
  have fno' : ∀ z ∈ fs, z ∉ s.norm.ags := fun z hz h => fno z hz ((agm z).mp h)
  have k1m : ∀ z ∈ c1, z ∈ s.norm.k1 := fun z hz => aft_mono (fun y hy => (k0m y).mpr hy) z ((c1m z).mp hz)
  have k2m : ∀ z ∈ c2, z ∈ s.norm.k2 := fun z hz => aft_mono k1m z ((c2m z).mp hz)
  have nlu : ∀ z ∈ s.norm.nl, z ∈ us := fun z hz => by
    rcases List.mem_append.mp hz with h | h
    · obtain ⟨l, hl, hz⟩ := List.mem_flatten.mp h
      obtain ⟨d, hd, rfl⟩ := List.mem_map.mp hl
      rcases List.mem_append.mp (ascF_mem.mp hz) with h | h
      · exact du d hd z h
      · exact dm d hd z (by cases h1 : d.1 with | none => rw [h1] at h; cases h | some m => rw [h1] at h; have : z = m := (by simpa using h); rw [this])
    · rcases List.mem_append.mp h with h | h
      · exact gu z (ascF_mem.mp h)
      · rcases List.mem_append.mp h with h | h
        · exact agu z ((agm z).mp h)
        · exact ru z (ascF_mem.mp h)
  have nll : s.norm.nl.length ≤ 1000 := by
    have f4 := flat_len dg
    have g4 := len (ascF_ok s.gv).1 (fun z hz => gu z (ascF_mem.mp hz))
    have r4 := len (ascF_ok s.rs).1 (fun z hz => ru z (ascF_mem.mp hz))
    have a4 := len (ascF_ok (s.ag.map (·.1))).1 (fun z hz => agu z (ascF_mem.mp hz))
    show ((s.ds.map fun d => ascF (dn d)).flatten ++ (ascF s.gv ++ ((agF s.ag (ascF (s.ag.map (·.1)))).map (·.1) ++ ascF s.rs))).length ≤ 1000
    rw [agF_keys]
    simp only [List.length_append]
    omega
  have lds : s.ds.length ≤ 1000 := by omega
  refine ⟨⟨dg, ⟨sb, ss, sh, by omega, ll, lb, ls, lh, by omega⟩, fun z hz => usn z (gu z hz), gnd, Nat.le_trans (len gnd gu) (by decide), fun z hz => usn z (ru z hz), rnd, Nat.le_trans (len rnd ru) (by decide), ⟨agn, fun z hz => usn z (agu z hz), pc9, ?_⟩, ?_, len (ascF_ok _).1 (fun z hz => nlu z (ascF_mem.mp hz)), nll⟩, ?_⟩
  · have := len agn agu
    rw [List.length_map] at this
    omega
  · exact ⟨gdDs_ok fno' ga fun z hz => (k0m z).mpr hz, gdDs_ok fno' gl k1m, gdDs_ok fno' gb k1m, gdDs_ok fno' gs k2m, gdDs_ok fno' gh k2m, fun z hz => aft_mono k2m z ((c3m z).mp (rsl.subset (ascF_mem.mp hz)))⟩
  · exact ⟨dg, lds, (ascF_ok _).1, by omega, du, fun z hz => ru z (ascF_mem.mp hz)⟩
section
variable {P : PySem.Program} {w : World} {K : PySem.W.Frag} {mg : Str → Option Value} {base : Heap} {CE CD CU CM CO CP tP : Addr} {tk : Str → Tok}
/-! ### _law_site -/
def spSite : Sp := fun vs H Q _ => ∃ (p c : Addr) (n loops most : Nat), vs = [.ref p, .int loops, .int most] ∧ PenAt H p c n ∧ n < 400000 ∧ loops ≤ 2 ∧ most ≤ 24 ∧
  ∀ (a : Addr) (s : Pr) (us : List Str) (H' : Hp), StAt (nw H H') a s → GoodP s → NdOk s.norm us → s.lp.isSome = decide (0 < loops) → s.sd.isSome = decide (1 < loops) → s.ah.length ≤ most → PenAt H' p c (n + 6000) → Keep p c H H' → Q (.ref a) H'
abbrev s__law_site : Stmt := top 74
abbrev N__law_site : List Str := ["_law_pen_here", "_law_loops", "_law_most", "_law_words", "_law_prices", "_law_word", "_law_known", "_law_free", "_law_site_here"]
theorem sc__law_site : FnScope N__law_site ["_law_pen_here", "_law_loops", "_law_most"] (defScope s__law_site) := ⟨rfl, rfl, rfl, by decide +kernel, rfl, by decide +kernel, by decide +kernel⟩
theorem ok_site {f : Addr} {fd : FuncData} (F : Fun K "_law_site" "_law_site" s__law_site f fd) (T : Tx K mg CE CD CU CM CO CP tP tk) (c__law_draw : Cal P w K mg base CX0 1 "_law_draw" spDraw) (c__law_names : Cal P w K mg base CX0 3 "_law_names" spLNames) (c__law_deeds : Cal P w K mg base CX0 4 "_law_deeds" spLDeeds) :
    FnOk P w K mg base CX0 5 f fd ["_law_pen_here", "_law_loops", "_law_most"] spSite := by
  refine F.ok sc__law_site (fun vs H Q E h => ?_) (fun cdv A outer s H vs Q E hr h => ?_)
  · obtain ⟨p, c, n, loops, most, rfl, _⟩ := h
    rfl
  · obtain ⟨p, c, n, loops, most, rfl, hp, hn, hloops, hmost, k⟩ := h
    have h4 : sizeLine = 16777216 := sizeLine_eq
    have hu := hu_of hr
    refine ⟨_, (pss_cons (ps_set (i := 3) sc__law_site.nd rfl (by first | exact Or.inl rfl | exact Or.inr rfl) (pe_cal c__law_names (hr.mono (by decide)) (by rfl) pass0 (pa_cons (pv 0) (pa_cons (pe_op op_add pe_int (pe_cal c__law_draw (hr.mono (by decide)) (by rfl) pass0 (pa_cons (pv 0) (pa_cons pe_int pa_nil)))) pa_nil))))
      (pss_cons (ps_set (i := 4) sc__law_site.nd rfl (by first | exact Or.inl rfl | exact Or.inr rfl) (pe_callTy (call_dictP rfl) (by rfl) (T.bn _ (by decide +kernel)) (by decide +kernel) (pa_cons (pe_lc (own := [("_law_word", 5)]) rfl sc__law_site.nd (pi_list (pe_slice sl_list (pv 3) (po_some pe_int) po_none)) (blkOk_by (own := [("_law_word", 5)]) (N := N__law_site) (sc := defScope s__law_site) (by decide +kernel)) (fun _ _ _ _ _ => (pg_name (i := 5) sc__law_site.nd rfl (by first | exact Or.inl rfl | exact Or.inr rfl))) (fun _ _ _ _ _ => pts_one (pt_cmpR op_eq (pe_cal c__law_draw (hr.mono (by decide)) (by rfl) pass0 (pa_cons (pv 0) (pa_cons pe_int pa_nil))) pe_int (nomark _))) (fun _ _ _ _ _ => (pe_tup (pa_cons (pv 5) (pa_cons (pe_cal c__law_draw (hr.mono (by decide)) (by rfl) pass0 (pa_cons (pv 0) (pa_cons pe_int pa_nil))) pa_nil))))) pa_nil)))
      (pss_cons (ps_set (i := 6) sc__law_site.nd rfl (by first | exact Or.inl rfl | exact Or.inr rfl) (pe_lc (own := [("_law_word", 5)]) rfl sc__law_site.nd (pi_list (pv 3)) (blkOk_by (own := [("_law_word", 5)]) (N := N__law_site) (sc := defScope s__law_site) (by decide +kernel)) (fun _ _ _ _ _ => (pg_name (i := 5) sc__law_site.nd rfl (by first | exact Or.inl rfl | exact Or.inr rfl))) (fun _ _ _ _ _ => pts_one (pt_cmpR op_gt (pe_cal c__law_draw (hr.mono (by decide)) (by rfl) pass0 (pa_cons (pv 0) (pa_cons pe_int pa_nil))) pe_int (nomark _))) (fun _ _ _ _ _ => (pv 5))))
      (pss_cut (ps_if ((pw_and (pt_cmpR (op_eqNil hr) (pv 6) (pe_lst pa_nil) (nomark _)) (pw_and1 (pt_cmpR op_eq (pe_callB call_lenD (by rfl) (T.bn _ (by decide +kernel)) (by decide +kernel) (pa_cons (pv 4) pa_nil)) pe_int (nomark _))))).pt (pss_one (ps_set (i := 6) sc__law_site.nd rfl (by first | exact Or.inl rfl | exact Or.inr rfl) (pe_slice sl_list (pv 3) po_none (po_some pe_int)))) pss_nil)
      (pss_cons (ps_setLc (i := 7) (own := [("_law_word", 5)]) rfl sc__law_site.nd rfl rfl (sw_true rfl rfl rfl (by decide +kernel)) (pi_list (pv 3)) (blkOk_by (own := [("_law_word", 5)]) (N := N__law_site) (sc := defScope s__law_site) (by decide +kernel)) (fun _ _ _ _ _ => (pg_name (i := 5) sc__law_site.nd rfl (by first | exact Or.inl rfl | exact Or.inr rfl))) (fun _ _ _ _ _ => pts_one (pt_cmpR (op_notInD hu) (pv 5) (pv 4) rfl)) (fun _ _ _ _ _ => (pv 5)))
      (pss_cons (ps_set (i := 8) sc__law_site.nd rfl (by first | exact Or.inl rfl | exact Or.inr rfl) (pe_disp (pps_cons pe_str (pv 6) (pps_cons pe_str (pv 4) (pps_cons pe_str pe_non (pps_cons pe_str (pe_lst pa_nil) (pps_cons pe_str pe_non pps_nil))))) (by rfl) (by rfl) (fun z => by cases z) (by decide)))
      (pss_cons (ps_dput hu (pv 8) pe_str (pe_lst pa_nil) rfl)
      (pss_cons (ps_set (i := 6) sc__law_site.nd rfl (by first | exact Or.inl rfl | exact Or.inr rfl) (pe_op op_cat (pv 6) (pe_lc (own := [("_law_word", 5)]) rfl sc__law_site.nd (pi_list (pv 3)) (blkOk_by (own := [("_law_word", 5)]) (N := N__law_site) (sc := defScope s__law_site) (by decide +kernel)) (fun _ _ _ _ _ => (pg_name (i := 5) sc__law_site.nd rfl (by first | exact Or.inl rfl | exact Or.inr rfl))) (fun _ _ _ _ _ => pts_one ((pw_and (pt_cmpR (op_inD hu) (pv 5) (pv 4) rfl) (pw_and1 (pt_cmpR (op_notIn_seqK (K := K) rfl) (pv 5) (pv 6) rfl)))).pt) (fun _ _ _ _ _ => (pv 5)))))
      (pss_cons (ps_asg (pe_cal c__law_deeds (hr.mono (by decide)) (by rfl) pass0 (pa_cons (pv 0) (pa_cons (pv 6) (pa_cons (pv 7) (pa_cons (pv 2) pa_nil))))) (pg_tup rfl (pgs_cons (pg_sub (pv 8) pe_str (set_dict hu)) (pgs_cons (pg_name (i := 6) sc__law_site.nd rfl (by first | exact Or.inl rfl | exact Or.inr rfl)) pgs_nil))))
      (pss_cut (ps_if (pt_cmpR op_gt (pv 1) pe_int (nomark _)) (pss_one (ps_dput hu (pv 8) pe_str (pe_ix ix_tup (pe_cal c__law_deeds (hr.mono (by decide)) (by rfl) pass0 (pa_cons (pv 0) (pa_cons (pv 6) (pa_cons (pv 7) (pa_cons (pv 2) pa_nil))))) pe_int (fun _ _ => rfl)) rfl)) pss_nil)
      (pss_cut (ps_if (pt_cmpR op_gt (pv 1) pe_int (nomark _)) (pss_cons (ps_asg (pe_cal c__law_deeds (hr.mono (by decide)) (by rfl) pass0 (pa_cons (pv 0) (pa_cons (pv 6) (pa_cons (pv 7) (pa_cons (pv 2) pa_nil))))) (pg_tup rfl (pgs_cons (pg_sub (pv 8) pe_str (set_dict hu)) (pgs_cons (pg_name (i := 6) sc__law_site.nd rfl (by first | exact Or.inl rfl | exact Or.inr rfl)) pgs_nil))))
      (pss_one (ps_dput hu (pv 8) pe_str (pe_ix ix_tup (pe_cal c__law_deeds (hr.mono (by decide)) (by rfl) pass0 (pa_cons (pv 0) (pa_cons (pv 6) (pa_cons (pv 7) (pa_cons (pv 2) pa_nil))))) pe_int (fun _ _ => rfl)) rfl))) pss_nil)
      (pss_cut (ps_if (pt_cmpR op_gt (pv 1) pe_int (nomark _)) (pss_one (ps_asg (pe_cal c__law_deeds (hr.mono (by decide)) (by rfl) pass0 (pa_cons (pv 0) (pa_cons (pv 6) (pa_cons (pv 7) (pa_cons (pv 2) pa_nil))))) (pg_tup rfl (pgs_cons (pg_sub (pv 8) pe_str (set_dict hu)) (pgs_cons (pg_name (i := 6) sc__law_site.nd rfl (by first | exact Or.inl rfl | exact Or.inr rfl)) pgs_nil))))) pss_nil)
      (pss_cons (ps_dput hu (pv 8) pe_str (pe_lc (own := [("_law_word", 5)]) rfl sc__law_site.nd (pi_list (pv 6)) (blkOk_by (own := [("_law_word", 5)]) (N := N__law_site) (sc := defScope s__law_site) (by decide +kernel)) (fun _ _ _ _ _ => (pg_name (i := 5) sc__law_site.nd rfl (by first | exact Or.inl rfl | exact Or.inr rfl))) (fun _ _ _ _ _ => pts_one (pt_cmpR op_eq (pe_cal c__law_draw (hr.mono (by decide)) (by rfl) pass0 (pa_cons (pv 0) (pa_cons pe_int pa_nil))) pe_int (nomark _))) (fun _ _ _ _ _ => (pv 5))) rfl)
      (pss_one (ps_ret (pv 8)))))))))))))))), ?_⟩
    refine ⟨_, rfl, _, rfl, p, c, n, 6, rfl, hp, by omega, by decide, by decide, fun j H1 j0 j1 hp1 kp1 => ?_⟩
    obtain ⟨jn, rfl⟩ : ∃ jn : Nat, j = jn := ⟨j.toNat, by omega⟩
    refine ⟨_, _, rfl, rfl, p, c, n + 1, 1 + jn, by simp, by omega, by omega, hp1, by omega, fun W us H2 nW nWp nWc hW und usn ulen hp2 kp2 => ?_⟩
    have k02 := kp1.trans kp2
    have nWH : H W = none := keep_free kp1 hp1 nW
    have lus : us.length ≤ 6 := by omega
    have lus1 : 1 ≤ us.length := by omega
    -- the prices
    refine ⟨_, rfl, (1 : Int), rfl, W, _, rfl, SqL.of hW, fun W2 nW2 => ?_⟩
    rw [cutM_from us (show (0 : Int) ≤ 1 by decide), show (1 : Int).toNat = 1 from rfl]
    have e3 : Ext H2 (upd H2 W2 (.lst ((us.drop 1).map V.str))) := Ext.upd nW2
    have f3 : (upd H2 W2 (.lst ((us.drop 1).map V.str))) W2 = some (.lst ((us.drop 1).map V.str)) := upd_same
    generalize (upd H2 W2 (.lst ((us.drop 1).map V.str))) = H3 at e3 f3
    have k03 : Keep p c H H3 := k02.trans (Keep.ext e3)
    have hp3 := hp2.ext e3
    have nW2pc : W2 ≠ p ∧ W2 ≠ c := ⟨(hp2.ne nW2).1.symm, (hp2.ne nW2).2.symm⟩
    have W3 : nw H H3 W = some (.lst (us.map V.str)) := by rw [nw_at nWH]; exact e3 _ _ hW
    refine ⟨W2, rfl, ⟨_, SqL.of f3⟩, fun D hD => ?_⟩
    have hDH : H D = none := keep_free k03 hp3 hD
    obtain ⟨npD, ncD⟩ := hp3.ne hD
    have ld : ((us.drop 1).map V.str).length = us.length - 1 := by rw [List.length_map, List.length_drop]
    refine lc_it (walk_list (K := K) (xs := (us.drop 1).map V.str)) (fun i H' => ∃ (ps : List Addr) (ag : List (Str × Int)), H' D = some (.lst (ps.map V.ref)) ∧ Paired (fun b x => nw H H' b = some (.tup [.str x.1, .int x.2])) ps ag ∧ (ag.map (·.1)).Sublist ((us.drop 1).take i) ∧ (∀ x ∈ ag, 0 ≤ x.2 ∧ x.2 ≤ 9) ∧ H' W2 = some (.lst ((us.drop 1).map V.str)) ∧ PenAt H' p c (n + 31 + 2 * i) ∧ Keep p c H3 H') ?_ (fun i H' _ ⟨_, _, _, _, _, _, e, _⟩ => SqL.of e) ?_ ?_
    · exact ⟨[], [], upd_same, .nil, List.nil_sublist _, (fun x h => by cases h), by rw [upd_ne (ne_of_none f3 hD)]; exact f3, (hp3.upd npD ncD).mono (by omega), Keep.new hD⟩
    · rintro i x _ H4 hi ⟨ps, ag, fD, pr, sl, pc9, fW2, hp4, k34⟩ ⟨rfl, hx⟩
      rw [ld] at hi
      rw [List.getElem?_map] at hx
      obtain ⟨z, hz, rfl⟩ := Option.map_eq_some_iff.mp hx
      have tk : (us.drop 1).take (i + 1) = (us.drop 1).take i ++ [z] := by rw [List.take_add_one, hz]; rfl
      refine ⟨rfl, _, rfl, p, c, _, 5, rfl, hp4, by omega, by decide, by decide, fun v H5 v0 v1 hp5 kp5 => ⟨rfl, _, rfl, ?_⟩⟩
      have k35 := k34.trans kp5
      by_cases hv : v = 0
      · subst hv
        refine iteYes (decide_eq_true rfl) ?_
        refine ⟨_, rfl, _, rfl, p, c, _, 10, rfl, hp5, by omega, by decide, by decide, fun y H6 y0 y1 hp6 kp6 => ⟨(by show 2 ≤ sizeLine; decide), fun T' nT => ?_⟩⟩
        have k36 := k35.trans kp6
        have fD6 := kp6 _ _ (kp5 _ _ fD npD.symm ncD.symm) npD.symm ncD.symm
        have eT : Ext H6 (upd H6 T' (.tup [.str z, .int y])) := Ext.upd nT
        have fT : (upd H6 T' (.tup [.str z, .int y])) T' = some (.tup [.str z, .int y]) := upd_same
        generalize (upd H6 T' (.tup [.str z, .int y])) = H7 at eT fT
        have k37 := k36.trans (Keep.ext eT)
        have nTH : H T' = none := keep_free (k03.trans k36) hp6 nT
        have lps : ps.length = ag.length := pr.length
        have lag : ag.length ≤ i := by
          have := sl.length_le
          rw [List.length_map, List.length_take] at this
          omega
        have up : ∀ {b : Addr} {xs : List V}, nw H H7 b = some (.tup xs) → nw H (upd H7 D (.lst (ps.map V.ref ++ [.ref T']))) b = some (.tup xs) := fun {b xs} q => by
          obtain ⟨h1, h2⟩ := nw_some q
          have nb : b ≠ D := ne_of h2 (eT _ _ fD6) (by intro z; cases z)
          rw [nw_at h1, upd_ne nb]
          exact h2
        refine ⟨_, eT _ _ fD6, by rw [List.length_map]; omega, ps ++ [T'], ag ++ [(z, y)], by rw [upd_same, List.map_append]; rfl, Paired.snoc (paired_mono (fun b x q => up (nw_keep hp ((kp5.trans kp6).trans (Keep.ext eT)) _ _ q)) pr) (up (by rw [nw_at nTH]; exact fT)), ?_, ?_, by rw [upd_ne (ne_of_none f3 hD)]; exact eT _ _ (kp6 _ _ (kp5 _ _ fW2 nW2pc.1 nW2pc.2) nW2pc.1 nW2pc.2), ((hp6.ext eT).upd npD ncD).mono (by omega), fun b o q h1 h2 => ?_⟩
        · rw [tk, List.map_append]
          exact sl.append (List.Sublist.refl _)
        · intro x hx
          rcases List.mem_append.mp hx with hx | hx
          · exact pc9 x hx
          · have : x = (z, y) := by simpa using hx
            subst this
            exact ⟨y0, by show y ≤ 9; omega⟩
        · rw [upd_ne (ne_of_none q hD)]
          exact k37 b o q h1 h2
      · refine iteNo (decide_eq_false fun q => hv (V.int.inj q)) ?_
        exact ⟨ps, ag, kp5 _ _ fD npD.symm ncD.symm, paired_mono (fun b x q => nw_keep hp kp5 _ _ q) pr, by rw [tk]; exact sl.trans (List.sublist_append_left _ _), pc9, kp5 _ _ fW2 nW2pc.1 nW2pc.2, hp5.mono (by omega), k35⟩
    rintro H4 ⟨ps, ag, fD, pr, sl, pc9, fW2, hp4, k34⟩
    rw [ld] at sl hp4
    have sl1 : (ag.map (·.1)).Sublist us := (sl.trans (List.take_sublist _ _)).trans (List.drop_sublist _ _)
    have agn : (ag.map (·.1)).Nodup := sl1.nodup und
    have k04 := k03.trans k34
    refine ⟨D, ps, agK ag, rfl, SqL.of fD, paired_map (paired_mono (fun b x q => SqT.of (nw_some q).2) pr), fun q nq => ?_⟩
    rw [merge_ag0 agn]
    clear pr fD fW2
    have W4 : nw H H4 W = some (.lst (us.map V.str)) := nw_keep hp k34 _ _ W3
    have e5 : Ext H4 (upd H4 q (.dK (agK ag))) := Ext.upd nq
    have f5 : (upd H4 q (.dK (agK ag))) q = some (.dK (agK ag)) := upd_same
    have hp5 := hp4.ext e5
    have k05 := k04.trans (Keep.ext e5)
    have W5 := nw_keep hp (Keep.ext e5) _ _ W4
    have nqH : H q = none := keep_free k04 hp4 nq
    generalize (upd H4 q (.dK (agK ag))) = H5 at e5 f5 hp5 k05 W5
    have q5 : nw H H5 q = some (.dK (agK ag)) := by rw [nw_at nqH]; exact f5
    clear f3 W3 W4 hD
    -- the given names
    refine ⟨_, rfl, W, rfl, ⟨_, SqL.of (nw_some W5).2⟩, fun D2 hD2 => ?_⟩
    refine lc_drawn (us := us) (walk_list (K := K) (xs := us.map V.str)) (by omega) hp5 hD2 (nw_some W5).2 nWp nWc (fun H' h => SqL.of h) (fun i z H' C N hz hi hpi hC hN => ?_) (fun ks0 H6 sl0 fK hp6 k56 => ?_)
    · refine ⟨rfl, _, rfl, p, c, _, 3, rfl, hpi, by omega, by decide, by decide, fun v H8 v0 v1 hp8 kp8 => ⟨_, _, rfl, rfl, _, rfl, ?_⟩⟩
      by_cases hv : 0 < v
      · exact iteYes (decide_eq_true hv) ⟨_, rfl, hC H8 hp8 kp8⟩
      · exact iteNo (decide_eq_false hv) (hN H8 hp8 kp8)
    have hD2H : H D2 = none := keep_free k05 hp5 hD2
    have k06 := k05.trans k56
    have W6 := nw_keep hp k56 _ _ W5
    have q6 := nw_keep hp k56 _ _ q5
    have K6 : nw H H6 D2 = some (.lst (ks0.map V.str)) := by rw [nw_at hD2H]; exact fK
    refine ⟨fun σ' H' => ∃ (g : Addr) (gs : List Str) (y5 : Option V), σ' = [some (.ref p), some (.int loops), some (.int most), some (.ref W), some (.ref q), y5, some (.ref g), none, none] ∧ nw H H' g = some (.lst (gs.map V.str)) ∧ gs.Sublist us ∧ (gs ≠ [] ∨ ag ≠ []) ∧ PenAt H' p c (n + 100) ∧ Keep p c H6 H', ?_, ?_⟩
    · refine ⟨_, rfl, (by show 0 ≤ sizeLine; decide), fun e ne => ⟨D2, e, _, rfl, rfl, (Ext.upd ne) _ _ fK, upd_same, _, rfl, ?_⟩⟩
      have e7 : Ext H6 (upd H6 e (.lst [])) := Ext.upd ne
      generalize (upd H6 e (.lst [])) = H7 at e7
      by_cases h0 : ks0 = []
      · refine iteYes (by rw [h0]; rfl) ?_
        refine ⟨_, rfl, q, _, rfl, e7 _ _ (nw_some q6).2, rfl, _, rfl, ?_⟩
        by_cases h1 : ag = []
        · refine iteYes (by rw [h1]; rfl) ?_
          refine ⟨_, rfl, 1, rfl, W, _, rfl, SqL.of (e7 _ _ (nw_some W6).2), fun g ng => ?_⟩
          rw [cutM_to us (show (0 : Int) ≤ 1 by decide), show (1 : Int).toNat = 1 from rfl]
          have ngH : H g = none := keep_free (k06.trans (Keep.ext e7)) (hp6.ext e7) ng
          refine ⟨g, us.take 1, _, rfl, by rw [nw_at ngH]; exact upd_same, List.take_sublist _ _, .inl fun h => ?_, ((hp6.ext e7).ext (Ext.upd ng)).mono (by omega), (Keep.ext e7).trans (Keep.new ng)⟩
          have := congrArg List.length h
          rw [List.length_take, List.length_nil] at this
          omega
        · refine iteNo (decide_eq_false fun e => h1 (List.eq_nil_of_length_eq_zero (by have := V.int.inj e; rw [agK_len] at this; omega))) ?_
          exact ⟨D2, ks0, _, rfl, nw_keep hp (Keep.ext e7) _ _ K6, sl0, .inr h1, (hp6.ext e7).mono (by omega), Keep.ext e7⟩
      · refine iteNo (by cases ks0 with | nil => exact absurd rfl h0 | cons a b => rfl) ?_
        exact ⟨D2, ks0, _, rfl, nw_keep hp (Keep.ext e7) _ _ K6, sl0, .inl h0, (hp6.ext e7).mono (by omega), Keep.ext e7⟩
    rintro σ' H7 ⟨g, gs, y5, rfl, g7, gsl, gne, hp7, k67⟩
    have k07 := k06.trans k67
    have W7 := nw_keep hp k67 _ _ W6
    have q7 := nw_keep hp k67 _ _ q6
    have gnd : gs.Nodup := gsl.nodup und
    have lgs : gs.length ≤ 6 := Nat.le_trans gsl.length_le lus
    clear fK K6 k56 k67 hp6 W6 q6 W5 q5 e5 f5 hp5 k34 hp4
    -- the free names
    refine ⟨_, rfl, W, rfl, ⟨_, SqL.of (nw_some W7).2⟩, fun fr hfr => ?_⟩
    refine lc_strs (walk_list (K := K) (xs := us.map V.str)) (fun z => if z ∉ ag.map (·.1) then some (.str z) else none) (by omega) (fun l => (SqL.of (nw_some W7).2).ext (Ext.upd hfr)) (fun i z l C N hz hC hN => ?_) ?_
    · have q8 := (Ext.upd (o := HO.lst l) hfr) _ _ (nw_some q7).2
      have gt : DGet (upd H7 fr (.lst l)) q (.str z) (valV (agK ag) (Sum.inr z)) := DGet.k (k := Sum.inr z) q8
      refine ⟨rfl, _, rfl, _, rfl, q, _, rfl, gt, _, rfl, ?_⟩
      by_cases hz' : z ∈ ag.map (·.1)
      · obtain ⟨x, hx, rfl⟩ := List.mem_map.mp hz'
        refine iteNo ?_ (hN (if_neg fun h => h hz'))
        show (!(valV (agK ag) (Sum.inr x.1)).isSome) = false
        rw [agK_get (n := x.2) agn hx]
        rfl
      · refine iteYes ?_ ⟨_, rfl, hC _ (if_pos hz')⟩
        show (!(valV (agK ag) (Sum.inr z)).isSome) = true
        rw [agK_no hz']
        rfl
    rw [fm_if (fun z => z ∉ ag.map (·.1)) V.str]
    generalize hfs : (us.filter fun z => decide (z ∉ ag.map (·.1))) = fs
    have fsub : ∀ z ∈ fs, z ∈ us := fun z hz => by
      rw [← hfs] at hz
      exact (List.mem_filter.mp hz).1
    have fno : ∀ z ∈ fs, z ∉ ag.map (·.1) := fun z hz => by
      rw [← hfs, List.mem_filter, decide_eq_true_eq] at hz
      exact hz.2
    have lfs : fs.length ≤ 6 := by rw [← hfs]; exact Nat.le_trans (List.length_filter_le _ _) lus
    clear hfs
    have e8 : Ext H7 (upd H7 fr (.lst (fs.map V.str))) := Ext.upd hfr
    have f8 : (upd H7 fr (.lst (fs.map V.str))) fr = some (.lst (fs.map V.str)) := upd_same
    have nfrH : H fr = none := keep_free k07 hp7 hfr
    generalize (upd H7 fr (.lst (fs.map V.str))) = H8 at e8 f8
    have k08 := k07.trans (Keep.ext e8)
    have hp8 := hp7.ext e8
    have W8 := nw_keep hp (Keep.ext e8) _ _ W7
    have q8 := nw_keep hp (Keep.ext e8) _ _ q7
    have g8 := nw_keep hp (Keep.ext e8) _ _ g7
    have r8 : nw H H8 fr = some (.lst (fs.map V.str)) := by rw [nw_at nfrH]; exact f8
    clear W7 q7 g7 f8 hfr
    -- the site
    intro S nS
    have nSH : H S = none := keep_free k08 hp8 nS
    have nSpc : S ≠ p ∧ S ≠ c := ⟨(hp8.ne nS).1.symm, (hp8.ne nS).2.symm⟩
    have z9 := zn_in (H := H) (o := HO.dK []) nS
    have W9 := z9 _ _ W8
    have q9 := z9 _ _ q8
    have g9 := z9 _ _ g8
    have r9 := z9 _ _ r8
    have f9 : (upd H8 S (.dK [])) S = some (.dK []) := upd_same
    have hp9 := hp8.ext (Ext.upd (o := HO.dK []) nS)
    have k09 : Keep p c H (upd H8 S (.dK [])) := k08.trans (Keep.new nS)
    generalize (upd H8 S (.dK [])) = H9 at W9 q9 g9 r9 f9 hp9 k09
    clear z9 W8 q8 g8 r8
    refine ⟨_, rfl, _, rfl, (by show 0 ≤ sizeLine; decide), fun b nb => ?_⟩
    have nbH : H b = none := keep_free k09 hp9 nb
    have nbS : b ≠ S := (ne_of_none f9 nb).symm
    have x10 : Keep p c H9 (upd H9 b (.lst [])) := Keep.new nb
    have z10 := zn_keep (F := S) (G := S) hp x10
    have k10 := k09.trans x10
    have hp10 := hp9.ext (Ext.upd (o := HO.lst []) nb)
    have f10 := Ext.upd (o := HO.lst []) nb _ _ f9
    have b10 : Zn S S H (upd H9 b (.lst [])) b = some (.lst []) := zn_at nbH nbS nbS upd_same
    have W10 := z10 _ _ W9
    have q10 := z10 _ _ q9
    have g10 := z10 _ _ g9
    have r10 := z10 _ _ r9
    generalize (upd H9 b (.lst [])) = H10 at k10 hp10 f10 b10 W10 q10 g10 r10
    clear z10 x10 W9 q9 g9 r9 nb
    refine ⟨f10, s5 (.ref g) (.ref q) .non (.ref b) .non, rfl, by show 5 ≤ 15; decide, ?_⟩
    rw [show mergeK [] (s5 (.ref g) (.ref q) .non (.ref b) .non) = s5 (.ref g) (.ref q) .non (.ref b) .non from by kernel_rfl]
    have ZS : ∀ {H' : Hp} {o : HO}, Zn S S H (upd H' S o) = Zn S S H H' := fun {H' o} => zn_upd (by simp)
    have KS : ∀ {H' : Hp} {o : HO}, Keep p c H H' → Keep p c H (upd H' S o) := fun {H' o} k b' u q h1 h2 => by rw [upd_ne (ne_of_none q nSH)]; exact k b' u q h1 h2
    have f11 : (upd H10 S (.dK (s5 (.ref g) (.ref q) .non (.ref b) .non))) S = some (.dK (s5 (.ref g) (.ref q) .non (.ref b) .non)) := upd_same
    have Z11 : Zn S S H (upd H10 S (.dK (s5 (.ref g) (.ref q) .non (.ref b) .non))) = Zn S S H H10 := ZS
    have k11 : Keep p c H (upd H10 S (.dK (s5 (.ref g) (.ref q) .non (.ref b) .non))) := KS k10
    have hp11 := hp10.upd (o := HO.dK (s5 (.ref g) (.ref q) .non (.ref b) .non)) nSpc.1.symm nSpc.2.symm
    generalize (upd H10 S (.dK (s5 (.ref g) (.ref q) .non (.ref b) .non))) = H11 at f11 Z11 k11 hp11
    rw [← Z11] at b10 W10 q10 g10 r10
    clear Z11 f10 k10 hp10
    refine ⟨(by show 0 ≤ sizeLine; decide), fun e ne => ⟨_, rfl, S, _, rfl, DPut.k (k := Sum.inr "behind") ((Ext.upd ne) _ _ f11) (by show 5 < sizeLine; decide), ?_⟩⟩
    rw [show putK (s5 (.ref g) (.ref q) .non (.ref b) .non) (Sum.inr "behind") (.ref e) = s6 (.ref g) (.ref q) .non (.ref b) .non (.ref e) from by kernel_rfl]
    have neH : H e = none := keep_free k11 hp11 ne
    have neS : e ≠ S := (ne_of_none f11 ne).symm
    have x12 : Keep p c H11 (upd H11 e (.lst [])) := Keep.new ne
    have z12 := zn_keep (F := S) (G := S) hp x12
    have b12 := z12 _ _ b10
    have W12 := z12 _ _ W10
    have q12 := z12 _ _ q10
    have g12 := z12 _ _ g10
    have r12 := z12 _ _ r10
    have k12 := k11.trans x12
    have hp12 := hp11.ext (Ext.upd (o := HO.lst []) ne)
    have e12 : Zn S S H (upd H11 e (.lst [])) e = some (.lst []) := zn_at neH neS neS upd_same
    generalize (upd H11 e (.lst [])) = H12 at b12 W12 q12 g12 r12 k12 hp12 e12
    clear z12 x12 b10 W10 q10 g10 r10 f11 k11 hp11 ne
    have f13 : (upd H12 S (.dK (s6 (.ref g) (.ref q) .non (.ref b) .non (.ref e)))) S = some (.dK (s6 (.ref g) (.ref q) .non (.ref b) .non (.ref e))) := upd_same
    have Z13 : Zn S S H (upd H12 S (.dK (s6 (.ref g) (.ref q) .non (.ref b) .non (.ref e)))) = Zn S S H H12 := ZS
    have k13 : Keep p c H (upd H12 S (.dK (s6 (.ref g) (.ref q) .non (.ref b) .non (.ref e)))) := KS k12
    have hp13 := hp12.upd (o := HO.dK (s6 (.ref g) (.ref q) .non (.ref b) .non (.ref e))) nSpc.1.symm nSpc.2.symm
    generalize (upd H12 S (.dK (s6 (.ref g) (.ref q) .non (.ref b) .non (.ref e)))) = H13 at f13 Z13 k13 hp13
    rw [← Z13] at b12 W12 q12 g12 r12 e12
    clear Z13 k12 hp12
    -- all known names
    refine ⟨_, rfl, _, rfl, W, rfl, ⟨_, SqL.of (zn_out W12).1⟩, fun D3 hD3 => ?_⟩
    refine lc_strs (walk_list (K := K) (xs := us.map V.str)) (fun z => if z ∈ ag.map (·.1) ∧ z ∉ gs then some (.str z) else none) (by omega) (fun l => (SqL.of (zn_out W12).1).ext (Ext.upd hD3)) (fun i z l C N hz hC hN => ?_) ?_
    · have q8 := (Ext.upd (o := HO.lst l) hD3) _ _ (zn_out q12).1
      have g8 := (Ext.upd (o := HO.lst l) hD3) _ _ (zn_out g12).1
      have gt : DGet (upd H13 D3 (.lst l)) q (.str z) (valV (agK ag) (Sum.inr z)) := DGet.k (k := Sum.inr z) q8
      refine ⟨rfl, _, rfl, _, rfl, q, _, rfl, gt, _, rfl, ?_⟩
      by_cases hz' : z ∈ ag.map (·.1)
      · obtain ⟨x, hx, ex⟩ := List.mem_map.mp hz'
        refine iteYes ?_ ?_
        · show (valV (agK ag) (Sum.inr z)).isSome = true
          rw [← ex, agK_get (n := x.2) agn hx]
          rfl
        refine ⟨_, rfl, _, rfl, g, _, rfl, .inl (SqL.of g8), rfl, flat_strs _, _, rfl, ?_⟩
        show (if (!inV (.str z) (gs.map V.str)) = true then _ else _)
        rw [inV_strs]
        by_cases hg : z ∈ gs
        · exact iteNo (by rw [decide_eq_true hg]; rfl) (hN (if_neg fun h => h.2 hg))
        · exact iteYes (by rw [decide_eq_false hg]; rfl) ⟨_, rfl, hC _ (if_pos ⟨hz', hg⟩)⟩
      · refine iteNo ?_ (hN (if_neg fun h => hz' h.1))
        show (valV (agK ag) (Sum.inr z)).isSome = false
        rw [agK_no hz']
        rfl
    rw [fm_if (fun z => z ∈ ag.map (·.1) ∧ z ∉ gs) V.str]
    generalize hms : (us.filter fun z => decide (z ∈ ag.map (·.1) ∧ z ∉ gs)) = ms
    have msub : ∀ z, z ∈ ms ↔ z ∈ us ∧ z ∈ ag.map (·.1) ∧ z ∉ gs := fun z => by rw [← hms, List.mem_filter, decide_eq_true_eq]
    have mnd : ms.Nodup := by rw [← hms]; exact und.filter _
    have lms : ms.length ≤ 6 := by rw [← hms]; exact Nat.le_trans (List.length_filter_le _ _) lus
    clear hms
    have x14 : Keep p c H13 (upd H13 D3 (.lst (ms.map V.str))) := Keep.new hD3
    have z14 := zn_keep (F := S) (G := S) hp x14
    have d14 : (upd H13 D3 (.lst (ms.map V.str))) D3 = some (.lst (ms.map V.str)) := upd_same
    have f14 := Ext.upd (o := HO.lst (ms.map V.str)) hD3 _ _ f13
    have k14 := k13.trans x14
    have hp14 := hp13.ext (Ext.upd (o := HO.lst (ms.map V.str)) hD3)
    generalize (upd H13 D3 (.lst (ms.map V.str))) = H14 at z14 d14 f14 k14 hp14
    refine ⟨g, D3, _, _, rfl, rfl, (zn_out (z14 _ _ g12)).1, d14, by rw [List.length_map, List.length_map]; omega, fun kn nkn => ?_⟩
    rw [← List.map_append]
    generalize hks : gs ++ ms = ks
    have ksm : ∀ z, z ∈ ks ↔ z ∈ gs ∨ z ∈ ag.map (·.1) := fun z => by
      rw [← hks, List.mem_append, msub]
      constructor
      · rintro (h | h)
        · exact .inl h
        · exact .inr h.2.1
      · rintro (h | h)
        · exact .inl h
        · by_cases hg : z ∈ gs
          · exact .inl hg
          · exact .inr ⟨sl1.subset h, h, hg⟩
    have ksn : ks.Nodup := by
      rw [← hks]
      exact List.nodup_append.mpr ⟨gnd, mnd, fun a ha b hb e => ((msub b).mp hb).2.2 (by rw [← e]; exact ha)⟩
    have ksne : ks ≠ [] := fun e => by
      rcases gne with h | h
      · obtain ⟨z, hz⟩ := List.exists_mem_of_ne_nil _ h
        have := (ksm z).mpr (.inl hz)
        rw [e] at this
        cases this
      · obtain ⟨x, hx⟩ := List.exists_mem_of_ne_nil _ h
        have := (ksm x.1).mpr (.inr (List.mem_map.mpr ⟨x, hx, rfl⟩))
        rw [e] at this
        cases this
    have ksu : ∀ z ∈ ks, z ∈ us := fun z hz => ((ksm z).mp hz).elim (fun h => gsl.subset h) fun h => sl1.subset h
    clear hks msub mnd lms
    have nknH : H kn = none := keep_free k14 hp14 nkn
    have nknS : kn ≠ S := (ne_of_none f14 nkn).symm
    have x15 : Keep p c H14 (upd H14 kn (.lst (ks.map V.str))) := Keep.new nkn
    have z15 : Ext (Zn S S H H13) (Zn S S H (upd H14 kn (.lst (ks.map V.str)))) := z14.trans (zn_keep (F := S) (G := S) hp x15)
    have b15 := z15 _ _ b12
    have q15 := z15 _ _ q12
    have g15 := z15 _ _ g12
    have r15 := z15 _ _ r12
    have e15 := z15 _ _ e12
    have kn15 : Zn S S H (upd H14 kn (.lst (ks.map V.str))) kn = some (.lst (ks.map V.str)) := zn_at nknH nknS nknS upd_same
    have f15 := Ext.upd (o := HO.lst (ks.map V.str)) nkn _ _ f14
    have k15 := k14.trans x15
    have hp15 := hp14.ext (Ext.upd (o := HO.lst (ks.map V.str)) nkn)
    generalize (upd H14 kn (.lst (ks.map V.str))) = H15 at b15 q15 g15 r15 e15 kn15 f15 k15 hp15
    clear z14 z15 x14 x15 d14 f14 k14 hp14 nkn b12 q12 g12 r12 e12 W12 f13 k13 hp13 hD3
    have away : ∀ {x : Addr}, H x = none → x ≠ p ∧ x ≠ c := fun {x} h => ⟨(hp.ne h).1.symm, (hp.ne h).2.symm⟩
    have akn := away nknH
    have afr := away nfrH
    refine ⟨_, rfl, _, rfl, _, rfl, _, rfl, p, c, _, kn, fr, ks, fs, most, rfl, hp15, by omega, (zn_out kn15).1, akn.1, akn.2, (zn_out r15).1, afr.1, afr.2, ksn, ksne, ⟨us, lus, usn, ksu, fsub⟩, lfs, hmost, fun t fl hl xs ah here1 H16 nt nfl nhl tp tc flp flc hlp hlc ht hfl hsd hhl gd1 ln1 nd1 mm1 hp16 k16 => ?_⟩
    refine ⟨t, _, rfl, SqT.of ht, rfl, _, _, rfl, _, rfl, S, _, rfl, DPut.k (k := Sum.inr "ahead") (k16 _ _ f15 nSpc.1 nSpc.2) (by show 6 < sizeLine; decide), ?_⟩
    rw [show putK (s6 (.ref g) (.ref q) .non (.ref b) .non (.ref e)) (Sum.inr "ahead") (.ref fl) = s7 (.ref g) (.ref q) .non (.ref b) .non (.ref e) (.ref fl) from by kernel_rfl]
    refine ⟨_, _, rfl, rfl, ?_⟩
    have zs1 := zn_new (H' := H16) k15 hp15 f15
    have z16 := zn_keep (F := S) (G := S) hp k16
    have nflH := keep_free k15 hp15 nfl
    have k016 := k15.trans k16
    have f17 : (upd H16 S (.dK (s7 (.ref g) (.ref q) .non (.ref b) .non (.ref e) (.ref fl)))) S = some (.dK (s7 (.ref g) (.ref q) .non (.ref b) .non (.ref e) (.ref fl))) := upd_same
    have Z17 : Zn S S H (upd H16 S (.dK (s7 (.ref g) (.ref q) .non (.ref b) .non (.ref e) (.ref fl)))) = Zn S S H H16 := ZS
    have k17 : Keep p c H (upd H16 S (.dK (s7 (.ref g) (.ref q) .non (.ref b) .non (.ref e) (.ref fl)))) := KS k016
    have hp17 := hp16.upd (o := HO.dK (s7 (.ref g) (.ref q) .non (.ref b) .non (.ref e) (.ref fl))) nSpc.1.symm nSpc.2.symm
    generalize (upd H16 S (.dK (s7 (.ref g) (.ref q) .non (.ref b) .non (.ref e) (.ref fl)))) = H17 at f17 Z17 k17 hp17
    have b17 := z16 _ _ b15
    have q17 := z16 _ _ q15
    have g17 := z16 _ _ g15
    have r17 := z16 _ _ r15
    have e17 := z16 _ _ e15
    have a17 : PLst (Zn S S H H16) (.ref fl) (some ah) := ⟨fl, xs, rfl, zs1 _ _ (by rw [nw_at nfl]; exact hfl), hsd.ext zs1⟩
    have kn17 : Zn S S H H16 hl = some (.lst (here1.map V.str)) := zs1 _ _ (by rw [nw_at nhl]; exact hhl)
    rw [← Z17] at b17 q17 g17 r17 e17 a17 kn17
    have st0 : Sg H H17 H17 p c S n 1200 g q .non (.ref b) .non (.ref e) (.ref fl) hl none [] none [] here1 := ⟨f17, Ext.rfl', rfl, ⟨b, [], rfl, b17, .nil⟩, rfl, ⟨e, [], rfl, e17, .nil⟩, kn17, hp17.mono (by omega), k17⟩
    obtain ⟨z0, hz0⟩ := List.exists_mem_of_ne_nil _ ksne
    have c1z : z0 ∈ here1 := (mm1 z0).mpr (aft_in hz0)
    have c1u : ∀ z ∈ here1, z ∈ us := fun z hz => aft_sub ksu (fun d hd m hm => fsub m (gdDs_made gd1 d hd m hm)) z ((mm1 z).mp hz)
    have c1ne : here1 ≠ [] := fun e => by rw [e] at c1z; cases c1z
    clear zs1 z16 b15 q15 g15 r15 e15 kn15 f15 k15 hp15 hfl hsd hhl ht f17 kn17 hp17 k17 k016 hp16 k16 Z17 akn nt nfl nhl
    -- the loop
    refine ⟨fun σ' H' => ∃ lv lpo, σ' = [some (.ref p), some (.int loops), some (.int most), some (.ref W), some (.ref q), y5, some (.ref hl), some (.ref fr), some (.ref S)] ∧ Sg H H' H17 p c S n 2300 g q lv (.ref b) .non (.ref e) (.ref fl) hl lpo [] none [] here1 ∧ lpo.isSome = decide (0 < loops) ∧ ∀ ds, lpo = some ds → gdDs fs here1 ds ∧ ds.length ≤ most, ?_, ?_⟩
    · refine ⟨_, rfl, _, _, rfl, rfl, _, rfl, ?_⟩
      by_cases hL : 0 < loops
      · refine iteYes (decide_eq_true (by omega)) ?_
        refine ⟨_, rfl, _, rfl, _, rfl, _, rfl, p, c, _, hl, fr, here1, fs, most, rfl, st0.pp, by omega, (zn_out st0.kn).1, (away (zn_out st0.kn).2.2).1, (away (zn_out st0.kn).2.2).2, (zn_out (st0.x _ _ r17)).1, afr.1, afr.2, nd1, c1ne, ⟨us, lus, usn, c1u, fsub⟩, lfs, hmost, fun t2 fl2 hl2 xs2 ds2 here2 HH2 nt2 nfl2 nhl2 _ _ _ _ _ _ ht2 hfl2 hsd2 hhl2 gd2 ln2 nd2 mm2 hp2 kk2 => ?_⟩
        have zs2 := zn_new (H' := HH2) st0.kk st0.pp st0.f
        have nflH2 := keep_free st0.kk st0.pp nfl2
        have st2 := st0.keep hp kk2 nSpc (hp2.mono (m := n + 2300) (by omega))
        have pl2 : PLst (Zn S S H HH2) (.ref fl2) (some ds2) := ⟨fl2, xs2, rfl, zs2 _ _ (by rw [nw_at nfl2]; exact hfl2), hsd2.ext zs2⟩
        have kn2 : Zn S S H HH2 hl2 = some (.lst (here2.map V.str)) := zs2 _ _ (by rw [nw_at nhl2]; exact hhl2)
        refine ⟨t2, _, 0, .ref fl2, rfl, rfl, SqT.of ht2, atI_nat (j := 0) rfl, _, rfl, S, _, rfl, DPut.k (k := Sum.inr "loop") st2.f (by show 7 < sizeLine; decide), ?_⟩
        rw [show putK (s7 (.ref g) (.ref q) .non (.ref b) .non (.ref e) (.ref fl)) (Sum.inr "loop") (.ref fl2) = s7 (.ref g) (.ref q) (.ref fl2) (.ref b) .non (.ref e) (.ref fl) from by kernel_rfl]
        exact ⟨.ref fl2, some ds2, rfl, st2.put nSH nSpc pl2 st2.b st2.s st2.e st2.kn, (decide_eq_true hL).symm, fun ds h => by cases h; exact ⟨gd2, ln2⟩⟩
      · refine iteNo (decide_eq_false (by omega)) ?_
        exact ⟨.non, none, rfl, st0.keep hp Keep.refl nSpc (st0.pp.mono (by omega)), (decide_eq_false hL).symm, fun ds h => by cases h⟩
    rintro σ' Ha ⟨lv, lpo, rfl, sa, hlpo, glp⟩
    -- between, the second loop
    refine ⟨fun σ' H' => ∃ bv sv bt sdo kn2 c2, σ' = [some (.ref p), some (.int loops), some (.int most), some (.ref W), some (.ref q), y5, some (.ref kn2), some (.ref fr), some (.ref S)] ∧ Sg H H' H17 p c S n 4400 g q lv bv sv (.ref e) (.ref fl) kn2 lpo bt sdo [] c2 ∧ sdo.isSome = decide (1 < loops) ∧ gdDs fs here1 bt ∧ bt.length ≤ most ∧ (∀ ds, sdo = some ds → gdDs fs c2 ds ∧ ds.length ≤ most) ∧ c2.Nodup ∧ (∀ z, z ∈ c2 ↔ z ∈ aft here1 bt) ∧ (bt ≠ [] → 1 < loops), ?_, ?_⟩
    · refine ⟨_, rfl, _, _, rfl, rfl, _, rfl, ?_⟩
      by_cases hL : 1 < loops
      · refine iteYes (decide_eq_true (by omega)) ?_
        refine ⟨_, rfl, _, rfl, _, rfl, _, rfl, p, c, _, hl, fr, here1, fs, most, rfl, sa.pp, by omega, (zn_out sa.kn).1, (away (zn_out sa.kn).2.2).1, (away (zn_out sa.kn).2.2).2, (zn_out (sa.x _ _ r17)).1, afr.1, afr.2, nd1, c1ne, ⟨us, lus, usn, c1u, fsub⟩, lfs, hmost, fun t3 fl3 hl3 xs3 ds3 here3 HH3 nt3 nfl3 nhl3 _ _ _ _ _ _ ht3 hfl3 hsd3 hhl3 gd3 ln3 nd3 mm3 hp3 kk3 => ?_⟩
        have zs3 := zn_new (H' := HH3) sa.kk sa.pp sa.f
        have nflH3 := keep_free sa.kk sa.pp nfl3
        have st3 := sa.keep hp kk3 nSpc (hp3.mono (m := n + 3350) (by omega))
        have pl3 : PLst (Zn S S H HH3) (.ref fl3) (some ds3) := ⟨fl3, xs3, rfl, zs3 _ _ (by rw [nw_at nfl3]; exact hfl3), hsd3.ext zs3⟩
        have kn3 : Zn S S H HH3 hl3 = some (.lst (here3.map V.str)) := zs3 _ _ (by rw [nw_at nhl3]; exact hhl3)
        refine ⟨t3, _, rfl, SqT.of ht3, rfl, _, _, rfl, _, rfl, S, _, rfl, DPut.k (k := Sum.inr "between") st3.f (by show 7 < sizeLine; decide), ?_⟩
        rw [show putK (s7 (.ref g) (.ref q) lv (.ref b) .non (.ref e) (.ref fl)) (Sum.inr "between") (.ref fl3) = s7 (.ref g) (.ref q) lv (.ref fl3) .non (.ref e) (.ref fl) from by kernel_rfl]
        have sb := st3.put (bv' := .ref fl3) (bt' := ds3) (kn' := hl3) (cur' := here3) nSH nSpc st3.l pl3 st3.s st3.e kn3
        generalize (upd HH3 S (.dK (s7 (.ref g) (.ref q) lv (.ref fl3) .non (.ref e) (.ref fl)))) = Hb at sb
        refine ⟨_, _, rfl, rfl, ?_⟩
        have c2z : z0 ∈ here3 := (mm3 z0).mpr (aft_in c1z)
        have c2u : ∀ z ∈ here3, z ∈ us := fun z hz => aft_sub c1u (fun d hd m hm => fsub m (gdDs_made gd3 d hd m hm)) z ((mm3 z).mp hz)
        refine ⟨_, rfl, _, rfl, _, rfl, _, rfl, p, c, _, hl3, fr, here3, fs, most, rfl, sb.pp, by omega, (zn_out sb.kn).1, (away (zn_out sb.kn).2.2).1, (away (zn_out sb.kn).2.2).2, (zn_out (sb.x _ _ r17)).1, afr.1, afr.2, nd3, (fun e => by rw [e] at c2z; cases c2z), ⟨us, lus, usn, c2u, fsub⟩, lfs, hmost, fun t4 fl4 hl4 xs4 ds4 here4 HH4 nt4 nfl4 nhl4 _ _ _ _ _ _ ht4 hfl4 hsd4 hhl4 gd4 ln4 nd4 mm4 hp4 kk4 => ?_⟩
        have zs4 := zn_new (H' := HH4) sb.kk sb.pp sb.f
        have nflH4 := keep_free sb.kk sb.pp nfl4
        have st4 := sb.keep hp kk4 nSpc (hp4.mono (m := n + 4400) (by omega))
        have pl4 : PLst (Zn S S H HH4) (.ref fl4) (some ds4) := ⟨fl4, xs4, rfl, zs4 _ _ (by rw [nw_at nfl4]; exact hfl4), hsd4.ext zs4⟩
        have kn4 : Zn S S H HH4 hl4 = some (.lst (here4.map V.str)) := zs4 _ _ (by rw [nw_at nhl4]; exact hhl4)
        refine ⟨t4, _, 0, .ref fl4, rfl, rfl, SqT.of ht4, atI_nat (j := 0) rfl, _, rfl, S, _, rfl, DPut.k (k := Sum.inr "second") st4.f (by show 7 < sizeLine; decide), ?_⟩
        rw [show putK (s7 (.ref g) (.ref q) lv (.ref fl3) .non (.ref e) (.ref fl)) (Sum.inr "second") (.ref fl4) = s7 (.ref g) (.ref q) lv (.ref fl3) (.ref fl4) (.ref e) (.ref fl) from by kernel_rfl]
        exact ⟨.ref fl3, .ref fl4, ds3, some ds4, hl3, here3, rfl, st4.put nSH nSpc st4.l st4.b pl4 st4.e st4.kn, (decide_eq_true hL).symm, gd3, ln3, (fun ds h => by cases h; exact ⟨gd4, ln4⟩), nd3, mm3, fun _ => hL⟩
      · refine iteNo (decide_eq_false (by omega)) ?_
        exact ⟨.ref b, .non, [], none, hl, here1, rfl, sa.keep hp Keep.refl nSpc (sa.pp.mono (by omega)), (decide_eq_false hL).symm, True.intro, Nat.zero_le _, (fun ds h => by cases h), nd1, fun z => by simp [aft], fun h => absurd rfl h⟩
    rintro σ' Hc ⟨bv, sv, bt, sdo, kn2, c2, rfl, sc, hsdo, gbt, lbt, gsd, c2n, c2m, hbt⟩
    have c2z : z0 ∈ c2 := (c2m z0).mpr (aft_in c1z)
    have c2u : ∀ z ∈ c2, z ∈ us := fun z hz => aft_sub c1u (fun d hd m hm => fsub m (gdDs_made gbt d hd m hm)) z ((c2m z).mp hz)
    -- behind
    refine ⟨fun σ' H' => ∃ ev bh kn3 c3, σ' = [some (.ref p), some (.int loops), some (.int most), some (.ref W), some (.ref q), y5, some (.ref kn3), some (.ref fr), some (.ref S)] ∧ Sg H H' H17 p c S n 5500 g q lv bv sv ev (.ref fl) kn3 lpo bt sdo bh c3 ∧ gdDs fs c2 bh ∧ bh.length ≤ most ∧ c3.Nodup ∧ (∀ z, z ∈ c3 ↔ z ∈ aft c2 bh) ∧ (bh ≠ [] → 0 < loops), ?_, ?_⟩
    · refine ⟨_, rfl, _, _, rfl, rfl, _, rfl, ?_⟩
      by_cases hL : 0 < loops
      · refine iteYes (decide_eq_true (by omega)) ?_
        refine ⟨_, rfl, _, rfl, _, rfl, _, rfl, p, c, _, kn2, fr, c2, fs, most, rfl, sc.pp, by omega, (zn_out sc.kn).1, (away (zn_out sc.kn).2.2).1, (away (zn_out sc.kn).2.2).2, (zn_out (sc.x _ _ r17)).1, afr.1, afr.2, c2n, (fun e => by rw [e] at c2z; cases c2z), ⟨us, lus, usn, c2u, fsub⟩, lfs, hmost, fun t5 fl5 hl5 xs5 ds5 here5 HH5 nt5 nfl5 nhl5 _ _ _ _ _ _ ht5 hfl5 hsd5 hhl5 gd5 ln5 nd5 mm5 hp5 kk5 => ?_⟩
        have zs5 := zn_new (H' := HH5) sc.kk sc.pp sc.f
        have nflH5 := keep_free sc.kk sc.pp nfl5
        have st5 := sc.keep hp kk5 nSpc (hp5.mono (m := n + 5500) (by omega))
        have pl5 : PLst (Zn S S H HH5) (.ref fl5) (some ds5) := ⟨fl5, xs5, rfl, zs5 _ _ (by rw [nw_at nfl5]; exact hfl5), hsd5.ext zs5⟩
        have kn5 : Zn S S H HH5 hl5 = some (.lst (here5.map V.str)) := zs5 _ _ (by rw [nw_at nhl5]; exact hhl5)
        refine ⟨t5, _, rfl, SqT.of ht5, rfl, _, _, rfl, _, rfl, S, _, rfl, DPut.k (k := Sum.inr "behind") st5.f (by show 7 < sizeLine; decide), ?_⟩
        rw [show putK (s7 (.ref g) (.ref q) lv bv sv (.ref e) (.ref fl)) (Sum.inr "behind") (.ref fl5) = s7 (.ref g) (.ref q) lv bv sv (.ref fl5) (.ref fl) from by kernel_rfl]
        refine ⟨_, _, rfl, rfl, ?_⟩
        exact ⟨.ref fl5, ds5, hl5, here5, rfl, st5.put nSH nSpc st5.l st5.b st5.s pl5 kn5, gd5, ln5, nd5, mm5, fun _ => hL⟩
      · refine iteNo (decide_eq_false (by omega)) ?_
        exact ⟨.ref e, [], kn2, c2, rfl, sc.keep hp Keep.refl nSpc (sc.pp.mono (by omega)), True.intro, Nat.zero_le _, c2n, fun z => by simp [aft], fun h => absurd rfl h⟩
    rintro σ' Hd ⟨ev, bh, kn3, c3, rfl, sd, gbh, lbh, c3n, c3m, hbh⟩
    have c3u : ∀ z ∈ c3, z ∈ us := fun z hz => aft_sub c2u (fun d hd m hm => fsub m (gdDs_made gbh d hd m hm)) z ((c3m z).mp hz)
    have lc3 : c3.length ≤ 6 := Nat.le_trans (nodup_len c3n c3u) lus
    obtain ⟨kn31, kn32, kn33⟩ := zn_out sd.kn
    -- the results
    refine ⟨_, rfl, kn3, rfl, ⟨_, SqL.of kn31⟩, fun R hR => ?_⟩
    refine lc_drawn (us := c3) (walk_list (K := K) (xs := c3.map V.str)) (by omega) sd.pp hR kn31 (away kn33).1 (away kn33).2 (fun H' h => SqL.of h) (fun i z H' C N hz hi hpi hC hN => ?_) (fun rs He rsl fR hpe kde => ?_)
    · refine ⟨rfl, _, rfl, p, c, _, 4, rfl, hpi, by omega, by decide, by decide, fun v H8 v0 v1 hp8 kp8 => ⟨rfl, _, rfl, ?_⟩⟩
      by_cases hv : v = 0
      · subst hv
        exact iteYes (decide_eq_true rfl) ⟨_, rfl, hC H8 hp8 kp8⟩
      · exact iteNo (decide_eq_false fun q => hv (V.int.inj q)) (hN H8 hp8 kp8)
    have se := sd.keep hp kde nSpc (hpe.mono (m := n + 5900) (by omega))
    have nRH : H R = none := keep_free sd.kk sd.pp hR
    have nRS : R ≠ S := (ne_of_none sd.f hR).symm
    have R1 : Zn S S H He R = some (.lst (rs.map V.str)) := zn_at nRH nRS nRS fR
    refine ⟨_, rfl, S, _, rfl, DPut.k (k := Sum.inr "results") se.f (by show 7 < sizeLine; decide), ?_⟩
    rw [show putK (s7 (.ref g) (.ref q) lv bv sv ev (.ref fl)) (Sum.inr "results") (.ref R) = s8 (.ref g) (.ref q) lv bv sv ev (.ref fl) (.ref R) from by kernel_rfl]
    have zo : Ext (Zn S S H He) (nw H (upd He S (.dK (s8 (.ref g) (.ref q) lv bv sv ev (.ref fl) (.ref R))))) := fun b' o h => by
      obtain ⟨h1, h2, h3⟩ := zn_out h
      rw [nw_at h3, upd_ne h2]
      exact h1
    obtain ⟨good, ndok⟩ := site_good (us := us) (fs := fs) (ks := ks) (c1 := here1) (c2 := c2) (c3 := c3) (s := ⟨ah, lpo, bt, sdo, bh, gs, ag, rs⟩) lus usn gnd (fun z h => gsl.subset h) agn (fun z h => sl1.subset h) pc9 fsub fno ksm gd1 (Nat.le_trans ln1 hmost) mm1
      (by cases h : lpo with | none => exact True.intro | some ds => exact (glp ds h).1) (by cases h : lpo with | none => exact Nat.zero_le _ | some ds => exact Nat.le_trans (glp ds h).2 hmost) gbt (Nat.le_trans lbt hmost) c2m (by cases h : sdo with | none => exact True.intro | some ds => exact (gsd ds h).1) (by cases h : sdo with | none => exact Nat.zero_le _ | some ds => exact Nat.le_trans (gsd ds h).2 hmost) gbh (Nat.le_trans lbh hmost) c3m c3n rsl
      (fun h => ⟨fun e => by have e : lpo = none := e; rw [e] at hlpo; have := of_decide_eq_false hlpo.symm; have := hbt h; omega, fun e => by have e : sdo = none := e; rw [e] at hsdo; have := of_decide_eq_false hsdo.symm; have := hbt h; omega⟩) (fun h e => by have e : lpo = none := e; rw [e] at hlpo; have h1 := of_decide_eq_false hlpo.symm; cases hs : sdo with | none => exact h hs | some ds => rw [hs] at hsdo; have h2 := of_decide_eq_true hsdo.symm; omega) (fun h e => by have e : lpo = none := e; rw [e] at hlpo; have := of_decide_eq_false hlpo.symm; have := hbh h; omega)
    refine ⟨_, rfl, k S ⟨ah, lpo, bt, sdo, bh, gs, ag, rs⟩ us _ ⟨⟨g, q, lv, bv, sv, ev, .ref fl, R, by rw [nw_at nSH]; exact upd_same, zo _ _ (se.x _ _ g17), zo _ _ (se.x _ _ q17), se.l.ext zo, se.b.ext zo, se.s.ext zo, se.e.ext zo, (a17.ext se.x).ext zo, zo _ _ R1⟩⟩ good ndok hlpo hsdo ln1 ((se.pp.upd nSpc.1.symm nSpc.2.symm).mono (by omega)) (KS se.kk)⟩
end
end K33
end
section
set_option Elab.async false
set_option autoImplicit false
set_option linter.all false
set_option maxRecDepth 100000
set_option maxHeartbeats 4000000
set_option pp.maxSteps 1500
namespace K33
open PySem PySem.Spec PyProof.Rows L2 Ls
open C8 (pss_cut tCut)
open TL
/-! ### the program of a site -/
theorem DeedAt.hidL {cl : Dd → Addr} {H : Hp} {a D : Addr} {d : Dd} {ys : List V} (h : DeedAt cl H a d) (hD : H D = some (.lst ys)) : DeedAt cl (hid [D] H) a d := by
  obtain ⟨dy, fs, t1, t2, h1, h2, h3, h4, h5⟩ := h
  have go : ∀ {b : Addr} {o : HO}, H b = some o → b ≠ D → hid [D] H b = some o := fun q n => by rw [hid_at (by simpa using n)]; exact q
  exact ⟨dy, fs, t1, t2, go h1 (ne_of h1 hD (by intro z; cases z)), h2, h3, go h4 (ne_of h4 hD (by intro z; cases z)), go h5 (ne_of h5 hD (by intro z; cases z))⟩
theorem PtIn.hidL {K : PySem.W.Frag} {cl : Dd → Addr} {H : Hp} {v : V} {D : Addr} {o : Option (List Dd)} {ys : List V} (h : PtIn K cl H v o) (hv : ∀ t, v = .ref t → t ≠ D) (hD : H D = some (.lst ys)) : PtIn K cl (hid [D] H) v o := by
  cases o with
  | none => exact h
  | some ds =>
    obtain ⟨t, as, rfl, h2, h3⟩ := h
    have n := hv t rfl
    refine ⟨t, as, rfl, ?_, h3.1, fun i a q => let ⟨d, g1, g2⟩ := h3.2 i a q; ⟨d, g1, g2.hidL hD⟩⟩
    have go : ∀ {o : HO}, H t = some o → hid [D] H t = some o := fun q => by rw [hid_at (by simpa using n)]; exact q
    rcases h2 with ((h | ⟨o, h⟩) | h) | ((h | ⟨o, h⟩) | h)
    · exact .inl (.inl (.inl (go h)))
    · exact .inl (.inl (.inr ⟨o, go h⟩))
    · exact .inl (.inr h)
    · exact .inr (.inl (.inl (go h)))
    · exact .inr (.inl (.inr ⟨o, go h⟩))
    · exact .inr (.inr h)
theorem refs_of : ∀ {R : Nat → Addr → Prop} {ys : List V}, (∀ (j : Nat) (y : V), ys[j]? = some y → ∃ a, y = .ref a ∧ R j a) → ∃ as : List Addr, ys = as.map V.ref ∧ ∀ (j : Nat) (a : Addr), as[j]? = some a → R j a
  | R, [], _ => ⟨[], rfl, fun j a h => by simp at h⟩
  | R, y :: r, h => by
    obtain ⟨a, rfl, ha⟩ := h 0 y rfl
    obtain ⟨as, rfl, g⟩ := refs_of (R := fun j a => R (j + 1) a) (ys := r) fun j y q => h (j + 1) y (by simpa using q)
    refine ⟨a :: as, rfl, fun j b q => ?_⟩
    match j, q with
    | 0, q => cases q; exact ha
    | j + 1, q => exact g j b (by simpa using q)
section
variable {P : PySem.Program} {w : World} {K : PySem.W.Frag} {mg : Str → Option Value} {base : Heap} {CE CD CU CM CO CP tP : Addr} {tk : Str → Tok}
/-! ### _law_real_part -/
def spRP (K : PySem.W.Frag) (cl : Dd → Addr) : Sp := fun vs H Q _ => ∃ (v : V) (o : Option (List Dd)), vs = [v] ∧ PLst H v o ∧ (∀ d ∈ o.getD [], Good d) ∧ (o.getD []).length ≤ 1000 ∧ ∀ v' H', Ext H H' → (∀ t, v' = .ref t → H t = none) → PtIn K cl H' v' o → Q v' H'
abbrev s__law_real_part : Stmt := top 75
abbrev N__law_real_part : List Str := ["_law_deeds_here", "_law_made", "_law_used"]
theorem sc__law_real_part : FnScope N__law_real_part ["_law_deeds_here"] (defScope s__law_real_part) := ⟨rfl, rfl, rfl, by decide +kernel, rfl, by decide +kernel, by decide +kernel⟩
theorem ok_rpart {f : Addr} {fd : FuncData} (F : Fun K "_law_real_part" "_law_real_part" s__law_real_part f fd) (T : Tx K mg CE CD CU CM CO CP tP tk) (c__law_real_deed : Cal P w K mg base CX0 7 "_law_real_deed" (spReal (clsD CU CM CO))) :
    FnOk P w K mg base CX0 8 f fd ["_law_deeds_here"] (spRP K (clsD CU CM CO)) := by
  refine F.ok sc__law_real_part (fun vs H Q E h => ?_) (fun cdv A outer s H vs Q E hr h => ?_)
  · obtain ⟨v, o, rfl, _⟩ := h
    rfl
  · obtain ⟨v, o, rfl, hv, hg, hn, k⟩ := h
    refine ⟨_, (pss_cons (ps_if (pt_cmpR op_isN (pv 0) pe_non (nomark _)) (pss_one (ps_ret pe_non)) pss_nil)
      (pss_one (ps_ret (pe_lc (own := [("_law_made", 1), ("_law_used", 2)]) (g := gTup K 2 (gCons (gName 1) (gCons (gName 2) gNil))) rfl sc__law_real_part.nd (pi_list (pv 0)) (blkOk_by (own := [("_law_made", 1), ("_law_used", 2)]) (N := N__law_real_part) (sc := defScope s__law_real_part) (by decide +kernel)) (fun _ _ _ _ _ => (pg_tup rfl (pgs_cons (pg_name (i := 1) sc__law_real_part.nd rfl (by first | exact Or.inl rfl | exact Or.inr rfl)) (pgs_cons (pg_name (i := 2) sc__law_real_part.nd rfl (by first | exact Or.inl rfl | exact Or.inr rfl)) pgs_nil)))) (fun _ _ _ _ _ => pts_nil) (fun _ _ _ _ _ => (pe_cal c__law_real_deed (hr.mono (by decide)) (by rfl) pass0 (pa_cons (pv 1) (pa_cons (pv 2) pa_nil)))))))), ?_⟩
    refine ⟨_, rfl, rfl, _, rfl, ?_⟩
    cases o with
    | none =>
      have hv : v = .non := hv
      subst hv
      exact iteYes rfl (k _ _ Ext.rfl' (fun t q => by cases q) rfl)
    | some ds =>
      obtain ⟨l, xs, rfl, hl, hs⟩ := hv
      have hg : ∀ d ∈ ds, Good d := hg
      have hn : ds.length ≤ 1000 := hn
      refine iteNo rfl ?_
      refine ⟨_, rfl, l, rfl, ⟨_, SqL.of hl⟩, fun D hD => ?_⟩
      have hlx := hs.1
      refine lc_map (walk_list (K := K) (xs := xs)) [D] (by simp) (fun H' => Ext H H') (fun j y H' => ∃ a d, y = .ref a ∧ ds[j]? = some d ∧ DeedAt (clsD CU CM CO) H' a d) (by omega) (fun j y Ha Hb e ⟨a, d, h1, h2, h3⟩ => ⟨a, d, h1, h2, h3.ext e⟩)
        (fun H' o hh b o' z => by rw [upd_ne (ne_of_none z hD)]; exact hh b o' z) (Ext.upd hD) (fun H' _ hh => SqL.of (hh _ _ hl)) ?_ ?_
      · rintro j y _ H8 acc C hj e8 hh8 hD8 ⟨rfl, hy⟩ hC
        obtain ⟨d, hd, t, lu, rfl, ht, hlu⟩ := hs.2 j y hy
        refine ⟨t, _, rfl, SqT.of (hh8 _ _ ht), rfl, _, _, rfl, _, _, rfl, rfl, rfl, _, rfl, _, rfl, d, lu, rfl, hh8 _ _ hlu, hg d (List.mem_of_getElem? hd), fun a H9 e9 na da => ?_⟩
        exact hC _ _ (e9 _ _ hD8) (hid_mono e9) (hh8.trans e9) ⟨a, d, rfl, hd, da.hidL (e9 _ _ hD8)⟩
      · intro H8 ys e8 hh8 hD8 hly hR
        obtain ⟨as, rfl, hR2⟩ := refs_of (R := fun j a => ∃ d, ds[j]? = some d ∧ DeedAt (clsD CU CM CO) (hid [D] H8) a d) fun j y q => let ⟨a, d, h1, h2, h3⟩ := hR j y q; ⟨a, h1, d, h2, h3⟩
        refine k _ H8 hh8 (fun t q => by cases q; exact hD) ⟨D, as, rfl, .inl (SqL.of hD8), ?_, fun i a q => let ⟨d, h1, h2⟩ := hR2 i a q; ⟨d, h1, h2.ext hid_ext⟩⟩
        rw [List.length_map] at hly
        omega
/-! ### _law_real -/
def spRl (K : PySem.W.Frag) (cl : Dd → Addr) (CP : Addr) : Sp := fun vs H Q _ => ∃ (a : Addr) (s : Pr), vs = [.ref a] ∧ StAt H a s ∧ GoodP s ∧ ∀ x H', Ext H H' → H x = none → PrAt K cl CP H' x s.norm → Q (.ref x) H'
abbrev s__law_real : Stmt := top 76
abbrev N__law_real : List Str := ["_law_site_here", "_law_parts", "_law_part", "_law_some_here"]
theorem sc__law_real : FnScope N__law_real ["_law_site_here"] (defScope s__law_real) := ⟨rfl, rfl, rfl, by decide +kernel, rfl, by decide +kernel, by decide +kernel⟩
theorem ok_rl {f : Addr} {fd : FuncData} (F : Fun K "_law_real" "_law_real" s__law_real f fd) (T : Tx K mg CE CD CU CM CO CP tP tk) (c__law_real_part : Cal P w K mg base CX0 8 "_law_real_part" (spRP K (clsD CU CM CO))) (c__law_order : Cal P w K mg base CX0 1 "_law_order" spOrd)
    (c_Program_given_again_results : MkcN P w K mg base CX0 6 CP "Program" 5 ["given", "again", "results"] (fun vs zs => vs ++ zs) (spProg K (clsD CU CM CO) CP)) : FnOk P w K mg base CX0 9 f fd ["_law_site_here"] (spRl K (clsD CU CM CO) CP) := by
  refine F.ok sc__law_real (fun vs H Q E h => ?_) (fun cdv A outer s0 H vs Q E hr h => ?_)
  · obtain ⟨a, s, rfl, _⟩ := h
    rfl
  · obtain ⟨a, s, rfl, hs, hg, k⟩ := h
    have hu := hu_of hr
    refine ⟨_, (pss_cons (ps_setLc (i := 1) (own := [("_law_part", 2)]) rfl sc__law_real.nd rfl rfl (sw_true rfl rfl rfl (by decide +kernel)) (pi_list (pe_cal0 c__law_order (hr.mono (by decide)) (by rfl) pass0)) (blkOk_by (own := [("_law_part", 2)]) (N := N__law_real) (sc := defScope s__law_real) (by decide +kernel)) (fun _ _ _ _ _ => (pg_name (i := 2) sc__law_real.nd rfl (by first | exact Or.inl rfl | exact Or.inr rfl))) (fun _ _ _ _ _ => pts_nil) (fun _ _ _ _ _ => (pe_cal c__law_real_part (hr.mono (by decide)) (by rfl) pass0 (pa_cons (pe_dget hu (pv 0) (pv 2) (fun _ _ => rfl)) pa_nil))))
      (pss_cons (ps_set (i := 3) sc__law_real.nd rfl (by first | exact Or.inl rfl | exact Or.inr rfl) (pe_lst (pa_cons (pe_dget hu (pv 0) pe_str (fun _ _ => rfl)) (pa_cons (pe_dget hu (pv 0) pe_str (fun _ _ => rfl)) (pa_cons (pe_dget hu (pv 0) pe_str (fun _ _ => rfl)) pa_nil)))))
      (pss_one (ps_ret (pe_mkN c_Program_given_again_results (hr.mono (by decide)) (by rfl) pass0 (pa_cons (pe_ix ix_list (pv 1) pe_int (fun _ _ => rfl)) (pa_cons (pe_ix ix_list (pv 1) pe_int (fun _ _ => rfl)) (pa_cons (pe_ix ix_list (pv 1) pe_int (fun _ _ => rfl)) (pa_cons (pe_ix ix_list (pv 1) pe_int (fun _ _ => rfl)) (pa_cons (pe_ix ix_list (pv 1) pe_int (fun _ _ => rfl)) pa_nil))))) (pk_cons (pe_ix ix_list (pv 3) pe_int (fun _ _ => rfl)) (pk_cons (pe_ix ix_list (pv 3) pe_int (fun _ _ => rfl)) (pk_cons (pe_ix ix_list (pv 3) pe_int (fun _ _ => rfl)) pk_nil)))))))), ?_⟩
    obtain ⟨g, q, l, b, sd, e, ah, r, ha, hgv, hq, hl, hb, hsd, he, hah, hrs⟩ := hs.ex
    have hds : ∀ (j : Nat) (o : Option (List Dd)), s.pts[j]? = some o → (∀ d ∈ o.getD [], Good d) ∧ (o.getD []).length ≤ 1000 := fun j o ho => by
      have hm := List.mem_of_getElem? ho
      refine ⟨fun d hd => hg.dg d (List.mem_flatten.mpr ⟨_, List.mem_map.mpr ⟨o, hm, rfl⟩, hd⟩), ?_⟩
      have := hg.sh.l0
      have := hg.sh.l1
      have := hg.sh.l2
      have := hg.sh.l3
      have := hg.sh.l4
      simp only [Pr.pts, List.mem_cons, List.not_mem_nil, or_false] at hm
      rcases hm with rfl | rfl | rfl | rfl | rfl
      · show s.ah.length ≤ _; omega
      · omega
      · show s.bt.length ≤ _; omega
      · omega
      · show s.bh.length ≤ _; omega
    have val : ∀ (j : Nat) (z : Str), partsS[j]? = some z → ∃ v o, valV (s8 (.ref g) (.ref q) l b sd e ah (.ref r)) (Sum.inr z) = some v ∧ s.pts[j]? = some o ∧ PLst H v o := fun j z hz => by
      match j, hz with
      | 0, hz => cases hz; exact ⟨_, _, by kernel_rfl, rfl, hah⟩
      | 1, hz => cases hz; exact ⟨_, _, by kernel_rfl, rfl, hl⟩
      | 2, hz => cases hz; exact ⟨_, _, by kernel_rfl, rfl, hb⟩
      | 3, hz => cases hz; exact ⟨_, _, by kernel_rfl, rfl, hsd⟩
      | 4, hz => cases hz; exact ⟨_, _, by kernel_rfl, rfl, he⟩
      | j + 5, hz => simp [partsS] at hz
    refine ⟨rfl, fun o no => ?_⟩
    have e1 : Ext H (upd H o (.lst (partsS.map V.str))) := Ext.upd no
    have f1 : (upd H o (.lst (partsS.map V.str))) o = some (.lst (partsS.map V.str)) := upd_same
    generalize (upd H o (.lst (partsS.map V.str))) = H1 at e1 f1
    refine ⟨o, rfl, ⟨_, SqL.of f1⟩, fun D hD => ?_⟩
    refine lc_map (walk_list (K := K) (xs := partsS.map V.str)) [D] (by simp) (fun H' => Ext H1 H') (fun j y H' => ∃ o, s.pts[j]? = some o ∧ PtIn K (clsD CU CM CO) H' y o) (by show 5 ≤ 100000; decide) (fun j y Ha Hb e ⟨o, h1, h2⟩ => ⟨o, h1, h2.ext e⟩)
      (fun H' o hh b o' z => by rw [upd_ne (ne_of_none z hD)]; exact hh b o' z) (Ext.upd hD) (fun H' _ hh => SqL.of (hh _ _ f1)) ?_ ?_
    · rintro j y _ H8 acc C hj e8 hh8 hD8 ⟨rfl, hy⟩ hC
      rw [List.getElem?_map] at hy
      obtain ⟨z, hz, rfl⟩ := Option.map_eq_some_iff.mp hy
      obtain ⟨v, o', hv, ho, hpl⟩ := val j z hz
      have e08 := e1.trans hh8
      have gt : DGet H8 a (.str z) (some v) := by
        have := DGet.k (k := Sum.inr z) (e08 _ _ ha)
        rwa [hv] at this
      refine ⟨rfl, _, rfl, _, rfl, a, _, rfl, gt, v, o', rfl, hpl.ext e08, (hds j o' ho).1, (hds j o' ho).2, fun v' H9 e9 nt hin => ?_⟩
      refine hC _ _ (e9 _ _ hD8) (hid_mono e9) (hh8.trans e9) ⟨o', ho, hin.hidL (fun t q z => ?_) (e9 _ _ hD8)⟩
      have := nt t q
      rw [z, hD8] at this
      cases this
    · intro H2 xs e2 hh2 hD2 hlx hR
      have e02 := e1.trans hh2
      match xs, hlx, hR with
      | [y0, y1, y2, y3, y4], _, hR =>
        have r0 := (hR 0 y0 rfl)
        have r1 := (hR 1 y1 rfl)
        have r2 := (hR 2 y2 rfl)
        have r3 := (hR 3 y3 rfl)
        have r4 := (hR 4 y4 rfl)
        clear hR
        obtain ⟨o0, g0, r0⟩ := r0
        obtain ⟨o1, g1, r1⟩ := r1
        obtain ⟨o2, g2, r2⟩ := r2
        obtain ⟨o3, g3, r3⟩ := r3
        obtain ⟨o4, g4, r4⟩ := r4
        cases g0
        cases g1
        cases g2
        cases g3
        cases g4
        have r0 := r0.ext (hid_ext (S := [D]))
        have r1 := r1.ext (hid_ext (S := [D]))
        have r2 := r2.ext (hid_ext (S := [D]))
        have r3 := r3.ext (hid_ext (S := [D]))
        have r4 := r4.ext (hid_ext (S := [D]))
        have gt : ∀ {k : Str} {v : V}, valV (s8 (.ref g) (.ref q) l b sd e ah (.ref r)) (Sum.inr k) = some v → DGet H2 a (.str k) (some v) := fun {k v} hv => by
          have := DGet.k (k := Sum.inr k) (e02 _ _ ha)
          rwa [hv] at this
        refine ⟨_, rfl, a, .ref g, rfl, gt (by kernel_rfl), _, rfl, a, .ref q, rfl, gt (by kernel_rfl), _, rfl, a, .ref r, rfl, gt (by kernel_rfl), (by show 3 ≤ sizeLine; decide), fun L nL => ?_⟩
        have e3 : Ext H2 (upd H2 L (.lst [.ref g, .ref q, .ref r])) := Ext.upd nL
        have f3 : (upd H2 L (.lst [.ref g, .ref q, .ref r])) L = some (.lst [.ref g, .ref q, .ref r]) := upd_same
        generalize (upd H2 L (.lst [.ref g, .ref q, .ref r])) = H3 at e3 f3
        have e03 := e02.trans e3
        have fD := SqL.of (K := K) (e3 _ _ hD2)
        have fL := SqL.of (K := K) f3
        refine ⟨_, rfl, D, _, 0, y0, rfl, rfl, fD, atI_nat (j := 0) rfl, _, rfl, D, _, 1, y1, rfl, rfl, fD, atI_nat (j := 1) rfl, _, rfl, D, _, 2, y2, rfl, rfl, fD, atI_nat (j := 2) rfl, _, rfl, D, _, 3, y3, rfl, rfl, fD, atI_nat (j := 3) rfl, _, rfl, D, _, 4, y4, rfl, rfl, fD, atI_nat (j := 4) rfl, ?_⟩
        refine ⟨_, rfl, L, _, 0, .ref g, rfl, rfl, fL, atI_nat (j := 0) rfl, _, rfl, L, _, 1, .ref q, rfl, rfl, fL, atI_nat (j := 1) rfl, _, rfl, L, _, 2, .ref r, rfl, rfl, fL, atI_nat (j := 2) rfl, rfl, rfl, fun x dx nx ndx _ => ?_⟩
        have e4 := mk_in (C := CP) nx ndx
        have e24 := e3.trans e4
        refine ⟨x, dx, [y0, y1, y2, y3, y4, .ref g, .ref q, .ref r], s, rfl, upd_same, ⟨⟨_, _, _, _, _, _, _, _, rfl, r0.ext e24, r1.ext e24, r2.ext e24, r3.ext e24, r4.ext e24, ⟨g, rfl, .inl (SqL.of (e4 _ _ (e03 _ _ hgv)))⟩, .inr ⟨q, rfl, e4 _ _ (e03 _ _ hq)⟩, ⟨r, rfl, .inl (SqL.of (e4 _ _ (e03 _ _ hrs)))⟩⟩⟩, hg, fun H5 hk hp => ⟨rfl, ?_⟩⟩
        have nxH := ext_free e03 nx
        exact k x H5 (fun b o hb => hk b o (e4 _ _ (e03 _ _ hb)) (ne_of_none hb nxH)) nxH hp
end
end K33
end
section
set_option Elab.async false
set_option autoImplicit false
set_option linter.all false
set_option maxRecDepth 100000
set_option maxHeartbeats 4000000
set_option pp.maxSteps 1500
namespace K33
open PySem PySem.Spec PyProof.Rows L2 Ls
open C8 (pss_cut tCut)
open TL
/-! ### what is wanted, plain -/
def iw : List Dd → List Str → Str → Bool
  | [], rs, z => decide (z ∈ rs)
  | d :: ds, rs, z => if z ∈ d.2 then true else if d.1 = some z then false else iw ds rs z
/-- all names of a site -/
def wof (s : Pr) : List Str := (s.gv ++ (s.ag.map (·.1) ++ s.rs)) ++ (s.ds.map dn).flatten
theorem wof_nl (s : Pr) (z : Str) : z ∈ wof s ↔ z ∈ s.norm.nl := by
  have h1 : z ∈ ((s.ds.map fun d => ascF (dn d)).flatten) ↔ z ∈ ((s.ds.map dn).flatten) := by
    simp only [List.mem_flatten, List.mem_map]
    constructor
    · rintro ⟨_, ⟨d, hd, rfl⟩, hz⟩
      exact ⟨_, ⟨d, hd, rfl⟩, ascF_mem.mp hz⟩
    · rintro ⟨_, ⟨d, hd, rfl⟩, hz⟩
      exact ⟨_, ⟨d, hd, rfl⟩, ascF_mem.mpr hz⟩
  show z ∈ (s.gv ++ (s.ag.map (·.1) ++ s.rs)) ++ (s.ds.map dn).flatten ↔ z ∈ (s.ds.map fun d => ascF (dn d)).flatten ++ (ascF s.gv ++ ((agF s.ag (ascF (s.ag.map (·.1)))).map (·.1) ++ ascF s.rs))
  rw [agF_keys]
  simp only [List.mem_append, h1, ascF_mem]
  constructor
  · rintro (h | h)
    · exact .inr h
    · exact .inl h
  · rintro (h | h)
    · exact .inr h
    · exact .inl h
theorem PLst.list {H : Hp} {v : V} {o : Option (List Dd)} (h : PLst H v o) : ∃ xs, ((v = .non ∧ xs = []) ∨ ∃ t, v = .ref t ∧ H t = some (.lst xs)) ∧ SdsAt H xs (o.getD []) := by
  cases o with
  | none => exact ⟨[], .inl ⟨h, rfl⟩, .nil⟩
  | some ds =>
    obtain ⟨l, xs, rfl, h1, h2⟩ := h
    exact ⟨xs, .inr ⟨l, rfl, h1⟩, h2⟩
theorem StAt.val {H : Hp} {a : Addr} {s : Pr} (h : StAt H a s) : ∃ g q r kvs, H a = some (.dK kvs) ∧ valV kvs (Sum.inr "given") = some (.ref g) ∧ valV kvs (Sum.inr "again") = some (.ref q) ∧ valV kvs (Sum.inr "results") = some (.ref r) ∧
    (∀ (j : Nat) (z : Str), partsS[j]? = some z → ∃ v o, valV kvs (Sum.inr z) = some v ∧ s.pts[j]? = some o ∧ PLst H v o) ∧ H g = some (.lst (s.gv.map V.str)) ∧ H q = some (.dK (agK s.ag)) ∧ H r = some (.lst (s.rs.map V.str)) := by
  obtain ⟨g, q, l, b, sd, e, ah, r, ha, hgv, hq, hl, hb, hsd, he, hah, hrs⟩ := h.ex
  refine ⟨g, q, r, _, ha, by kernel_rfl, by kernel_rfl, by kernel_rfl, fun j z hz => ?_, hgv, hq, hrs⟩
  match j, hz with
  | 0, hz => cases hz; exact ⟨_, _, by kernel_rfl, rfl, hah⟩
  | 1, hz => cases hz; exact ⟨_, _, by kernel_rfl, rfl, hl⟩
  | 2, hz => cases hz; exact ⟨_, _, by kernel_rfl, rfl, hb⟩
  | 3, hz => cases hz; exact ⟨_, _, by kernel_rfl, rfl, hsd⟩
  | 4, hz => cases hz; exact ⟨_, _, by kernel_rfl, rfl, he⟩
  | j + 5, hz => simp [partsS] at hz
theorem flat_pre {α β : Type} {f : α → List β} : ∀ {l : List α} {i : Nat} {x : α}, l[i]? = some x → ∃ r, (l.map f).flatten = ((l.take i).map f).flatten ++ (f x ++ r)
  | y :: r, 0, x, h => by
    cases h
    exact ⟨(r.map f).flatten, rfl⟩
  | y :: r, i + 1, x, h => by
    obtain ⟨r', e⟩ := flat_pre (f := f) (l := r) (i := i) (x := x) (by simpa using h)
    exact ⟨r', by rw [List.map_cons, List.flatten_cons, e, List.take_succ_cons, List.map_cons, List.flatten_cons, List.append_assoc]⟩
theorem dn_len {d : Dd} (h : Good d) : (dn d).length ≤ 4 := by
  have := h.le
  have h1 : d.1.toList.length ≤ 1 := by cases d.1 <;> simp
  unfold dn
  rw [List.length_append]
  omega
theorem dns_len : ∀ {l : List Dd}, (∀ d ∈ l, Good d) → ((l.map dn).flatten).length ≤ 4 * l.length
  | [], _ => by simp
  | d :: r, h => by
    have h1 := dn_len (h d (by simp))
    have h2 := dns_len (l := r) fun d hd => h d (List.mem_cons_of_mem _ hd)
    rw [List.map_cons, List.flatten_cons, List.length_append, List.length_cons]
    omega
theorem flat_sub {cur : List Dd} (l : List Dd) (j : Nat) : (((cur ++ l.take j).map dn).flatten).length ≤ (((cur ++ l).map dn).flatten).length := by
  conv => rhs; rw [← List.take_append_drop j l, ← List.append_assoc, List.map_append, List.flatten_append, List.length_append]
  exact Nat.le_add_right _ _
section
variable {P : PySem.Program} {w : World} {K : PySem.W.Frag} {mg : Str → Option Value} {base : Heap} {CE CD CU CM CO CP tP : Addr} {tk : Str → Tok}
/-! ### _law_is_wanted -/
def spIW : Sp := fun vs H Q _ => ∃ (l r : Addr) (xs : List V) (ds : List Dd) (rs : List Str) (z : Str), vs = [.ref l, .ref r, .str z] ∧ H l = some (.lst xs) ∧ SdsAt H xs ds ∧ H r = some (.lst (rs.map V.str)) ∧ Q (.bl (iw ds rs z)) H
abbrev s__law_is_wanted : Stmt := top 77
abbrev N__law_is_wanted : List Str := ["_law_deeds_here", "_law_results_so", "_law_word", "_law_made", "_law_used"]
theorem sc__law_is_wanted : FnScope N__law_is_wanted ["_law_deeds_here", "_law_results_so", "_law_word"] (defScope s__law_is_wanted) := ⟨rfl, rfl, rfl, by decide +kernel, rfl, by decide +kernel, by decide +kernel⟩
theorem ok_iw {f : Addr} {fd : FuncData} (F : Fun K "_law_is_wanted" "_law_is_wanted" s__law_is_wanted f fd) (T : Tx K mg CE CD CU CM CO CP tP tk) :
    FnOk P w K mg base CX0 1 f fd ["_law_deeds_here", "_law_results_so", "_law_word"] spIW := by
  refine F.ok sc__law_is_wanted (fun vs H Q E h => ?_) (fun cdv A outer s H vs Q E hr h => ?_)
  · obtain ⟨l, r, xs, ds, rs, z, rfl, _⟩ := h
    rfl
  · obtain ⟨l, r, xs, ds, rs, z, rfl, hl, hs, hrs, k⟩ := h
    refine ⟨_, (pss_cons (ps_for PassesOwn.never rfl (pi_list (pv 0)) (pg_tup rfl (pgs_cons (pg_name (i := 3) sc__law_is_wanted.nd rfl (by first | exact Or.inl rfl | exact Or.inr rfl)) (pgs_cons (pg_name (i := 4) sc__law_is_wanted.nd rfl (by first | exact Or.inl rfl | exact Or.inr rfl)) pgs_nil)))
      (pss_cons (ps_if (pt_cmpR op_in_seq (pv 2) (pv 4) rfl) (pss_one (ps_ret pe_bl)) pss_nil)
      (pss_one (ps_if (pt_cmpR op_eq (pv 3) (pv 2) (nomark _)) (pss_one (ps_ret pe_bl)) pss_nil))))
      (pss_one (ps_ret (pe_cmpR op_in_seq (pv 2) (pv 1) rfl)))), ?_⟩
    refine ⟨_, rfl, l, rfl, ⟨_, SqL.of hl⟩, for_it (walk_list (K := K) (xs := xs)) (fun i σ' H' => ∃ x3 x4, σ' = [some (.ref l), some (.ref r), some (.str z), x3, x4] ∧ H' = H ∧ iw ds rs z = iw (ds.drop i) rs z) ⟨_, _, rfl, rfl, rfl⟩ (fun i σ' H' _ ⟨_, _, _, e, _⟩ => by subst e; exact SqL.of hl) ?_ ?_⟩
    · rintro i x σ' _ H3 hi ⟨x3, x4, rfl, rfl, hw⟩ ⟨rfl, hx⟩
      obtain ⟨d, hd, t, lu, rfl, ht, hlu⟩ := hs.2 i x hx
      have hdr : ds.drop i = d :: ds.drop (i + 1) := by
        obtain ⟨h2, h3⟩ := List.getElem?_eq_some_iff.mp hd
        rw [List.drop_eq_getElem_cons h2, h3]
      rw [hdr] at hw
      refine ⟨t, _, rfl, SqT.of ht, rfl, _, _, rfl, _, _, rfl, rfl, ?_⟩
      have hw2 : iw ds rs z = if z ∈ d.2 then true else if d.1 = some z then false else iw (ds.drop (i + 1)) rs z := hw
      refine ⟨_, rfl, _, rfl, lu, _, rfl, .inl (SqL.of hlu), rfl, flat_strs _, _, rfl, ?_⟩
      rw [inV_strs]
      by_cases h1 : z ∈ d.2
      · rw [if_pos h1] at hw2
        refine iteYes (decide_eq_true h1) ?_
        rwa [hw2] at k
      rw [if_neg h1] at hw2
      refine iteNo (decide_eq_false h1) ?_
      obtain ⟨m, us⟩ := d
      cases m with
      | none =>
        refine ⟨_, rfl, _, rfl, rfl, _, rfl, iteNo rfl ?_⟩
        exact ⟨_, _, rfl, rfl, hw2⟩
      | some m =>
        refine ⟨_, rfl, _, rfl, rfl, _, rfl, ?_⟩
        by_cases h2 : m = z
        · subst h2
          rw [if_pos rfl] at hw2
          refine iteYes (decide_eq_true rfl) ?_
          rwa [hw2] at k
        · rw [if_neg fun q => h2 (Option.some.inj q)] at hw2
          refine iteNo (decide_eq_false fun q => h2 (V.str.inj q)) ?_
          exact ⟨_, _, rfl, rfl, hw2⟩
    · rintro σ' H3 ⟨x3, x4, rfl, rfl, hw⟩
      rw [hs.1, List.drop_length] at hw
      refine ⟨_, rfl, _, rfl, r, _, rfl, .inl (SqL.of hrs), rfl, flat_strs _, ?_⟩
      rw [inV_strs]
      rwa [hw] at k
/-! ### _law_words_of -/
def spWO : Sp := fun vs H Q _ => ∃ (a : Addr) (s : Pr), vs = [.ref a] ∧ StAt H a s ∧ GoodP s ∧ s.ah.length ≤ 24 ∧ ∀ q ys H', Asc (wof s) ys → Ext H H' → H q = none → H' q = some (.lst (ys.map V.str)) → Q (.ref q) H'
abbrev s__law_words_of : Stmt := top 78
abbrev N__law_words_of : List Str := ["_law_site_here", "_law_found", "_law_part", "_law_made", "_law_used", "_law_word"]
theorem sc__law_words_of : FnScope N__law_words_of ["_law_site_here"] (defScope s__law_words_of) := ⟨rfl, rfl, rfl, by decide +kernel, rfl, by decide +kernel, by decide +kernel⟩
theorem ok_wo {f : Addr} {fd : FuncData} (F : Fun K "_law_words_of" "_law_words_of" s__law_words_of f fd) (T : Tx K mg CE CD CU CM CO CP tP tk) (c__law_order : Cal P w K mg base CX0 1 "_law_order" spOrd) :
    FnOk P w K mg base CX0 2 f fd ["_law_site_here"] spWO := by
  refine F.ok sc__law_words_of (fun vs H Q E h => ?_) (fun cdv A outer s0 H vs Q E hr h => ?_)
  · obtain ⟨a, s, rfl, _⟩ := h
    rfl
  · obtain ⟨a, s, rfl, hs, hg, h24, k⟩ := h
    have hu := hu_of hr
    refine ⟨_, (pss_cons (ps_set (i := 1) sc__law_words_of.nd rfl (by first | exact Or.inl rfl | exact Or.inr rfl) (pe_op op_cat (pe_op op_cat (pe_dget hu (pv 0) pe_str (fun _ _ => rfl)) (pe_callTy (call_list_dK rfl) (by rfl) (T.bn _ (by decide +kernel)) (by decide +kernel) (pa_cons (pe_dget hu (pv 0) pe_str (fun _ _ => rfl)) pa_nil))) (pe_dget hu (pv 0) pe_str (fun _ _ => rfl))))
      (pss_cons (ps_for PassesOwn.never rfl (pi_list (pe_cal0 c__law_order (hr.mono (by decide)) (by rfl) pass0)) (pg_name (i := 2) sc__law_words_of.nd rfl (by first | exact Or.inl rfl | exact Or.inr rfl))
      (pss_one (ps_for PassesOwn.never rfl (pi_list (pe_orNilL (K := K) rfl (pe_dget hu (pv 0) (pv 2) (fun _ _ => rfl)))) (pg_tup rfl (pgs_cons (pg_name (i := 3) sc__law_words_of.nd rfl (by first | exact Or.inl rfl | exact Or.inr rfl)) (pgs_cons (pg_name (i := 4) sc__law_words_of.nd rfl (by first | exact Or.inl rfl | exact Or.inr rfl)) pgs_nil)))
      (pss_one (ps_set (i := 1) sc__law_words_of.nd rfl (by first | exact Or.inl rfl | exact Or.inr rfl) (pe_op op_cat (pe_op op_cat (pv 1) (pv 4)) (pe_lc (own := [("_law_word", 5)]) rfl sc__law_words_of.nd (pi_list (pe_lst (pa_cons (pv 3) pa_nil))) (blkOk_by (own := [("_law_word", 5)]) (N := N__law_words_of) (sc := defScope s__law_words_of) (by decide +kernel)) (fun _ _ _ _ _ => (pg_name (i := 5) sc__law_words_of.nd rfl (by first | exact Or.inl rfl | exact Or.inr rfl))) (fun _ _ _ _ _ => pts_one (pt_cmpR op_notN (pv 5) pe_non (nomark _))) (fun _ _ _ _ _ => (pv 5)))))))))
      (pss_one (ps_ret (pe_callB (cr_sortT rfl) (by rfl) (T.bn _ (by decide +kernel)) (by decide +kernel) (pa_cons (pe_callTy (cr_setT rfl) (by rfl) (T.bn _ (by decide +kernel)) (by decide +kernel) (pa_cons (pe_lc (own := [("_law_word", 5)]) rfl sc__law_words_of.nd (pi_list (pv 1)) (blkOk_by (own := [("_law_word", 5)]) (N := N__law_words_of) (sc := defScope s__law_words_of) (by decide +kernel)) (fun _ _ _ _ _ => (pg_name (i := 5) sc__law_words_of.nd rfl (by first | exact Or.inl rfl | exact Or.inr rfl))) (fun _ _ _ _ _ => pts_nil) (fun _ _ _ _ _ => (pe_callTy SkE.call_str_str (by rfl) (T.bn _ (by decide +kernel)) (by decide +kernel) (pa_cons (pv 5) pa_nil)))) pa_nil)) pa_nil)))))), ?_⟩
    have val := hs.val
    obtain ⟨g, q, r, kvs, ha, v1, v2, v3, val, hgv, hq, hrs⟩ := val
    have gt : ∀ {H2 : Hp} {k : Str} {v : V}, Ext H H2 → valV kvs (Sum.inr k) = some v → DGet H2 a (.str k) (some v) := fun {H2 k v} e hv => by
      have := DGet.k (k := Sum.inr k) (e _ _ ha)
      rwa [hv] at this
    have z4 : sizeLine = 16777216 := sizeLine_eq
    have bg := hg.gl
    have bq := hg.ag.ln
    have br := hg.rl
    have bds : s.ds.length ≤ 120 := by
      have := ds_len s
      have := hg.sh.l1
      have := hg.sh.l2
      have := hg.sh.l3
      have := hg.sh.l4
      omega
    refine ⟨_, rfl, a, .ref g, rfl, gt Ext.rfl' v1, _, rfl, a, .ref q, rfl, gt Ext.rfl' v2, q, _, rfl, hq, fun qa nqa => ?_⟩
    have e1 : Ext H (upd H qa (.lst ((agK s.ag).map fun kv => kV kv.1))) := Ext.upd nqa
    have f1 : (upd H qa (.lst ((agK s.ag).map fun kv => kV kv.1))) qa = some (.lst ((s.ag.map (·.1)).map V.str)) := by rw [upd_same, ← agK_keys]; rfl
    generalize (upd H qa (.lst ((agK s.ag).map fun kv => kV kv.1))) = H1 at e1 f1
    refine ⟨g, qa, _, _, rfl, rfl, e1 _ _ hgv, f1, by rw [List.length_map, List.length_map, List.length_map]; omega, fun c1 nc1 => ?_⟩
    rw [← List.map_append]
    have e2 : Ext H1 (upd H1 c1 (.lst ((s.gv ++ s.ag.map (·.1)).map V.str))) := Ext.upd nc1
    have f2 : (upd H1 c1 (.lst ((s.gv ++ s.ag.map (·.1)).map V.str))) c1 = some (.lst ((s.gv ++ s.ag.map (·.1)).map V.str)) := upd_same
    generalize (upd H1 c1 (.lst ((s.gv ++ s.ag.map (·.1)).map V.str))) = H2 at e2 f2
    have e02 := e1.trans e2
    refine ⟨_, rfl, a, .ref r, rfl, gt e02 v3, c1, r, _, _, rfl, rfl, f2, e02 _ _ hrs, by rw [List.length_map, List.length_append, List.length_map, List.length_map]; omega, fun c2 nc2 => ?_⟩
    rw [← List.map_append, List.append_assoc]
    have e3 : Ext H2 (upd H2 c2 (.lst ((s.gv ++ (s.ag.map (·.1) ++ s.rs)).map V.str))) := Ext.upd nc2
    have f3 : (upd H2 c2 (.lst ((s.gv ++ (s.ag.map (·.1) ++ s.rs)).map V.str))) c2 = some (.lst ((s.gv ++ (s.ag.map (·.1) ++ s.rs)).map V.str)) := upd_same
    generalize (upd H2 c2 (.lst ((s.gv ++ (s.ag.map (·.1) ++ s.rs)).map V.str))) = H3 at e3 f3
    have e03 := e02.trans e3
    have lbase : (s.gv ++ (s.ag.map (·.1) ++ s.rs)).length ≤ 180 := by rw [List.length_append, List.length_append, List.length_map]; omega
    generalize hbase : s.gv ++ (s.ag.map (·.1) ++ s.rs) = base0 at f3 lbase
    refine ⟨rfl, fun o no => ?_⟩
    have e4 : Ext H3 (upd H3 o (.lst (partsS.map V.str))) := Ext.upd no
    have f4 : (upd H3 o (.lst (partsS.map V.str))) o = some (.lst (partsS.map V.str)) := upd_same
    have f34 := e4 _ _ f3
    have e04 := e03.trans e4
    generalize (upd H3 o (.lst (partsS.map V.str))) = H4 at e4 f4 f34 e04
    refine ⟨o, rfl, ⟨_, SqL.of f4⟩, for_it (walk_list (K := K) (xs := partsS.map V.str)) (fun i σ' H' => ∃ fa x2 x3 x4 x5, σ' = [some (.ref a), some (.ref fa), x2, x3, x4, x5] ∧ Ext H4 H' ∧ H' fa = some (.lst ((base0 ++ ((((s.pts.take i).map (·.getD [])).flatten).map dn).flatten).map V.str)))
      ⟨c2, _, _, _, _, rfl, Ext.rfl', by simpa using f34⟩ (fun i σ' H' _ ⟨_, _, _, _, _, _, e, _⟩ => SqL.of (e _ _ f4)) ?_ ?_⟩
    · rintro i x σ' _ H5 hi ⟨fa, x2, x3, x4, x5, rfl, e5, f5⟩ ⟨rfl, hx⟩
      rw [List.getElem?_map] at hx
      obtain ⟨z, hz, rfl⟩ := Option.map_eq_some_iff.mp hx
      obtain ⟨v, o', hv, ho, hpl⟩ := val i z hz
      obtain ⟨xs, hxs, hds⟩ := hpl.list
      have e05 := e04.trans e5
      have htk : s.pts.take (i + 1) = s.pts.take i ++ [o'] := by rw [List.take_add_one, ho]; rfl
      obtain ⟨rest, hpre⟩ := flat_pre (f := fun o : Option (List Dd) => o.getD []) ho
      rw [show (s.pts.map fun o => o.getD []).flatten = s.ds from rfl] at hpre
      have hnext : (((s.pts.take (i + 1)).map (·.getD [])).flatten) = ((s.pts.take i).map (·.getD [])).flatten ++ o'.getD [] := by rw [htk, List.map_append, List.flatten_append]; simp
      generalize (((s.pts.take i).map (·.getD [])).flatten) = cur at f5 hpre hnext
      have lall : (((cur ++ o'.getD []).map dn).flatten).length ≤ 480 := by
        have h1 := dns_len (l := cur ++ o'.getD []) fun d hd => hg.dg d (by
          rw [hpre]
          rcases List.mem_append.mp hd with h | h
          · exact List.mem_append_left _ h
          · exact List.mem_append_right _ (List.mem_append_left _ h))
        have h2 : (cur ++ o'.getD []).length ≤ s.ds.length := by rw [hpre, List.length_append, List.length_append, List.length_append]; omega
        omega
      refine ⟨_, rfl, _, rfl, a, v, rfl, gt e05 hv, xs, hxs.imp id (fun ⟨t, h1, h2⟩ => ⟨t, h1, (SqL.of h2).ext e05⟩), fun L H6 e6 hL => ?_⟩
      have e06 := e05.trans e6
      refine ⟨L, rfl, ⟨_, hL⟩, for_it (walk_list (K := K) (xs := xs)) (fun j σ' H' => ∃ fa x3 x4 x5, σ' = [some (.ref a), some (.ref fa), some (.str z), x3, x4, x5] ∧ Ext H6 H' ∧ H' fa = some (.lst ((base0 ++ ((cur ++ (o'.getD []).take j).map dn).flatten).map V.str)))
        ⟨fa, _, _, _, rfl, Ext.rfl', by simpa using e6 _ _ f5⟩ (fun j σ' H' _ ⟨_, _, _, _, _, e, _⟩ => hL.ext e) ?_ ?_⟩
      · rintro j y σ' _ H7 hj ⟨fb, y3, y4, y5, rfl, e7, f7⟩ ⟨rfl, hy⟩
        obtain ⟨d, hd, t, lu, rfl, ht, hlu⟩ := hds.2 j y hy
        have e07 := e06.trans e7
        refine ⟨t, _, rfl, SqT.of (e07 _ _ ht), rfl, _, _, rfl, _, _, rfl, rfl, ?_⟩
        have hj1 : (cur ++ (o'.getD []).take (j + 1)) = (cur ++ (o'.getD []).take j) ++ [d] := by rw [List.take_add_one, hd, List.append_assoc]; rfl
        have lj : (((cur ++ (o'.getD []).take j).map dn).flatten).length ≤ 480 := Nat.le_trans (flat_sub (o'.getD []) j) lall
        have ld := dn_len (hg.dg d (by rw [hpre]; exact List.mem_append_right _ (List.mem_append_left _ (List.mem_of_getElem? hd))))
        have ld2 : d.2.length ≤ 4 := by unfold dn at ld; rw [List.length_append] at ld; omega
        have eF : base0 ++ (((cur ++ (o'.getD []).take (j + 1)).map dn).flatten) = (base0 ++ ((cur ++ (o'.getD []).take j).map dn).flatten) ++ d.2 ++ d.1.toList := by
          rw [hj1, List.map_append, List.flatten_append]
          simp [dn]
        rw [eF]
        clear eF hj1
        have lF : (base0 ++ ((cur ++ (o'.getD []).take j).map dn).flatten).length ≤ 700 := by rw [List.length_append]; omega
        generalize (base0 ++ ((cur ++ (o'.getD []).take j).map dn).flatten) = F0 at f7 lF ⊢
        refine ⟨_, rfl, _, rfl, fb, lu, _, _, rfl, rfl, f7, e07 _ _ hlu, by rw [List.length_map, List.length_map]; omega, fun p1 np1 => ?_⟩
        rw [← List.map_append]
        have e8 : Ext H7 (upd H7 p1 (.lst ((F0 ++ d.2).map V.str))) := Ext.upd np1
        have f8 : (upd H7 p1 (.lst ((F0 ++ d.2).map V.str))) p1 = some (.lst ((F0 ++ d.2).map V.str)) := upd_same
        generalize (upd H7 p1 (.lst ((F0 ++ d.2).map V.str))) = H8 at e8 f8
        refine ⟨_, rfl, (by show 1 ≤ sizeLine; decide), fun M nM => ?_⟩
        have e9 : Ext H8 (upd H8 M (.lst [madeV d])) := Ext.upd nM
        have f9 : (upd H8 M (.lst [madeV d])) M = some (.lst [madeV d]) := upd_same
        have f89 := e9 _ _ f8
        generalize (upd H8 M (.lst [madeV d])) = H9 at e9 f9 f89
        refine ⟨M, rfl, ⟨_, SqL.of f9⟩, fun D hD => ?_⟩
        refine lc_pure (walk_list (K := K) (xs := [madeV d])) (fun v => if v = .non then none else some v) (by simp) (fun l => SqL.of (at_new hD f9)) (fun i x l C N hx hC hN => ?_) ?_
        · have hx' : x = madeV d := by
            match i, hx with
            | 0, hx => cases hx; rfl
            | i + 1, hx => simp at hx
          subst hx'
          obtain ⟨m, us⟩ := d
          cases m with
          | none => exact ⟨rfl, _, rfl, rfl, _, rfl, iteNo rfl (hN (if_pos rfl))⟩
          | some m => exact ⟨rfl, _, rfl, rfl, _, rfl, iteYes rfl ⟨_, rfl, hC _ (if_neg (by intro q; cases q))⟩⟩
        · have eM : [madeV d].filterMap (fun v => if v = .non then none else some v) = d.1.toList.map V.str := by
            obtain ⟨m, us⟩ := d
            cases m with
            | none => rfl
            | some m => rfl
          rw [eM]
          have e10 : Ext H9 (upd H9 D (.lst (d.1.toList.map V.str))) := Ext.upd hD
          have f10 : (upd H9 D (.lst (d.1.toList.map V.str))) D = some (.lst (d.1.toList.map V.str)) := upd_same
          generalize (upd H9 D (.lst (d.1.toList.map V.str))) = H10 at e10 f10
          have ld1 : d.1.toList.length ≤ 1 := by cases d.1 <;> simp
          refine ⟨p1, D, _, _, rfl, rfl, e10 _ _ f89, f10, by rw [List.length_map, List.length_map, List.length_append]; omega, fun p2 np2 => ?_⟩
          rw [← List.map_append]
          exact ⟨p2, _, _, _, rfl, ((e7.trans e8).trans e9).trans (e10.trans (Ext.upd np2)), upd_same⟩
      · rintro σ' H7 ⟨fb, y3, y4, y5, rfl, e7, f7⟩
        rw [hds.1, List.take_length, ← hnext] at f7
        exact ⟨fb, _, _, _, _, rfl, (e5.trans e6).trans e7, f7⟩
    · rintro σ' H5 ⟨fa, x2, x3, x4, x5, rfl, e5, f5⟩
      have hfin : base0 ++ (((((s.pts.take (partsS.map V.str).length).map (·.getD [])).flatten).map dn).flatten) = wof s := by rw [← hbase]; rfl
      rw [hfin] at f5
      have lw : (wof s).length ≤ 1000 := by
        have h1 := dns_len hg.dg
        have h2 : wof s = base0 ++ ((s.ds.map dn).flatten) := by rw [← hbase]; rfl
        rw [h2, List.length_append]
        omega
      have hsub : ∀ z ∈ wof s, z ∈ ascF s.norm.nl := fun z hz => ascF_mem.mpr ((wof_nl s z).mp hz)
      have l6 := hg.six
      clear hfin hbase val f34 hs
      generalize wof s = zs at f5 k lw hsub
      have lz : (zs.map V.str).length = zs.length := List.length_map _
      have e05 := e04.trans e5
      have ht := SqL.of (K := K) f5
      refine ⟨_, rfl, fa, rfl, ⟨_, ht⟩, fun D hD => ?_⟩
      refine lc_map (walk_list (K := K) (xs := zs.map V.str)) [D] (by simp) (fun H' => Ext H5 H') (fun j y _ => ∃ z, zs[j]? = some z ∧ y = .str z) (by omega) (fun _ _ _ _ _ h => h)
        (fun H' o hh b o' z => by rw [upd_ne (ne_of_none z hD)]; exact hh b o' z) (Ext.upd hD) (fun H' _ hh => ht.ext hh) ?_ ?_
      · rintro j x H8 _ acc C hj e hh8 hD8 ⟨rfl, hx⟩ hC
        rw [List.getElem?_map] at hx
        obtain ⟨y, hy, rfl⟩ := Option.map_eq_some_iff.mp hx
        exact ⟨rfl, _, rfl, _, rfl, hC _ _ hD8 Ext.rfl' hh8 ⟨y, hy, rfl⟩⟩
      · intro H8 ys e hh8 hD8 hlen8 hy8
        have hzs := list_of_get (by rw [lz] at hlen8; exact hlen8) hy8
        subst hzs
        refine ⟨D, zs, rfl, SqL.of hD8, by omega, fun S M1 nS nd lM mM => ?_⟩
        have e9 : Ext H8 (upd H8 S (SetT w S M1)) := Ext.upd nS
        refine ⟨S, M1, rfl, upd_same, Nat.lt_of_le_of_lt (nodup_len nd fun z hz => hsub z ((mM z).mp hz)) (by omega), fun ys p pm so np => ?_⟩
        exact k p ys _ ⟨pm.nodup_iff.mpr nd, so, fun y => by rw [pm.mem_iff, mM]⟩ ((e05.trans hh8).trans (e9.trans (Ext.upd np))) (ext_free ((e05.trans hh8).trans e9) np) upd_same
/-! ### _law_wanted -/
def wantF (s : Pr) (ds : List Dd) : List Str := (ascF (wof s)).filter (iw ds s.rs)
def spLW : Sp := fun vs H Q _ => ∃ (a l : Addr) (s : Pr) (xs : List V) (ds : List Dd), vs = [.ref a, .ref l] ∧ StAt H a s ∧ GoodP s ∧ s.ah.length ≤ 24 ∧ H l = some (.lst xs) ∧ SdsAt H xs ds ∧ ∀ q H', Ext H H' → H q = none → H' q = some (.tup ((wantF s ds).map V.str)) → Q (.ref q) H'
abbrev s__law_wanted : Stmt := top 79
abbrev N__law_wanted : List Str := ["_law_site_here", "_law_deeds_here", "_law_known", "_law_word"]
theorem sc__law_wanted : FnScope N__law_wanted ["_law_site_here", "_law_deeds_here"] (defScope s__law_wanted) := ⟨rfl, rfl, rfl, by decide +kernel, rfl, by decide +kernel, by decide +kernel⟩
theorem ok_lw {f : Addr} {fd : FuncData} (F : Fun K "_law_wanted" "_law_wanted" s__law_wanted f fd) (T : Tx K mg CE CD CU CM CO CP tP tk) (c__law_words_of : Cal P w K mg base CX0 2 "_law_words_of" spWO) (c__law_is_wanted : Cal P w K mg base CX0 1 "_law_is_wanted" spIW) :
    FnOk P w K mg base CX0 3 f fd ["_law_site_here", "_law_deeds_here"] spLW := by
  refine F.ok sc__law_wanted (fun vs H Q E h => ?_) (fun cdv A outer s0 H vs Q E hr h => ?_)
  · obtain ⟨a, l, s, xs, ds, rfl, _⟩ := h
    rfl
  · obtain ⟨a, l, s, xs, ds, rfl, hs, hg, h24, hl, hds, k⟩ := h
    have hu := hu_of hr
    refine ⟨_, (pss_cons (ps_set (i := 2) sc__law_wanted.nd rfl (by first | exact Or.inl rfl | exact Or.inr rfl) (pe_cal c__law_words_of (hr.mono (by decide)) (by rfl) pass0 (pa_cons (pv 0) pa_nil)))
      (pss_one (ps_ret (pe_callTy call_tuple_of (by rfl) (T.bn _ (by decide +kernel)) (by decide +kernel) (pa_cons (pe_lc (own := [("_law_word", 3)]) rfl sc__law_wanted.nd (pi_list (pv 2)) (blkOk_by (own := [("_law_word", 3)]) (N := N__law_wanted) (sc := defScope s__law_wanted) (by decide +kernel)) (fun _ _ _ _ _ => (pg_name (i := 3) sc__law_wanted.nd rfl (by first | exact Or.inl rfl | exact Or.inr rfl))) (fun _ _ _ _ _ => pts_one (pt_val (pe_cal c__law_is_wanted (hr.mono (by decide)) (by rfl) pass0 (pa_cons (pv 1) (pa_cons (pe_dget hu (pv 0) pe_str (fun _ _ => rfl)) (pa_cons (pv 3) pa_nil)))))) (fun _ _ _ _ _ => (pv 3))) pa_nil))))), ?_⟩
    refine ⟨_, rfl, a, s, rfl, hs, hg, h24, fun kq ys H1 as e1 nk fk => ?_⟩
    obtain ⟨g, q, r, kvs, ha, v1, v2, v3, val, hgv, hq, hrs⟩ := hs.val
    have l6 := hg.six
    have lys : ys.length ≤ 6 := Nat.le_trans (nodup_len as.1 fun z hz => ascF_mem.mpr ((wof_nl s z).mp ((as.2.2 z).mp hz))) l6
    have eas := as.eq
    subst eas
    have gt : ∀ {H2 : Hp}, Ext H1 H2 → DGet H2 a (.str "results") (some (.ref r)) := fun {H2} e => by
      have := DGet.k (k := Sum.inr "results") (e _ _ (e1 _ _ ha))
      rwa [v3] at this
    refine ⟨_, rfl, kq, rfl, ⟨_, SqL.of fk⟩, fun D hD => ?_⟩
    refine lc_strs (walk_list (K := K) (xs := (ascF (wof s)).map V.str)) (fun z => if iw ds s.rs z = true then some (.str z) else none) (by omega) (fun l => SqL.of (at_new hD fk)) (fun i z l' C N hz hC hN => ?_) ?_
    · have e2 : Ext H1 (upd H1 D (.lst l')) := Ext.upd hD
      refine ⟨rfl, _, rfl, _, rfl, a, .ref r, rfl, gt e2, _, rfl, l, r, xs, ds, s.rs, z, rfl, e2 _ _ (e1 _ _ hl), (hds.ext e1).ext e2, e2 _ _ (e1 _ _ hrs), _, rfl, ?_⟩
      by_cases h : iw ds s.rs z = true
      · rw [if_pos h] at hC
        exact iteYes h ⟨_, rfl, hC _ rfl⟩
      · rw [if_neg h] at hN
        exact iteNo (by simpa using h) (hN rfl)
    · rw [fm_if (fun z => iw ds s.rs z = true) V.str]
      have e2 : Ext H1 (upd H1 D (.lst (((ascF (wof s)).filter fun z => decide (iw ds s.rs z = true)).map V.str))) := Ext.upd hD
      refine ⟨D, _, rfl, .inl ⟨SqL.of upd_same, fun t nt => ?_⟩⟩
      refine k t _ ((e1.trans e2).trans (Ext.upd nt)) (ext_free (e1.trans e2) nt) ?_
      rw [upd_same]
      congr 4
      funext z
      simp
end
end K33
end
section
set_option Elab.async false
set_option autoImplicit false
set_option linter.all false
set_option maxRecDepth 100000
set_option maxHeartbeats 4000000
set_option pp.maxSteps 1500
namespace K33
open PySem PySem.Spec PyProof.Rows L2 Ls
open C8 (pss_cut tCut)
open TL
/-! ### plain: what is needed is what is wanted -/
theorem bck_iw : ∀ {ds : List Dd} {ns : List Str} {z : Str}, z ∈ bck ds ns ↔ iw ds ns z = true
  | [], ns, z => by
    show z ∈ ns ↔ decide (z ∈ ns) = true
    rw [decide_eq_true_eq]
  | d :: r, ns, z => by
    show z ∈ ahd d (bck r ns) ↔ (if z ∈ d.2 then true else if d.1 = some z then false else iw r ns z) = true
    rw [ahd_mem, bck_iw (ds := r)]
    by_cases h1 : z ∈ d.2
    · simp [h1]
    · by_cases h2 : d.1 = some z
      · simp [h1, h2]
      · have h3 : some z ≠ d.1 := fun e => h2 e.symm
        simp [h1, h2, h3]
theorem iw_congr : ∀ {ds : List Dd} {ns ms : List Str} {z : Str}, (z ∈ ns ↔ z ∈ ms) → iw ds ns z = iw ds ms z
  | [], ns, ms, z, h => by
    show decide (z ∈ ns) = decide (z ∈ ms)
    rw [Bool.eq_iff_iff, decide_eq_true_eq, decide_eq_true_eq, h]
  | d :: r, ns, ms, z, h => by
    show (if z ∈ d.2 then true else if d.1 = some z then false else iw r ns z) = (if z ∈ d.2 then true else if d.1 = some z then false else iw r ms z)
    rw [iw_congr (ds := r) h]
theorem iw_in : ∀ {ds : List Dd} {ns : List Str} {z : Str}, iw ds ns z = true → z ∈ (ds.map dn).flatten ∨ z ∈ ns
  | [], ns, z, h => .inr (of_decide_eq_true (show decide (z ∈ ns) = true from h))
  | d :: r, ns, z, h => by
    have h : (if z ∈ d.2 then true else if d.1 = some z then false else iw r ns z) = true := h
    rw [List.map_cons, List.flatten_cons]
    by_cases h1 : z ∈ d.2
    · exact .inl (List.mem_append_left _ (List.mem_append_left _ h1))
    · rw [if_neg h1] at h
      by_cases h2 : d.1 = some z
      · rw [if_pos h2] at h
        cases h
      · rw [if_neg h2] at h
        exact (iw_in h).imp (fun h => List.mem_append_right _ h) id
/-- in the signs' order, each once -/
def Up (ys : List Str) : Prop := ys.Pairwise fun a b => tl a < tl b
theorem Up.asc {ys : List Str} (h : Up ys) : Asc ys ys := ⟨pw_nodup h, pw_sorted h, fun _ => Iff.rfl⟩
theorem bck_up {ds : List Dd} {ns : List Str} (h : Up ns) : Up (bck ds ns) := by
  cases ds with
  | nil => exact h
  | cons d r => exact ascF_pw _
theorem up_eq {ys zs : List Str} (h : Up ys) (g : Up zs) (e : ∀ y, y ∈ ys ↔ y ∈ zs) : ys = zs := h.asc.uniq g.asc e
theorem want_up (s : Pr) (ds : List Dd) : Up (wantF s ds) := List.Pairwise.filter _ (ascF_pw _)
theorem want_mem {s : Pr} {ds : List Dd} (h : ∀ d ∈ ds, d ∈ s.ds) {z : Str} : z ∈ wantF s ds ↔ iw ds s.rs z = true := by
  unfold wantF
  rw [List.mem_filter, ascF_mem]
  refine ⟨fun h => h.2, fun g => ⟨?_, g⟩⟩
  rcases iw_in g with g | g
  · obtain ⟨_, hl, hz⟩ := List.mem_flatten.mp g
    obtain ⟨d, hd, rfl⟩ := List.mem_map.mp hl
    exact List.mem_append_right _ (List.mem_flatten.mpr ⟨_, List.mem_map.mpr ⟨d, h d hd, rfl⟩, hz⟩)
  · exact List.mem_append_left _ (List.mem_append_right _ (List.mem_append_right _ g))
/-- any road back over deeds of the program that agrees with a straight one -/
theorem want_of {s : Pr} {ds : List Dd} {ys : List Str} (h : ∀ d ∈ ds, d ∈ s.ds) (hy : Up ys) (e : ∀ z, z ∈ ys ↔ iw ds s.rs z = true) : ys = wantF s ds := up_eq hy (want_up s ds) fun z => (e z).trans (want_mem h).symm
theorem bck_want {s : Pr} {ds : List Dd} (h : ∀ d ∈ ds, d ∈ s.ds) : bck ds (ascF s.rs) = wantF s ds :=
  want_of h (bck_up (ascF_pw _)) fun z => bck_iw.trans (by rw [iw_congr (ms := s.rs) ascF_mem])
theorem iw_app {ds es : List Dd} {ns : List Str} {z : Str} : iw (ds ++ es) ns z = iw ds (bck es ns) z := by
  induction ds with
  | nil =>
    show iw es ns z = decide (z ∈ bck es ns)
    rw [Bool.eq_iff_iff, decide_eq_true_eq, bck_iw]
  | cons d r ih =>
    show (if z ∈ d.2 then true else if d.1 = some z then false else iw (r ++ es) ns z) = (if z ∈ d.2 then true else if d.1 = some z then false else iw r (bck es ns) z)
    rw [ih]
/-- the names of a wanted tuple are names -/
theorem want_nm {s : Pr} {ds : List Dd} (hg : GoodP s) : ∀ z ∈ wantF s ds, isName z = true := fun z hz => by
  have h1 := ascF_mem.mp (List.mem_filter.mp hz).1
  rcases List.mem_append.mp h1 with h | h
  · rcases List.mem_append.mp h with h | h
    · exact hg.gn z h
    · rcases List.mem_append.mp h with h | h
      · exact hg.ag.nm z h
      · exact hg.rn z h
  · obtain ⟨_, hl, hz⟩ := List.mem_flatten.mp h
    obtain ⟨d, hd, rfl⟩ := List.mem_map.mp hl
    have gd := hg.dg d hd
    rcases List.mem_append.mp hz with h | h
    · exact gd.nm z h
    · exact gd.mn z (by cases e : d.1 with
        | none => rw [e] at h; cases h
        | some m => rw [e] at h; cases h with
          | head => rfl
          | tail _ h => cases h)
theorem want_len {s : Pr} {ds : List Dd} (hg : GoodP s) : (wantF s ds).length ≤ 6 := by
  have h1 := nodup_len (ascF_ok (wof s)).1 fun z hz => ascF_mem.mpr ((wof_nl s z).mp (ascF_mem.mp hz))
  exact Nat.le_trans (List.length_filter_le _ _) (Nat.le_trans h1 hg.six)
theorem SdsAt.drop {H : Hp} {xs : List V} {ds : List Dd} (h : SdsAt H xs ds) (m : Nat) : SdsAt H (xs.drop m) (ds.drop m) := by
  refine ⟨by rw [List.length_drop, List.length_drop, h.1], fun i x q => ?_⟩
  rw [List.getElem?_drop] at q
  obtain ⟨d, h1, h2⟩ := h.2 _ x q
  exact ⟨d, by rw [List.getElem?_drop]; exact h1, h2⟩
/-! ### tuples of names as data -/
def ndT (ys : List Str) : PyData := .tuple (ys.map .str)
theorem lt_256 : ∀ c ∈ tl lettersS, c < 256 := by decide +kernel
theorem name_sok {z : Str} (h : isName z = true) : PyData.strOk z = true := by
  show (z.cps.all fun c => decide (c < 0x110000)) = true
  rw [← Array.all_toList, List.all_eq_true]
  exact fun c hc => decide_eq_true (Nat.lt_trans (lt_256 c (name_sub h c hc)) (by decide))
theorem name_oks {z : Str} (h : isName z = true) : OkS 6 z := ⟨(name_len h).2, fun c hc => lt_256 c (name_sub h c hc)⟩
theorem dp_strs {K : PySem.W.Frag} {H : Hp} : ∀ l : List Str, DpAll K H (l.map V.str) (l.map .str)
  | [] => .nil
  | _ :: l => .cons (.str _) (dp_strs l)
theorem dp_nd {K : PySem.W.Frag} {H : Hp} {q : Addr} {ys : List Str} (h : H q = some (.tup (ys.map V.str))) : Dp K H (.ref q) (ndT ys) := .tup (SqT.of h) (dp_strs _)
theorem tv_nd {H : Hp} {q : Addr} {ys : List Str} (h : H q = some (.tup (ys.map V.str))) : TV H (.ref q) (ndT ys) := .tup h (tvs_strs _)
theorem nd_dp {ys : List Str} : (ndT ys).depth ≤ 1 := depth_tup fun d hd => by
  obtain ⟨z, _, rfl⟩ := List.mem_map.mp hd
  exact Nat.le_refl _
theorem nd_shw {ys : List Str} (h : ∀ z ∈ ys, isName z = true) (hl : ys.length ≤ 6) : Shw 1000 (ndT ys) := by
  have := Shw.tupN (n := 62) (k := 0) (ds := ys.map .str) (fun d hd => by
    obtain ⟨z, hz, rfl⟩ := List.mem_map.mp hd
    exact Shw.str (name_oks (h z hz))) (fun d hd => by
    obtain ⟨z, hz, rfl⟩ := List.mem_map.mp hd
    exact Nat.le_refl _) (by decide)
  refine this.mono ?_
  rw [List.length_map]
  omega
theorem nd_shaped {ys : List Str} (h : ∀ z ∈ ys, isName z = true) : SeqAt.shaped (ndT ys) = true := shaped_strs _ fun z hz => name_sok (h z hz)
theorem nd_eqv (us vs : List Str) : PyData.eqv (ndT us) (ndT vs) = decide (us = vs) := eqvAll_strs us vs
theorem nds_lay : ∀ {L : List (List Str)}, (∀ ys ∈ L, ∀ z ∈ ys, isName z = true) → PyData.canLayAll0 (L.map ndT) = true
  | [], _ => rfl
  | ys :: r, h => by
    have h1 : PyData.canLay0 (ndT ys) = true := lay_strs ys fun z hz => name_sok (h ys (by simp) z hz)
    show (PyData.canLay0 (ndT ys) && PyData.canLayAll0 (r.map ndT)) = true
    rw [h1, nds_lay fun ys hy => h ys (List.mem_cons_of_mem _ hy)]
    rfl
def ndL (L : List (List Str)) : PyData := .list (L.map ndT)
theorem ndl_shaped {L : List (List Str)} (h : ∀ ys ∈ L, ∀ z ∈ ys, isName z = true) : SeqAt.shaped (ndL L) = true := by
  have hd : (ndL L).depth ≤ 2 := depth_lst fun d hd => by
    obtain ⟨ys, _, rfl⟩ := List.mem_map.mp hd
    exact nd_dp
  show (PyData.canLay0 (ndL L) && decide ((ndL L).depth ≤ 64)) = true
  rw [decide_eq_true (Nat.le_trans hd (by decide)), Bool.and_true]
  exact nds_lay h
theorem ndl_refl {L : List (List Str)} (h : ∀ ys ∈ L, ∀ z ∈ ys, isName z = true) : PyData.eqv (ndL L) (ndL L) = true := SeqAt.eqv_refl _ (nds_lay h)
end K33
end
section
set_option Elab.async false
set_option autoImplicit false
set_option linter.all false
set_option maxRecDepth 100000
set_option maxHeartbeats 4000000
set_option pp.maxSteps 1500
namespace K33
open PySem PySem.Spec PyProof.Rows L2 Ls
open C8 (pss_cut tCut)
open TL
/-! ### the ways needed is asked -/
def spNeD (K : PySem.W.Frag) (cl : Dd → Addr) (CP : Addr) : Sp := fun vs H Q E => spNe K cl CP (vs ++ [.bl true, .bl true, .bl true]) H Q E
theorem neD {K : PySem.W.Frag} {cl : Dd → Addr} {CP : Addr} {H : Hp} {x b : Addr} {Q : VK} {E : XK} (h : spNe K cl CP [.ref x, .ref b, .bl true, .bl true, .bl true] H Q E) : spNeD K cl CP [.ref x, .ref b] H Q E := h
section
variable {K : PySem.W.Frag} {f : Addr} {fd : FuncData}
abbrev FNe (K : PySem.W.Frag) (f : Addr) (fd : FuncData) : Prop := FunD K "needed" "needed" (defArgs s_needed) (defBody s_needed) (defScope s_needed) [] [("first", V.bl true), ("further", V.bl true), ("second", V.bl true)] f fd
abbrev pNe : List Str := ["program", "place", "first", "further", "second"]
theorem ne_all (F : FNe K f fd) : ∃ ds, Vals [V.bl true, V.bl true, V.bl true] ds ∧ Binds K fd pNe ds :=
  F.binds0 (ps := pNe) 2 (by simp) rfl fun D doc pm an cdv ct us ks h1 h2 => match us, ks, h1, h2 with
    | [_, _], [_, _, _], _, _ => ⟨_, _, _, _, _, _, rfl, rfl, _, _, _, _, _, _, rfl, rfl, _, _, _, _, _, _, rfl, rfl, rfl⟩
abbrev FPr (K : PySem.W.Frag) (t1 t2 t3 t4 t5 : Addr) (f : Addr) (fd : FuncData) : Prop := FunD K "__init__" "Program.__init__" (defArgs s_Program_init) (defBody s_Program_init) (defScope s_Program_init) [V.ref t1, V.non, V.ref t2, V.non, V.ref t3] [("given", V.ref t4), ("again", V.non), ("results", V.ref t5)] f fd
abbrev pPr : List Str := ["self", "ahead", "loop", "between", "second", "behind", "given", "again", "results"]
variable {t1 t2 t3 t4 t5 : Addr}
theorem pr_gar (F : FPr K t1 t2 t3 t4 t5 f fd) : ∃ g, KBn K fd pPr 6 ["given", "again", "results"] g (fun vs zs => vs ++ zs) := by
  obtain ⟨its, mv, hb⟩ := F.kbinds (ps := pPr) 6 ["given", "again", "results"] [] (fun us its mv ws => us ++ ws) (by simp) (by simp) (by simp) (fun r d m z => r.append z)
    fun T D doc pm an cdv ct us its mv ws h1 h2 h3 h4 => match us, its, mv, ws, h1, h2, h3, h4 with
      | [_, _, _, _, _, _], [_, _, _, _, _], [], [_, _, _], _, _, _, _ => ⟨_, rfl, rfl⟩
  exact ⟨_, hb⟩
end
end K33
end
section
set_option Elab.async false
set_option autoImplicit false
set_option linter.all false
set_option maxRecDepth 100000
set_option maxHeartbeats 4000000
set_option pp.maxSteps 1500
namespace K33
open PySem PySem.Spec PyProof.Rows L2 Ls
open C8 (pss_cut tCut)
open TL
/-! ### plain: rounds -/
theorem iw_way (L : List Dd) (z : Str) : (∀ ns, iw L ns z = true) ∨ (∀ ns, iw L ns z = false) ∨ ∀ ns, iw L ns z = decide (z ∈ ns) := by
  induction L with
  | nil => exact .inr (.inr fun ns => rfl)
  | cons d r ih =>
    have e : ∀ ns, iw (d :: r) ns z = if z ∈ d.2 then true else if d.1 = some z then false else iw r ns z := fun ns => rfl
    by_cases h1 : z ∈ d.2
    · exact .inl fun ns => by rw [e, if_pos h1]
    by_cases h2 : d.1 = some z
    · exact .inr (.inl fun ns => by rw [e, if_neg h1, if_pos h2])
    · rcases ih with ih | ih | ih
      · exact .inl fun ns => by rw [e, if_neg h1, if_neg h2, ih]
      · exact .inr (.inl fun ns => by rw [e, if_neg h1, if_neg h2, ih])
      · exact .inr (.inr fun ns => by rw [e, if_neg h1, if_neg h2, ih])
theorem iw_twice (L : List Dd) (ns : List Str) (z : Str) : iw L (bck L ns) z = iw L ns z := by
  rcases iw_way L z with h | h | h
  · rw [h, h]
  · rw [h, h]
  · rw [h (bck L ns), Bool.eq_iff_iff, decide_eq_true_eq, bck_iw]
/-- a loop's rounds, one or more, need what one round needs -/
theorem iw_rounds (L X : List Dd) (ns : List Str) (z : Str) : ∀ r : Nat, iw ((List.replicate (r + 1) L).flatten ++ X) ns z = iw L (bck X ns) z
  | 0 => by rw [show (List.replicate 1 L).flatten = L by simp, iw_app]
  | r + 1 => by
    rw [List.replicate_succ, List.flatten_cons, List.append_assoc, iw_app, ← iw_twice L (bck X ns)]
    refine iw_congr ?_
    rw [bck_iw, bck_iw, iw_rounds L X ns z r]
section
variable {s : Pr} {L X : List Dd}
theorem rd1 (hl : s.lp = some L) (hX : ∀ d ∈ X, d ∈ s.ds) {r : Nat} (hr : 1 ≤ r) : bck X (bck L (bck s.bh (ascF s.rs))) = wantF s (X ++ (List.replicate r L).flatten ++ s.bh) := by
  have hL : ∀ d ∈ L, d ∈ s.ds := fun d hd => List.mem_flatten.mpr ⟨L, by simp [Pr.pts, hl], hd⟩
  have hB : ∀ d ∈ s.bh, d ∈ s.ds := fun d hd => List.mem_flatten.mpr ⟨s.bh, by simp [Pr.pts], hd⟩
  refine want_of (fun d hd => ?_) (bck_up (bck_up (bck_up (ascF_pw _)))) fun z => ?_
  · rcases List.mem_append.mp hd with h | h
    · rcases List.mem_append.mp h with h | h
      · exact hX d h
      · obtain ⟨l, hl, hd⟩ := List.mem_flatten.mp h
        rw [List.eq_of_mem_replicate hl] at hd
        exact hL d hd
    · exact hB d h
  · obtain ⟨r, rfl⟩ : ∃ r', r = r' + 1 := ⟨r - 1, by omega⟩
    rw [List.append_assoc, iw_app, bck_iw]
    refine Eq.to_iff (congrArg (· = true) (iw_congr ?_))
    rw [bck_iw, bck_iw, iw_rounds]
    refine Eq.to_iff (congrArg (· = true) (iw_congr ?_))
    rw [bck_iw, bck_iw, iw_congr ascF_mem]
theorem rd0 (hX : ∀ d ∈ X, d ∈ s.ds) : bck X (bck s.bh (ascF s.rs)) = wantF s (X ++ s.bh) := by
  have hB : ∀ d ∈ s.bh, d ∈ s.ds := fun d hd => List.mem_flatten.mpr ⟨s.bh, by simp [Pr.pts], hd⟩
  refine want_of (fun d hd => ?_) (bck_up (bck_up (ascF_pw _))) fun z => ?_
  · exact (List.mem_append.mp hd).elim (hX d) (hB d)
  · rw [iw_app, bck_iw]
    refine Eq.to_iff (congrArg (· = true) (iw_congr ?_))
    rw [bck_iw, bck_iw, iw_congr ascF_mem]
theorem shp_one (hs : Shp s) (h : s.sd = none) : s.bt = [] := Classical.byContradiction fun n => (hs.bt n).2 h
theorem bl_one (hs : Shp s) (h : s.sd = none) (x se : Bool) : blF s.norm x se = bck s.bh (ascF s.rs) := by
  have h1 := shp_one hs h
  unfold blF
  show (if x = true then bck s.bt (if se = true then bck (s.sd.getD []) (bck s.bh (ascF s.rs)) else bck s.bh (ascF s.rs)) else bck s.bh (ascF s.rs)) = _
  rw [h1, h]
  cases x <;> cases se <;> rfl
theorem ae_ahead (hs : Shp s) (hl : s.lp = some L) (h : s.sd = none) (fi fu se : Bool) : aeF s.norm "ahead" fi fu se = if fi then bck L (bck s.bh (ascF s.rs)) else bck s.bh (ascF s.rs) := by
  have n1 : ¬ (("ahead" : Str) = "behind") := by decide +kernel
  have n2 : ¬ (("ahead" : Str) = "second") := by decide +kernel
  have n3 : ¬ (("ahead" : Str) = "between") := by decide +kernel
  have n4 : ¬ (("ahead" : Str) = "loop") := by decide +kernel
  unfold aeF
  rw [if_neg n1, if_neg n2, if_neg n3, if_neg n4, bl_one hs h]
  show (if fi = true then bck (s.lp.getD []) _ else _) = _
  rw [hl]
  rfl
theorem ae_loop (hs : Shp s) (hl : s.lp = some L) (h : s.sd = none) (fi fu se : Bool) : aeF s.norm "loop" fi fu se = if fu then bck L (bck s.bh (ascF s.rs)) else bck s.bh (ascF s.rs) := by
  have n1 : ¬ (("loop" : Str) = "behind") := by decide +kernel
  have n2 : ¬ (("loop" : Str) = "second") := by decide +kernel
  have n3 : ¬ (("loop" : Str) = "between") := by decide +kernel
  unfold aeF
  rw [if_neg n1, if_neg n2, if_neg n3, if_pos rfl, bl_one hs h]
  show (if fu = true then bck (s.lp.getD []) _ else _) = _
  rw [hl]
  rfl
theorem ae_between (hs : Shp s) (h : s.sd = none) (fi fu se : Bool) : aeF s.norm "between" fi fu se = bck s.bh (ascF s.rs) := by
  have n1 : ¬ (("between" : Str) = "behind") := by decide +kernel
  have n2 : ¬ (("between" : Str) = "second") := by decide +kernel
  unfold aeF
  rw [if_neg n1, if_neg n2, if_pos rfl, bl_one hs h]
  show (if se = true then bck (s.sd.getD []) _ else _) = _
  rw [h]
  cases se <;> rfl
theorem ae_behind (fi fu se : Bool) : aeF s.norm "behind" fi fu se = ascF s.rs := if_pos rfl
end
theorem SdsAt.app {H : Hp} {xs ys : List V} {ds es : List Dd} (h : SdsAt H xs ds) (g : SdsAt H ys es) : SdsAt H (xs ++ ys) (ds ++ es) := by
  refine ⟨by rw [List.length_append, List.length_append, h.1, g.1], fun i a q => ?_⟩
  by_cases hi : i < xs.length
  · rw [List.getElem?_append_left hi] at q
    rw [List.getElem?_append_left (by rw [← h.1]; exact hi)]
    exact h.2 i a q
  · rw [List.getElem?_append_right (by omega)] at q
    rw [List.getElem?_append_right (by rw [← h.1]; omega), ← h.1]
    exact g.2 _ a q
theorem SdsAt.rep {H : Hp} {xs : List V} {ds : List Dd} (h : SdsAt H xs ds) : ∀ n : Nat, SdsAt H (List.replicate n xs).flatten (List.replicate n ds).flatten
  | 0 => .nil
  | n + 1 => by
    rw [List.replicate_succ, List.replicate_succ, List.flatten_cons, List.flatten_cons]
    exact h.app (h.rep n)
/-- a part's list, out of the site -/
theorem StAt.part {H : Hp} {a : Addr} {s : Pr} (h : StAt H a s) {j : Nat} {z : Str} {ds : List Dd} (hz : partsS[j]? = some z) (ho : s.pts[j]? = some (some ds)) : ∃ l xs, (∀ H', Ext H H' → DGet H' a (.str z) (some (.ref l))) ∧ H l = some (.lst xs) ∧ SdsAt H xs ds := by
  obtain ⟨g, q, r, kvs, ha, v1, v2, v3, val, _, _, _⟩ := h.val
  obtain ⟨v, o, hv, ho', hpl⟩ := val j z hz
  rw [ho] at ho'
  cases ho'
  obtain ⟨l, xs, rfl, hlx, hds⟩ := hpl
  refine ⟨l, xs, fun H' e => ?_, hlx, hds⟩
  have := DGet.k (k := Sum.inr z) (e _ _ ha)
  rwa [hv] at this
end K33
end
section
set_option Elab.async false
set_option autoImplicit false
set_option linter.all false
set_option maxRecDepth 100000
set_option maxHeartbeats 4000000
set_option pp.maxSteps 1500
namespace K33
open PySem PySem.Spec PyProof.Rows L2 Ls
open C8 (pss_cut tCut)
open TL
theorem askG {K : PySem.W.Frag} {cl : Dd → Addr} {CP : Addr} {H : Hp} {x b : Addr} {s : Pr} {us ys : List Str} {i m : Nat} {z : Str} {ds : List Dd} {fi fu se : Bool} {Q : VK} {E : XK} (hp : PrAt K cl CP H x s.norm) (hn : NdOk s.norm us) (hb : H b = some (.tup [.str z, .int m])) (hz : partsS[i]? = some z) (ho : s.pts[i]? = some (some ds)) (hm : m ≤ ds.length)
    (e : bck (ds.drop m) (aeF s.norm z fi fu se) = ys) (k : ∀ q H', Ext H H' → H' q = some (.tup (ys.map V.str)) → Q (.ref q) H') : spNe K cl CP [.ref x, .ref b, .bl fi, .bl fu, .bl se] H Q E :=
  ⟨x, b, s.norm, i, m, z, ds, fi, fu, se, us, rfl, hp, hn, hb, hz, ho, hm, fun q H' e' hq => k q H' e' (by rw [← e]; exact hq)⟩
/-- what the two askers are handed -/
structure Rt (K : PySem.W.Frag) (cl : Dd → Addr) (CP : Addr) (H : Hp) (b y : Addr) (s : Pr) (us : List Str) (L : List Dd) : Prop where
  st : StAt H b s
  hg : GoodP s
  hn : NdOk s.norm us
  hl : s.lp = some L
  hs : s.sd = none
  hp : PrAt K cl CP H y s.norm
  h24 : s.ah.length ≤ 24
theorem Rt.ext {K : PySem.W.Frag} {cl : Dd → Addr} {CP : Addr} {H H' : Hp} {b y : Addr} {s : Pr} {us : List Str} {L : List Dd} (h : Rt K cl CP H b y s us L) (e : Ext H H') : Rt K cl CP H' b y s us L := ⟨h.st.ext e, h.hg, h.hn, h.hl, h.hs, h.hp.ext e, h.h24⟩
theorem Rt.l24 {K : PySem.W.Frag} {cl : Dd → Addr} {CP : Addr} {H : Hp} {b y : Addr} {s : Pr} {us : List Str} {L : List Dd} (h : Rt K cl CP H b y s us L) : L.length ≤ 24 := by
  have := h.hg.sh.l1
  rw [h.hl] at this
  exact this
theorem in_ds {s : Pr} {i : Nat} {ds : List Dd} (h : s.pts[i]? = some (some ds)) : ∀ d ∈ ds, d ∈ s.ds := fun d hd => List.mem_flatten.mpr ⟨ds, List.mem_map.mpr ⟨some ds, List.mem_of_getElem? h, rfl⟩, hd⟩
theorem len_rep {α : Type} (xs : List α) (n : Nat) : (List.replicate n xs).flatten.length = n * xs.length := by
  induction n with
  | zero => simp
  | succ n ih => rw [List.replicate_succ, List.flatten_cons, List.length_append, ih, Nat.succ_mul]; omega
section
variable {P : PySem.Program} {w : World} {K : PySem.W.Frag} {mg : Str → Option Value} {base : Heap} {CE CD CU CM CO CP tP : Addr} {tk : Str → Tok}
/-! ### _law_rest -/
def spRest (K : PySem.W.Frag) (cl : Dd → Addr) (CP : Addr) : Sp := fun vs H Q _ => ∃ (b y : Addr) (s : Pr) (us : List Str) (L : List Dd) (m r : Nat), vs = [.ref b, .int m, .int r] ∧ Rt K cl CP H b y s us L ∧ m ≤ L.length ∧ r ≤ 10 ∧ ∀ q xs H', Ext H H' → H' q = some (.lst xs) → SdsAt H' xs (L.drop m ++ (List.replicate r L).flatten ++ s.bh) → Q (.ref q) H'
abbrev s__law_rest : Stmt := top 80
abbrev N__law_rest : List Str := ["_law_site_here", "_law_at", "_law_rounds_so"]
theorem sc__law_rest : FnScope N__law_rest ["_law_site_here", "_law_at", "_law_rounds_so"] (defScope s__law_rest) := ⟨rfl, rfl, rfl, by decide +kernel, rfl, by decide +kernel, by decide +kernel⟩
theorem ok_rest {f : Addr} {fd : FuncData} (F : Fun K "_law_rest" "_law_rest" s__law_rest f fd) (T : Tx K mg CE CD CU CM CO CP tP tk) :
    FnOk P w K mg base CX0 1 f fd ["_law_site_here", "_law_at", "_law_rounds_so"] (spRest K (clsD CU CM CO) CP) := by
  refine F.ok sc__law_rest (fun vs H Q E h => ?_) (fun cdv A outer s0 H vs Q E hr h => ?_)
  · obtain ⟨b, y, s, us, L, m, r, rfl, _⟩ := h
    rfl
  · obtain ⟨b, y, s, us, L, m, r, rfl, rt, hm, hr10, k⟩ := h
    have hu := hu_of hr
    have h4 : sizeLine = 16777216 := sizeLine_eq
    refine ⟨_, (pss_one (ps_ret (pe_op op_cat (pe_op op_cat (pe_slice sl_list (pe_dget hu (pv 0) pe_str (fun _ _ => rfl)) (po_some (pv 1)) po_none) (pe_op op_rep (pe_dget hu (pv 0) pe_str (fun _ _ => rfl)) (pv 2))) (pe_dget hu (pv 0) pe_str (fun _ _ => rfl))))), ?_⟩
    obtain ⟨l, xs, gl, hl, hs⟩ := rt.st.part (j := 1) (z := "loop") rfl (by rw [← rt.hl]; rfl)
    obtain ⟨t, ys, gt, ht, hy⟩ := rt.st.part (j := 4) (z := "behind") rfl rfl
    have l24 := rt.l24
    have b24 := rt.hg.sh.l4
    have lx := hs.1
    have ly := hy.1
    refine ⟨_, rfl, b, .ref l, rfl, gl _ Ext.rfl', _, rfl, ((m : Nat) : Int), rfl, l, xs, rfl, SqL.of hl, fun cc ncc => ?_⟩
    rw [cutV_from xs (by omega), Int.toNat_natCast]
    have e1 : Ext H (upd H cc (.lst (xs.drop m))) := Ext.upd ncc
    have f1 : (upd H cc (.lst (xs.drop m))) cc = some (.lst (xs.drop m)) := upd_same
    generalize (upd H cc (.lst (xs.drop m))) = H1 at e1 f1
    have lr : r * xs.length ≤ 240 := by rw [lx]; exact Nat.le_trans (Nat.mul_le_mul hr10 l24) (by decide)
    refine ⟨_, rfl, b, .ref l, rfl, gl _ e1, _, rfl, l, (r : Nat), xs, rfl, rfl, e1 _ _ hl, by omega, by omega, by rw [Int.toNat_natCast, Nat.mul_comm]; omega, fun rp nrp => ?_⟩
    rw [Int.toNat_natCast]
    have e2 : Ext H1 (upd H1 rp (.lst (List.replicate r xs).flatten)) := Ext.upd nrp
    have f2 : (upd H1 rp (.lst (List.replicate r xs).flatten)) rp = some (.lst (List.replicate r xs).flatten) := upd_same
    generalize (upd H1 rp (.lst (List.replicate r xs).flatten)) = H2 at e2 f2
    have lrx := len_rep xs r
    have ldx : (xs.drop m).length ≤ 24 := by rw [List.length_drop]; omega
    refine ⟨cc, rp, _, _, rfl, rfl, e2 _ _ f1, f2, by omega, fun c1 nc1 => ?_⟩
    have e3 : Ext H2 (upd H2 c1 (.lst (xs.drop m ++ (List.replicate r xs).flatten))) := Ext.upd nc1
    have f3 : (upd H2 c1 (.lst (xs.drop m ++ (List.replicate r xs).flatten))) c1 = some (.lst (xs.drop m ++ (List.replicate r xs).flatten)) := upd_same
    generalize (upd H2 c1 (.lst (xs.drop m ++ (List.replicate r xs).flatten))) = H3 at e3 f3
    have e03 := (e1.trans e2).trans e3
    refine ⟨_, rfl, b, .ref t, rfl, gt _ e03, c1, t, _, _, rfl, rfl, f3, e03 _ _ ht, by rw [List.length_append]; omega, fun c2 nc2 => ?_⟩
    have e04 := e03.trans (Ext.upd (o := HO.lst (xs.drop m ++ (List.replicate r xs).flatten ++ ys)) nc2)
    exact k c2 _ _ e04 upd_same ((((hs.drop m).app (hs.rep r)).app hy).ext e04)
end
end K33
end
section
set_option Elab.async false
set_option autoImplicit false
set_option linter.all false
set_option maxRecDepth 100000
set_option maxHeartbeats 4000000
set_option pp.maxSteps 1500
namespace K33
open PySem PySem.Spec PyProof.Rows L2 Ls
open C8 (pss_cut tCut)
open TL
/-! ### the ways needed is asked with keywords -/
def gFi (vs zs : List V) : List V := vs ++ (zs ++ [.bl true, .bl true])
def gFu (vs zs : List V) : List V := vs ++ ([.bl true] ++ (zs ++ [.bl true]))
def gFFS (vs zs : List V) : List V := vs ++ ((zs.drop 1).take 1 ++ (zs.take 1 ++ zs.drop 2))
theorem rt_shw {s : Pr} {ds : List Dd} (hg : GoodP s) : Shw 1000 (ndT (wantF s ds)) := nd_shw (want_nm hg) (want_len hg)
section
variable {P : PySem.Program} {w : World} {K : PySem.W.Frag} {mg : Str → Option Value} {base : Heap} {CE CD CU CM CO CP tP : Addr} {tk : Str → Tok}
/-! ### _law_ahead_right -/
def spRt (K : PySem.W.Frag) (cl : Dd → Addr) (CP : Addr) : Sp := fun vs H Q _ => ∃ (b y : Addr) (s : Pr) (us : List Str) (L : List Dd) (r : Nat), vs = [.ref b, .ref y, .int r] ∧ Rt K cl CP H b y s us L ∧ 1 ≤ r ∧ r ≤ 10 ∧ ∀ H', Ext H H' → Q (.bl true) H'
abbrev s__law_ahead_right : Stmt := top 81
abbrev N__law_ahead_right : List Str := ["_law_site_here", "_law_thing", "_law_rounds_so", "_law_at", "_law_some_here", "_law_none", "_law_told"]
theorem sc__law_ahead_right : FnScope N__law_ahead_right ["_law_site_here", "_law_thing", "_law_rounds_so"] (defScope s__law_ahead_right) := ⟨rfl, rfl, rfl, by decide +kernel, rfl, by decide +kernel, by decide +kernel⟩
theorem ok_ar {f : Addr} {fd : FuncData} (F : Fun K "_law_ahead_right" "_law_ahead_right" s__law_ahead_right f fd) (T : Tx K mg CE CD CU CM CO CP tP tk) (hsys : (base.get? sysModules).isSome = true) (c_needed : Cal P w K mg base CX0 8 "needed" (spNeD K (clsD CU CM CO) CP)) (c_needed_first : CalN P w K mg base CX0 8 "needed" 2 ["first"] gFi (spNe K (clsD CU CM CO) CP)) (c__law_wanted : Cal P w K mg base CX0 3 "_law_wanted" spLW) :
    FnG P w K mg base CX0 9 f fd ["_law_site_here", "_law_thing", "_law_rounds_so"] (spRt K (clsD CU CM CO) CP) := by
  refine okG F sc__law_ahead_right (fun vs H Q E h => ?_) (fun cdv A outer s0 H vs Q E hcd hgd hr h => ?_)
  · obtain ⟨b, y, s, us, L, r, rfl, _⟩ := h
    rfl
  · obtain ⟨b, y, s, us, L, r, rfl, rt, hr1, hr10, k⟩ := h
    have hu := hu_of hr
    have h4 : sizeLine = 16777216 := sizeLine_eq
    refine ⟨_, (pss_cons (ps_for PassesOwn.never rfl (pi_range1 rfl (T.bn _ (by decide +kernel)) (pa_cons (pe_op op_add (pe_callB call_len_seq (by rfl) (T.bn _ (by decide +kernel)) (by decide +kernel) (pa_cons (pe_dget hu (pv 0) pe_str (fun _ _ => rfl)) pa_nil)) pe_int) pa_nil)) (pg_name (i := 3) sc__law_ahead_right.nd rfl (by first | exact Or.inl rfl | exact Or.inr rfl))
      (pss_cons (ps_set (i := 4) sc__law_ahead_right.nd rfl (by first | exact Or.inl rfl | exact Or.inr rfl) (pe_op op_cat (pe_slice sl_list (pe_dget hu (pv 0) pe_str (fun _ _ => rfl)) (po_some (pv 3)) po_none) (pe_op op_rep (pe_dget hu (pv 0) pe_str (fun _ _ => rfl)) (pv 2))))
      (pss_cons (ps_set (i := 4) sc__law_ahead_right.nd rfl (by first | exact Or.inl rfl | exact Or.inr rfl) (pe_op op_cat (pv 4) (pe_dget hu (pv 0) pe_str (fun _ _ => rfl))))
      (pss_cons (ps_set (i := 5) sc__law_ahead_right.nd rfl (by first | exact Or.inl rfl | exact Or.inr rfl) (pe_op op_cat (pe_slice sl_list (pe_dget hu (pv 0) pe_str (fun _ _ => rfl)) (po_some (pv 3)) po_none) (pe_dget hu (pv 0) pe_str (fun _ _ => rfl))))
      (pss_cons (ps_set (i := 6) sc__law_ahead_right.nd rfl (by first | exact Or.inl rfl | exact Or.inr rfl) (pe_cal c_needed (hr.mono (by decide)) (by rfl) pass0 (pa_cons (pv 1) (pa_cons (pe_tup (pa_cons pe_str (pa_cons (pv 3) pa_nil))) pa_nil))))
      (pss_cons (ps_if (pt_cmpR op_ne (pe_callB (call_repr hgd hr hsys) (by rfl) (T.bn _ (by decide +kernel)) (by decide +kernel) (pa_cons (pv 6) pa_nil)) (pe_callB (call_repr hgd hr hsys) (by rfl) (T.bn _ (by decide +kernel)) (by decide +kernel) (pa_cons (pe_cal c__law_wanted (hr.mono (by decide)) (by rfl) pass0 (pa_cons (pv 0) (pa_cons (pv 4) pa_nil))) pa_nil)) (nomark _)) (pss_one (ps_ret pe_bl)) pss_nil)
      (pss_cons (ps_set (i := 6) sc__law_ahead_right.nd rfl (by first | exact Or.inl rfl | exact Or.inr rfl) (pe_calN c_needed_first (hr.mono (by decide)) (by rfl) pass0 (pa_cons (pv 1) (pa_cons (pe_tup (pa_cons pe_str (pa_cons (pv 3) pa_nil))) pa_nil)) (pk_cons pe_bl pk_nil)))
      (pss_one (ps_if (pt_cmpR op_ne (pe_callB (call_repr hgd hr hsys) (by rfl) (T.bn _ (by decide +kernel)) (by decide +kernel) (pa_cons (pv 6) pa_nil)) (pe_callB (call_repr hgd hr hsys) (by rfl) (T.bn _ (by decide +kernel)) (by decide +kernel) (pa_cons (pe_cal c__law_wanted (hr.mono (by decide)) (by rfl) pass0 (pa_cons (pv 0) (pa_cons (pv 5) pa_nil))) pa_nil)) (nomark _)) (pss_one (ps_ret pe_bl)) pss_nil)))))))))
      (pss_one (ps_ret pe_bl))), ?_⟩
    obtain ⟨g, zs, gg, hg, hz⟩ := rt.st.part (j := 0) (z := "ahead") rfl rfl
    obtain ⟨l, xs, gl, hl, hs⟩ := rt.st.part (j := 1) (z := "loop") rfl (by rw [← rt.hl]; rfl)
    obtain ⟨t, ys, gt, ht, hy⟩ := rt.st.part (j := 4) (z := "behind") rfl rfl
    have l24 := rt.l24
    have b24 := rt.hg.sh.l4
    have a24 := rt.h24
    have lx := hs.1
    have ly := hy.1
    have lz := hz.1
    have lr : r * xs.length ≤ 240 := by rw [lx]; exact Nat.le_trans (Nat.mul_le_mul hr10 l24) (by decide)
    have lrx := len_rep xs r
    refine ⟨_, rfl, b, .ref g, rfl, gg _ Ext.rfl', g, zs, rfl, .inl (SqL.of hg), _, _, rfl, rfl, ((zs.length + 1 : Nat) : Int), rfl, by omega, by omega, ?_⟩
    rw [Int.toNat_natCast]
    refine for_it walk_range (fun j σ H' => ∃ (x3 x4 x5 x6 : Option V), σ = [some (.ref b), some (.ref y), some (.int r), x3, x4, x5, x6] ∧ Ext H H') ⟨_, _, _, _, rfl, Ext.rfl'⟩ (fun _ _ _ _ _ => trivial) ?_ ?_
    · rintro m x σ _ H0 hj ⟨x3, x4, x5, x6, rfl, e0⟩ ⟨rfl, rfl⟩
      have hm : m ≤ s.ah.length := by omega
      have ej : (0 + (m : Int)) = ((m : Nat) : Int) := Int.zero_add _
      have rt0 := rt.ext e0
      replace gg := fun H' (e : Ext H0 H') => gg H' (e0.trans e)
      replace gl := fun H' (e : Ext H0 H') => gl H' (e0.trans e)
      replace gt := fun H' (e : Ext H0 H') => gt H' (e0.trans e)
      replace hg := e0 _ _ hg
      replace hl := e0 _ _ hl
      replace ht := e0 _ _ ht
      replace hz := hz.ext e0
      replace hs := hs.ext e0
      replace hy := hy.ext e0
      show gName 3 (.int (0 + (m : Int))) _ _ _
      rw [ej]
      have ldz : (zs.drop m).length ≤ 24 := by rw [List.length_drop]; omega
      -- the deeds still to come
      refine ⟨_, rfl, b, .ref g, rfl, gg _ Ext.rfl', _, rfl, ((m : Nat) : Int), rfl, g, zs, rfl, SqL.of hg, fun cc ncc => ?_⟩
      rw [cutV_from zs (by omega), Int.toNat_natCast]
      have e1 : Ext H0 (upd H0 cc (.lst (zs.drop m))) := Ext.upd ncc
      have f1 : (upd H0 cc (.lst (zs.drop m))) cc = some (.lst (zs.drop m)) := upd_same
      generalize (upd H0 cc (.lst (zs.drop m))) = H1 at e1 f1
      refine ⟨_, rfl, b, .ref l, rfl, gl _ e1, _, rfl, l, (r : Nat), xs, rfl, rfl, e1 _ _ hl, by omega, by omega, by rw [Int.toNat_natCast, Nat.mul_comm]; omega, fun rp nrp => ?_⟩
      rw [Int.toNat_natCast]
      have e2 : Ext H1 (upd H1 rp (.lst (List.replicate r xs).flatten)) := Ext.upd nrp
      have f2 : (upd H1 rp (.lst (List.replicate r xs).flatten)) rp = some (.lst (List.replicate r xs).flatten) := upd_same
      generalize (upd H1 rp (.lst (List.replicate r xs).flatten)) = H2 at e2 f2
      refine ⟨cc, rp, _, _, rfl, rfl, e2 _ _ f1, f2, by omega, fun c1 nc1 => ?_⟩
      have e3 : Ext H2 (upd H2 c1 (.lst (zs.drop m ++ (List.replicate r xs).flatten))) := Ext.upd nc1
      have f3 : (upd H2 c1 (.lst (zs.drop m ++ (List.replicate r xs).flatten))) c1 = some (.lst (zs.drop m ++ (List.replicate r xs).flatten)) := upd_same
      generalize (upd H2 c1 (.lst (zs.drop m ++ (List.replicate r xs).flatten))) = H3 at e3 f3
      have e03 := (e1.trans e2).trans e3
      refine ⟨_, rfl, _, rfl, b, .ref t, rfl, gt _ e03, c1, t, _, _, rfl, rfl, f3, e03 _ _ ht, by rw [List.length_append]; omega, fun c2 nc2 => ?_⟩
      have e4 : Ext H3 (upd H3 c2 (.lst (zs.drop m ++ (List.replicate r xs).flatten ++ ys))) := Ext.upd nc2
      have f4 : (upd H3 c2 (.lst (zs.drop m ++ (List.replicate r xs).flatten ++ ys))) c2 = some (.lst (zs.drop m ++ (List.replicate r xs).flatten ++ ys)) := upd_same
      generalize (upd H3 c2 (.lst (zs.drop m ++ (List.replicate r xs).flatten ++ ys))) = H4 at e4 f4
      have e04 := e03.trans e4
      clear f1 f2 f3 nc1 nc2 nrp ncc
      refine ⟨_, rfl, b, .ref g, rfl, gg _ e04, _, rfl, ((m : Nat) : Int), rfl, g, zs, rfl, SqL.of (e04 _ _ hg), fun c3 nc3 => ?_⟩
      rw [cutV_from zs (by omega), Int.toNat_natCast]
      have e5 : Ext H4 (upd H4 c3 (.lst (zs.drop m))) := Ext.upd nc3
      have f5 : (upd H4 c3 (.lst (zs.drop m))) c3 = some (.lst (zs.drop m)) := upd_same
      generalize (upd H4 c3 (.lst (zs.drop m))) = H5 at e5 f5
      have e05 := e04.trans e5
      refine ⟨_, rfl, b, .ref t, rfl, gt _ e05, c3, t, _, _, rfl, rfl, f5, e05 _ _ ht, by omega, fun c5 nc5 => ?_⟩
      have e6 : Ext H5 (upd H5 c5 (.lst (zs.drop m ++ ys))) := Ext.upd nc5
      have f6 : (upd H5 c5 (.lst (zs.drop m ++ ys))) c5 = some (.lst (zs.drop m ++ ys)) := upd_same
      generalize (upd H5 c5 (.lst (zs.drop m ++ ys))) = H6 at e6 f6
      have e06 := e05.trans e6
      replace f4 := e6 _ _ (e5 _ _ f4)
      have s6 := (((hz.drop m).app (hs.rep r)).app hy).ext e06
      have s6' := ((hz.drop m).app hy).ext e06
      have rt6 := rt0.ext e06
      clear e1 e2 e3 e4 e5 e6 e03 e04 e05 f5 nc3 nc5
      -- asked
      refine ⟨_, rfl, _, rfl, (by show 2 ≤ sizeLine; decide), fun tp ntp => ?_⟩
      show spNeD K (clsD CU CM CO) CP [.ref y, .ref tp] (upd H6 tp (.tup [.str "ahead", .int (m : Nat)])) _ _
      have e7 : Ext H6 (upd H6 tp (.tup [.str "ahead", .int (m : Nat)])) := Ext.upd ntp
      have f7 : (upd H6 tp (.tup [.str "ahead", .int (m : Nat)])) tp = some (.tup [.str "ahead", .int (m : Nat)]) := upd_same
      generalize (upd H6 tp (.tup [.str "ahead", .int (m : Nat)])) = H7 at e7 f7
      have rt7 := rt6.ext e7
      have hX : ∀ d ∈ s.ah.drop m, d ∈ s.ds := fun d hd => in_ds (i := 0) rfl d (List.mem_of_mem_drop hd)
      refine neD (askG (i := 0) (ds := s.ah) (ys := wantF s (s.ah.drop m ++ (List.replicate r L).flatten ++ s.bh)) rt7.hp rt7.hn f7 rfl rfl hm (by rw [ae_ahead rt.hg.sh rt.hl rt.hs]; exact rd1 rt.hl hX hr1) fun q1 H8 e8 fq1 => ?_)
      have rt8 := rt7.ext e8
      have e68 := e7.trans e8
      have sw := rt_shw (ds := s.ah.drop m ++ (List.replicate r L).flatten ++ s.bh) rt.hg
      refine ⟨_, rfl, ⟨_, ndT _, rfl, tv_nd fq1, sw.sh, Nat.le_trans sw.dp (by decide), Nat.le_trans sw.ln (by decide), ?_⟩⟩
      refine ⟨_, rfl, _, rfl, b, c2, s, _, _, rfl, rt8.st, rt.hg, rt.h24, e68 _ _ f4, s6.ext e68, fun q2 H9 e9 _ fq2 => ?_⟩
      refine ⟨_, ndT _, rfl, tv_nd fq2, sw.sh, Nat.le_trans sw.dp (by decide), Nat.le_trans sw.ln (by decide), rfl, _, rfl, iteNo (by rw [decide_eq_true rfl]; rfl) ?_⟩
      have e69 := e68.trans e9
      have rt9 := rt8.ext e9
      refine ⟨_, rfl, _, rfl, (by show 2 ≤ sizeLine; decide), fun tp2 ntp2 => ⟨rfl, rfl, ?_⟩⟩
      show spNe K (clsD CU CM CO) CP [.ref y, .ref tp2, .bl false, .bl true, .bl true] (upd H9 tp2 (.tup [.str "ahead", .int (m : Nat)])) _ _
      have e10 : Ext H9 (upd H9 tp2 (.tup [.str "ahead", .int (m : Nat)])) := Ext.upd ntp2
      have f10 : (upd H9 tp2 (.tup [.str "ahead", .int (m : Nat)])) tp2 = some (.tup [.str "ahead", .int (m : Nat)]) := upd_same
      generalize (upd H9 tp2 (.tup [.str "ahead", .int (m : Nat)])) = H10 at e10 f10
      have rt10 := rt9.ext e10
      refine askG (i := 0) (ds := s.ah) (ys := wantF s (s.ah.drop m ++ s.bh)) rt10.hp rt10.hn f10 rfl rfl hm (by rw [ae_ahead rt.hg.sh rt.hl rt.hs]; exact rd0 hX) fun q3 H11 e11 fq3 => ?_
      have rt11 := rt10.ext e11
      have e611 := (e69.trans e10).trans e11
      have sw' := rt_shw (ds := s.ah.drop m ++ s.bh) rt.hg
      refine ⟨_, rfl, ⟨_, ndT _, rfl, tv_nd fq3, sw'.sh, Nat.le_trans sw'.dp (by decide), Nat.le_trans sw'.ln (by decide), ?_⟩⟩
      refine ⟨_, rfl, _, rfl, b, c5, s, _, _, rfl, rt11.st, rt.hg, rt.h24, e611 _ _ f6, s6'.ext e611, fun q4 H12 e12 _ fq4 => ?_⟩
      refine ⟨_, ndT _, rfl, tv_nd fq4, sw'.sh, Nat.le_trans sw'.dp (by decide), Nat.le_trans sw'.ln (by decide), rfl, _, rfl, iteNo (by rw [decide_eq_true rfl]; rfl) ?_⟩
      exact ⟨_, _, _, _, rfl, (e0.trans e06).trans (e611.trans e12)⟩
    · rintro σ H1 ⟨x3, x4, x5, x6, rfl, e⟩
      exact k H1 e
end
end K33
end
section
set_option Elab.async false
set_option autoImplicit false
set_option linter.all false
set_option maxRecDepth 100000
set_option maxHeartbeats 4000000
set_option pp.maxSteps 1500
namespace K33
open PySem PySem.Spec PyProof.Rows L2 Ls
open C8 (pss_cut tCut)
open TL
section
variable {P : PySem.Program} {w : World} {K : PySem.W.Frag} {mg : Str → Option Value} {base : Heap} {CE CD CU CM CO CP tP : Addr} {tk : Str → Tok}
/-! ### _law_loop_right -/
abbrev s__law_loop_right : Stmt := top 82
abbrev N__law_loop_right : List Str := ["_law_site_here", "_law_thing", "_law_rounds_so", "_law_at", "_law_more", "_law_last", "_law_told"]
theorem sc__law_loop_right : FnScope N__law_loop_right ["_law_site_here", "_law_thing", "_law_rounds_so"] (defScope s__law_loop_right) := ⟨rfl, rfl, rfl, by decide +kernel, rfl, by decide +kernel, by decide +kernel⟩
theorem ok_lr {f : Addr} {fd : FuncData} (F : Fun K "_law_loop_right" "_law_loop_right" s__law_loop_right f fd) (T : Tx K mg CE CD CU CM CO CP tP tk) (hsys : (base.get? sysModules).isSome = true) (c_needed : Cal P w K mg base CX0 8 "needed" (spNeD K (clsD CU CM CO) CP)) (c_needed_further : CalN P w K mg base CX0 8 "needed" 2 ["further"] gFu (spNe K (clsD CU CM CO) CP)) (c_needed_further_first_second : CalN P w K mg base CX0 8 "needed" 2 ["further", "first", "second"] gFFS (spNe K (clsD CU CM CO) CP)) (c__law_wanted : Cal P w K mg base CX0 3 "_law_wanted" spLW)
    (c__law_rest : Cal P w K mg base CX0 1 "_law_rest" (spRest K (clsD CU CM CO) CP)) : FnG P w K mg base CX0 9 f fd ["_law_site_here", "_law_thing", "_law_rounds_so"] (spRt K (clsD CU CM CO) CP) := by
  refine okG F sc__law_loop_right (fun vs H Q E h => ?_) (fun cdv A outer s0 H vs Q E hcd hgd hr h => ?_)
  · obtain ⟨b, y, s, us, L, r, rfl, _⟩ := h
    rfl
  · obtain ⟨b, y, s, us, L, r, rfl, rt, hr1, hr10, k⟩ := h
    have hu := hu_of hr
    refine ⟨_, (pss_cons (ps_for PassesOwn.never rfl (pi_range1 rfl (T.bn _ (by decide +kernel)) (pa_cons (pe_op op_add (pe_callB call_len_seq (by rfl) (T.bn _ (by decide +kernel)) (by decide +kernel) (pa_cons (pe_dget hu (pv 0) pe_str (fun _ _ => rfl)) pa_nil)) pe_int) pa_nil)) (pg_name (i := 3) sc__law_loop_right.nd rfl (by first | exact Or.inl rfl | exact Or.inr rfl))
      (pss_cons (ps_par (i := 4) (j := 5) rfl sc__law_loop_right.nd rfl rfl (by decide) rfl rfl (pa_cons (pe_cal c__law_rest (hr.mono (by decide)) (by rfl) pass0 (pa_cons (pv 0) (pa_cons (pv 3) (pa_cons (pv 2) pa_nil)))) (pa_cons (pe_cal c__law_rest (hr.mono (by decide)) (by rfl) pass0 (pa_cons (pv 0) (pa_cons (pv 3) (pa_cons pe_int pa_nil)))) pa_nil)) (by rfl))
      (pss_cons (ps_set (i := 6) sc__law_loop_right.nd rfl (by first | exact Or.inl rfl | exact Or.inr rfl) (pe_cal c_needed (hr.mono (by decide)) (by rfl) pass0 (pa_cons (pv 1) (pa_cons (pe_tup (pa_cons pe_str (pa_cons (pv 3) pa_nil))) pa_nil))))
      (pss_cons (ps_if (pt_cmpR op_ne (pe_callB (call_repr hgd hr hsys) (by rfl) (T.bn _ (by decide +kernel)) (by decide +kernel) (pa_cons (pv 6) pa_nil)) (pe_callB (call_repr hgd hr hsys) (by rfl) (T.bn _ (by decide +kernel)) (by decide +kernel) (pa_cons (pe_cal c__law_wanted (hr.mono (by decide)) (by rfl) pass0 (pa_cons (pv 0) (pa_cons (pv 4) pa_nil))) pa_nil)) (nomark _)) (pss_one (ps_ret pe_bl)) pss_nil)
      (pss_cons (ps_set (i := 6) sc__law_loop_right.nd rfl (by first | exact Or.inl rfl | exact Or.inr rfl) (pe_calN c_needed_further (hr.mono (by decide)) (by rfl) pass0 (pa_cons (pv 1) (pa_cons (pe_tup (pa_cons pe_str (pa_cons (pv 3) pa_nil))) pa_nil)) (pk_cons pe_bl pk_nil)))
      (pss_cons (ps_if (pt_cmpR op_ne (pe_callB (call_repr hgd hr hsys) (by rfl) (T.bn _ (by decide +kernel)) (by decide +kernel) (pa_cons (pv 6) pa_nil)) (pe_callB (call_repr hgd hr hsys) (by rfl) (T.bn _ (by decide +kernel)) (by decide +kernel) (pa_cons (pe_cal c__law_wanted (hr.mono (by decide)) (by rfl) pass0 (pa_cons (pv 0) (pa_cons (pv 5) pa_nil))) pa_nil)) (nomark _)) (pss_one (ps_ret pe_bl)) pss_nil)
      (pss_cons (ps_set (i := 6) sc__law_loop_right.nd rfl (by first | exact Or.inl rfl | exact Or.inr rfl) (pe_calN c_needed_further_first_second (hr.mono (by decide)) (by rfl) pass0 (pa_cons (pv 1) (pa_cons (pe_tup (pa_cons pe_str (pa_cons (pv 3) pa_nil))) pa_nil)) (pk_cons pe_bl (pk_cons pe_bl (pk_cons pe_bl pk_nil)))))
      (pss_one (ps_if (pt_cmpR (op_neD hr.units) (pv 6) (pe_cal c__law_wanted (hr.mono (by decide)) (by rfl) pass0 (pa_cons (pv 0) (pa_cons (pv 4) pa_nil))) (nomark _)) (pss_one (ps_ret pe_bl)) pss_nil)))))))))
      (pss_one (ps_ret pe_bl))), ?_⟩
    obtain ⟨l, xs, gl, hl, hs⟩ := rt.st.part (j := 1) (z := "loop") rfl (by rw [← rt.hl]; rfl)
    have l24 := rt.l24
    have lx := hs.1
    refine ⟨_, rfl, b, .ref l, rfl, gl _ Ext.rfl', l, xs, rfl, .inl (SqL.of hl), _, _, rfl, rfl, ((xs.length + 1 : Nat) : Int), rfl, by omega, by omega, ?_⟩
    rw [Int.toNat_natCast]
    refine for_it walk_range (fun j σ H' => ∃ (x3 x4 x5 x6 : Option V), σ = [some (.ref b), some (.ref y), some (.int r), x3, x4, x5, x6] ∧ Ext H H') ⟨_, _, _, _, rfl, Ext.rfl'⟩ (fun _ _ _ _ _ => trivial) ?_ ?_
    · rintro m x σ _ H0 hj ⟨x3, x4, x5, x6, rfl, e0⟩ ⟨rfl, rfl⟩
      have hm : m ≤ L.length := by omega
      have ej : (0 + (m : Int)) = ((m : Nat) : Int) := Int.zero_add _
      have rt0 := rt.ext e0
      show gName 3 (.int (0 + (m : Int))) _ _ _
      rw [ej]
      have hlo : s.pts[1]? = some (some L) := by rw [← rt.hl]; rfl
      have hX : ∀ d ∈ L.drop m, d ∈ s.ds := fun d hd => in_ds hlo d (List.mem_of_mem_drop hd)
      refine ⟨_, rfl, _, rfl, _, rfl, b, y, s, us, L, m, r, rfl, rt0, hm, hr10, fun q1 w1 H1 e1 f1 s1 => ?_⟩
      refine ⟨_, rfl, _, rfl, b, y, s, us, L, m, 0, rfl, rt0.ext e1, hm, by decide, fun q2 w2 H2 e2 f2 s2 => ⟨_, _, rfl, ?_⟩⟩
      replace f1 := e2 _ _ f1
      replace s1 := s1.ext e2
      have e02 := e1.trans e2
      have rt2 := rt0.ext e02
      have s2 : SdsAt H2 w2 (L.drop m ++ s.bh) := by
        rw [List.replicate_zero, List.flatten_nil, List.append_nil] at s2
        exact s2
      have sw := rt_shw (ds := L.drop m ++ (List.replicate r L).flatten ++ s.bh) rt.hg
      have sw' := rt_shw (ds := L.drop m ++ s.bh) rt.hg
      have hsh := nd_shaped (want_nm (ds := L.drop m ++ (List.replicate r L).flatten ++ s.bh) rt.hg)
      have r1 : bck (L.drop m) (bck L (bck s.bh (ascF s.rs))) = wantF s (L.drop m ++ (List.replicate r L).flatten ++ s.bh) := rd1 rt.hl hX hr1
      have r0 : bck (L.drop m) (bck s.bh (ascF s.rs)) = wantF s (L.drop m ++ s.bh) := rd0 hX
      -- further
      refine ⟨_, rfl, _, rfl, (by show 2 ≤ sizeLine; decide), fun tp ntp => ?_⟩
      show spNeD K (clsD CU CM CO) CP [.ref y, .ref tp] (upd H2 tp (.tup [.str "loop", .int (m : Nat)])) _ _
      have e7 : Ext H2 (upd H2 tp (.tup [.str "loop", .int (m : Nat)])) := Ext.upd ntp
      have f7 : (upd H2 tp (.tup [.str "loop", .int (m : Nat)])) tp = some (.tup [.str "loop", .int (m : Nat)]) := upd_same
      generalize (upd H2 tp (.tup [.str "loop", .int (m : Nat)])) = H7 at e7 f7
      have rt7 := rt2.ext e7
      refine neD (askG (i := 1) (ds := L) (ys := wantF s (L.drop m ++ (List.replicate r L).flatten ++ s.bh)) rt7.hp rt7.hn f7 rfl hlo hm (by rw [ae_loop rt.hg.sh rt.hl rt.hs]; exact r1) fun q3 H8 e8 fq3 => ?_)
      have rt8 := rt7.ext e8
      have e28 := e7.trans e8
      refine ⟨_, rfl, ⟨_, ndT _, rfl, tv_nd fq3, sw.sh, Nat.le_trans sw.dp (by decide), Nat.le_trans sw.ln (by decide), ?_⟩⟩
      refine ⟨_, rfl, _, rfl, b, q1, s, _, _, rfl, rt8.st, rt.hg, rt.h24, e28 _ _ f1, s1.ext e28, fun q4 H9 e9 _ fq4 => ?_⟩
      refine ⟨_, ndT _, rfl, tv_nd fq4, sw.sh, Nat.le_trans sw.dp (by decide), Nat.le_trans sw.ln (by decide), rfl, _, rfl, iteNo (by rw [decide_eq_true rfl]; rfl) ?_⟩
      have e29 := e28.trans e9
      have rt9 := rt8.ext e9
      -- no further
      refine ⟨_, rfl, _, rfl, (by show 2 ≤ sizeLine; decide), fun tp2 ntp2 => ⟨rfl, rfl, ?_⟩⟩
      show spNe K (clsD CU CM CO) CP [.ref y, .ref tp2, .bl true, .bl false, .bl true] (upd H9 tp2 (.tup [.str "loop", .int (m : Nat)])) _ _
      have e10 : Ext H9 (upd H9 tp2 (.tup [.str "loop", .int (m : Nat)])) := Ext.upd ntp2
      have f10 : (upd H9 tp2 (.tup [.str "loop", .int (m : Nat)])) tp2 = some (.tup [.str "loop", .int (m : Nat)]) := upd_same
      generalize (upd H9 tp2 (.tup [.str "loop", .int (m : Nat)])) = H10 at e10 f10
      have rt10 := rt9.ext e10
      refine askG (i := 1) (ds := L) (ys := wantF s (L.drop m ++ s.bh)) rt10.hp rt10.hn f10 rfl hlo hm (by rw [ae_loop rt.hg.sh rt.hl rt.hs]; exact r0) fun q5 H11 e11 fq5 => ?_
      have rt11 := rt10.ext e11
      have e211 := (e29.trans e10).trans e11
      refine ⟨_, rfl, ⟨_, ndT _, rfl, tv_nd fq5, sw'.sh, Nat.le_trans sw'.dp (by decide), Nat.le_trans sw'.ln (by decide), ?_⟩⟩
      refine ⟨_, rfl, _, rfl, b, q2, s, _, _, rfl, rt11.st, rt.hg, rt.h24, e211 _ _ f2, s2.ext e211, fun q6 H12 e12 _ fq6 => ?_⟩
      refine ⟨_, ndT _, rfl, tv_nd fq6, sw'.sh, Nat.le_trans sw'.dp (by decide), Nat.le_trans sw'.ln (by decide), rfl, _, rfl, iteNo (by rw [decide_eq_true rfl]; rfl) ?_⟩
      have e212 := e211.trans e12
      have rt12 := rt11.ext e12
      -- neither first nor second
      refine ⟨_, rfl, _, rfl, (by show 2 ≤ sizeLine; decide), fun tp3 ntp3 => ⟨rfl, rfl, ?_⟩⟩
      show spNe K (clsD CU CM CO) CP [.ref y, .ref tp3, .bl false, .bl true, .bl false] (upd H12 tp3 (.tup [.str "loop", .int (m : Nat)])) _ _
      have e13 : Ext H12 (upd H12 tp3 (.tup [.str "loop", .int (m : Nat)])) := Ext.upd ntp3
      have f13 : (upd H12 tp3 (.tup [.str "loop", .int (m : Nat)])) tp3 = some (.tup [.str "loop", .int (m : Nat)]) := upd_same
      generalize (upd H12 tp3 (.tup [.str "loop", .int (m : Nat)])) = H13 at e13 f13
      have rt13 := rt12.ext e13
      refine askG (i := 1) (ds := L) (ys := wantF s (L.drop m ++ (List.replicate r L).flatten ++ s.bh)) rt13.hp rt13.hn f13 rfl hlo hm (by rw [ae_loop rt.hg.sh rt.hl rt.hs]; exact r1) fun q7 H14 e14 fq7 => ?_
      have rt14 := rt13.ext e14
      have e214 := (e212.trans e13).trans e14
      refine ⟨_, rfl, _, rfl, _, rfl, b, q1, s, _, _, rfl, rt14.st, rt.hg, rt.h24, e214 _ _ f1, s1.ext e214, fun q8 H15 e15 _ fq8 => ?_⟩
      refine ⟨_, _, dp_nd (e15 _ _ fq7), dp_nd fq8, hsh, hsh, ?_⟩
      rw [nd_eqv, decide_eq_true rfl]
      exact ⟨_, rfl, iteNo rfl ⟨_, _, _, _, rfl, (e0.trans e02).trans (e214.trans e15)⟩⟩
    · rintro σ H1 ⟨x3, x4, x5, x6, rfl, e⟩
      exact k H1 e
end
end K33
end
section
set_option Elab.async false
set_option autoImplicit false
set_option linter.all false
set_option maxRecDepth 100000
set_option maxHeartbeats 4000000
set_option pp.maxSteps 1500
namespace K33
open PySem PySem.Spec PyProof.Rows L2 Ls
open C8 (pss_cut tCut)
open TL
/-! ### what stays: a program, when only lists change; a site, when its own dict changes -/
theorem DeedAt.keepL {cl : Dd → Addr} {H H' : Hp} {a : Addr} {d : Dd} (h : DeedAt cl H a d) (kp : ∀ b o, H b = some o → (∀ xs, o ≠ HO.lst xs) → H' b = some o) : DeedAt cl H' a d := by
  obtain ⟨dy, fs, t1, t2, h1, h2, h3, h4, h5⟩ := h
  exact ⟨dy, fs, t1, t2, kp _ _ h1 (fun xs z => by cases z), h2, h3, kp _ _ h4 (fun xs z => by cases z), kp _ _ h5 (fun xs z => by cases z)⟩
theorem sqT_keepL {K : PySem.W.Frag} {H H' : Hp} {t : Addr} {xs : List V} (h : SqT K H t xs) (kp : ∀ b o, H b = some o → (∀ xs, o ≠ HO.lst xs) → H' b = some o) : SqT K H' t xs := by
  rcases h with (h | ⟨o, h⟩) | h
  · exact .inl (.inl (kp _ _ h (fun xs z => by cases z)))
  · exact .inl (.inr ⟨o, kp _ _ h (fun xs z => by cases z)⟩)
  · exact .inr h
theorem PtAt.keepL {K : PySem.W.Frag} {cl : Dd → Addr} {H H' : Hp} {v : V} {o : Option (List Dd)} (h : PtAt K cl H v o) (kp : ∀ b o, H b = some o → (∀ xs, o ≠ HO.lst xs) → H' b = some o) : PtAt K cl H' v o := by
  cases o with
  | none => exact h
  | some ds =>
    obtain ⟨t, as, h1, h2, h3⟩ := h
    exact ⟨t, as, h1, sqT_keepL h2 kp, h3.1, fun i a q => let ⟨d, g1, g2⟩ := h3.2 i a q; ⟨d, g1, g2.keepL kp⟩⟩
theorem PrAt.keepL {K : PySem.W.Frag} {cl : Dd → Addr} {CP : Addr} {H H' : Hp} {a : Addr} {p : Pr} (h : PrAt K cl CP H a p) (kp : ∀ b o, H b = some o → (∀ xs, o ≠ HO.lst xs) → H' b = some o) : PrAt K cl CP H' a p := by
  obtain ⟨dx, t, vs, g, q, r, h1, h2, ⟨v0, v1, v2, v3, v4, e, g0, g1, g2, g3, g4⟩, h4, h5, h6⟩ := h.ex
  exact ⟨⟨dx, t, vs, g, q, r, kp _ _ h1 (fun xs z => by cases z), kp _ _ h2 (fun xs z => by cases z), ⟨v0, v1, v2, v3, v4, e, g0.keepL kp, g1.keepL kp, g2.keepL kp, g3.keepL kp, g4.keepL kp⟩, kp _ _ h4 (fun xs z => by cases z), kp _ _ h5 (fun xs z => by cases z), kp _ _ h6 (fun xs z => by cases z)⟩⟩
/-- the pen's cells are lists -/
theorem keepL_of {H H' : Hp} {p c : Addr} {n : Nat} (hp : PenAt H p c n) (k : Keep p c H H') : ∀ b o, H b = some o → (∀ xs, o ≠ HO.lst xs) → H' b = some o := fun b o h n => by
  obtain ⟨ns, x, r, h1, h2, _⟩ := hp
  exact k b o h (fun z => by rw [z, h1] at h; cases h; exact n _ rfl) (fun z => by rw [z, h2] at h; cases h; exact n _ rfl)
theorem PrAt.pen {K : PySem.W.Frag} {cl : Dd → Addr} {CP : Addr} {H H' : Hp} {a p c : Addr} {n : Nat} {s : Pr} (h : PrAt K cl CP H a s) (hp : PenAt H p c n) (k : Keep p c H H') : PrAt K cl CP H' a s := h.keepL (keepL_of hp k)
theorem SdsAt.keepD {H H' : Hp} {b : Addr} {xs : List V} {ds : List Dd} (h : SdsAt H xs ds) (kp : ∀ b o, H b = some o → (∀ ks, o ≠ HO.dK ks) → H' b = some o) : SdsAt H' xs ds :=
  ⟨h.1, fun i x q => let ⟨d, h1, t, l, h2, h3, h4⟩ := h.2 i x q; ⟨d, h1, t, l, h2, kp _ _ h3 (fun ks z => by cases z), kp _ _ h4 (fun ks z => by cases z)⟩⟩
theorem PLst.keepD {H H' : Hp} {v : V} {o : Option (List Dd)} (h : PLst H v o) (kp : ∀ b o, H b = some o → (∀ ks, o ≠ HO.dK ks) → H' b = some o) : PLst H' v o := by
  cases o with
  | none => exact h
  | some ds =>
    obtain ⟨l, xs, h1, h2, h3⟩ := h
    exact ⟨l, xs, h1, kp _ _ h2 (fun ks z => by cases z), h3.keepD (b := l) kp⟩
/-- the loop is set anew -/
theorem StAt.loop {H H' : Hp} {b nl : Addr} {s : Pr} {xs : List V} {L : List Dd} (h : StAt H b s) (hb : ∀ ks g q l bb sd e ah r, H b = some (.dK ks) → ks = s8 (.ref g) (.ref q) l bb sd e ah (.ref r) → H' b = some (.dK (s8 (.ref g) (.ref q) (.ref nl) bb sd e ah (.ref r))))
    (kp : ∀ c o, H c = some o → c ≠ b → H' c = some o) (hn : H' nl = some (.lst xs)) (hs : SdsAt H' xs L) : StAt H' b { s with lp := some L } := by
  obtain ⟨g, q, l, bb, sd, e, ah, r, ha, hgv, hq, hl, hbb, hsd, he, hah, hrs⟩ := h.ex
  have kd : ∀ c o, H c = some o → (∀ ks, o ≠ HO.dK ks) → H' c = some o := fun c o h1 n => kp c o h1 fun z => by rw [z, ha] at h1; cases h1; exact n _ rfl
  have nq : q ≠ b := fun z => by
    rw [z, ha] at hq
    have hq := HO.dK.inj (Option.some.inj hq)
    cases hag : s.ag with
    | nil => rw [hag] at hq; cases hq
    | cons x t =>
      rw [hag] at hq
      have := (Prod.mk.inj (List.cons.inj hq).1).2
      cases this
  exact ⟨⟨g, q, .ref nl, bb, sd, e, ah, r, hb _ g q l bb sd e ah r ha rfl, kd _ _ hgv (fun ks z => by cases z), kp _ _ hq nq, ⟨nl, xs, rfl, hn, hs⟩, hbb.keepD kd, hsd.keepD kd, he.keepD kd, hah.keepD kd, kd _ _ hrs (fun ks z => by cases z)⟩⟩
/-- a program whose loop is emptied -/
theorem ds_noloop {s : Pr} {d : Dd} (h : d ∈ Pr.ds { s with lp := some [] }) : d ∈ s.ds := by
  simp only [Pr.ds, Pr.pts, List.map_cons, List.map_nil, List.flatten_cons, List.flatten_nil, List.mem_append, Option.getD_some, List.append_nil, List.nil_append] at h ⊢
  rcases h with h | h | h | h
  · exact .inl h
  · exact .inr (.inr (.inl h))
  · exact .inr (.inr (.inr (.inl h)))
  · exact .inr (.inr (.inr (.inr h)))
theorem nl_noloop {s : Pr} : ∀ z ∈ Pr.nl (Pr.norm { s with lp := some [] }), z ∈ s.norm.nl := fun z hz => by
  rcases List.mem_append.mp hz with h | h
  · obtain ⟨l, hl, hz⟩ := List.mem_flatten.mp h
    obtain ⟨d, hd, rfl⟩ := List.mem_map.mp hl
    exact List.mem_append_left _ (List.mem_flatten.mpr ⟨_, List.mem_map.mpr ⟨d, ds_noloop hd, rfl⟩, hz⟩)
  · exact List.mem_append_right _ h
theorem good_noloop {s : Pr} (h : GoodP s) (hl : s.lp ≠ none) : GoodP { s with lp := some [] } := by
  refine ⟨fun d hd => h.dg d (ds_noloop hd), ⟨fun n => ⟨fun e => (nomatch e), (h.sh.bt n).2⟩, fun _ e => (nomatch e), fun _ e => (nomatch e), h.sh.l0, Nat.zero_le _, h.sh.l2, h.sh.l3, h.sh.l4, h.sh.l5⟩, h.gn, h.gd, h.gl, h.rn, h.rd, h.rl, h.ag, ⟨h.md.o0, trivial, h.md.o2, h.md.o3, h.md.o4, h.md.o5⟩, ?_, ?_⟩
  · exact Nat.le_trans (nodup_len (ascF_ok _).1 fun z hz => ascF_mem.mpr (nl_noloop z (ascF_mem.mp hz))) h.six
  · have h1 := h.ln
    unfold Pr.nl at h1 ⊢
    rw [List.length_append] at h1 ⊢
    have e1 : s.norm.ds = s.ah ++ (s.lp.getD [] ++ (s.bt ++ (s.sd.getD [] ++ s.bh))) := by simp [Pr.norm, Pr.ds, Pr.pts]
    have e2 : Pr.ds (Pr.norm { s with lp := some [] }) = s.ah ++ (s.bt ++ (s.sd.getD [] ++ s.bh)) := by simp [Pr.norm, Pr.ds, Pr.pts]
    rw [e1] at h1
    rw [e2]
    simp only [List.map_append, List.flatten_append, List.length_append] at h1 ⊢
    have : (Pr.norm { s with lp := some [] }).gv = s.norm.gv := rfl
    have : (Pr.norm { s with lp := some [] }).ag = s.norm.ag := rfl
    have : (Pr.norm { s with lp := some [] }).rs = s.norm.rs := rfl
    simp only [*]
    omega
theorem nd_noloop {s : Pr} {us : List Str} (h : NdOk s.norm us) : NdOk (Pr.norm { s with lp := some [] }) us := by
  refine ⟨fun d hd => h.dg d (ds_noloop hd), ?_, h.nd, h.l50, fun d hd => h.du d (ds_noloop hd), h.ru⟩
  have h1 := h.ln
  have h2 := ds_len s.norm
  have h3 := ds_len (Pr.norm { s with lp := some [] })
  have e0 : (Pr.norm { s with lp := some [] }).ah = s.norm.ah := rfl
  have e1 : (Pr.norm { s with lp := some [] }).bt = s.norm.bt := rfl
  have e2 : (Pr.norm { s with lp := some [] }).sd = s.norm.sd := rfl
  have e3 : (Pr.norm { s with lp := some [] }).bh = s.norm.bh := rfl
  have e4 : ((Pr.norm { s with lp := some [] }).lp.getD []).length = 0 := rfl
  rw [e0, e1, e2, e3, e4] at h3
  omega
end K33
end
section
set_option Elab.async false
set_option autoImplicit false
set_option linter.all false
set_option maxRecDepth 100000
set_option maxHeartbeats 4000000
set_option pp.maxSteps 1500
namespace K33
open PySem PySem.Spec PyProof.Rows L2 Ls
open C8 (pss_cut tCut)
open TL
section
variable {P : PySem.Program} {w : World} {K : PySem.W.Frag} {mg : Str → Option Value} {base : Heap} {CE CD CU CM CO CP tP : Addr} {tk : Str → Tok}
/-! ### law -/
def spLaw (K : PySem.W.Frag) : Sp := fun vs H Q _ => ∃ (a : Addr) (ns : List Int), vs = [.ref a] ∧ SqL K H a (ns.map V.int) ∧ ns.length ≤ 63 ∧ ∀ H', Q (.bl true) H'
abbrev s_law : Stmt := top 83
abbrev N_law : List Str := ["_law_script", "_law_pen_here", "_law_lap", "_law_site_here", "_law_thing", "_law_rounds_so", "_law_at", "_law_due"]
theorem sc_law : FnScope N_law ["_law_script"] (defScope s_law) := ⟨rfl, rfl, rfl, by decide +kernel, rfl, by decide +kernel, by decide +kernel⟩
theorem ok_law {f : Addr} {fd : FuncData} (F : Fun K "law" "law" s_law f fd) (T : Tx K mg CE CD CU CM CO CP tP tk) (hsys : (base.get? sysModules).isSome = true)
    (c_needed : Cal P w K mg base CX0 8 "needed" (spNeD K (clsD CU CM CO) CP)) (c_needed_further : CalN P w K mg base CX0 8 "needed" 2 ["further"] gFu (spNe K (clsD CU CM CO) CP))
    (c__law_pen : Cal P w K mg base CX0 1 "_law_pen" (spPen K)) (c__law_draw : Cal P w K mg base CX0 1 "_law_draw" spDraw) (c__law_site : Cal P w K mg base CX0 5 "_law_site" spSite) (c__law_real : Cal P w K mg base CX0 9 "_law_real" (spRl K (clsD CU CM CO) CP)) (c__law_wanted : Cal P w K mg base CX0 3 "_law_wanted" spLW)
    (c__law_ahead_right : CalG P w K mg base CX0 9 "_law_ahead_right" (spRt K (clsD CU CM CO) CP)) (c__law_loop_right : CalG P w K mg base CX0 9 "_law_loop_right" (spRt K (clsD CU CM CO) CP)) :
    FnG P w K mg base CX0 10 f fd ["_law_script"] (spLaw K) := by
  refine okG F sc_law (fun vs H Q E h => ?_) (fun cdv A outer s0 H vs Q E hcd hgd hr h => ?_)
  · obtain ⟨a, ns, rfl, _⟩ := h
    rfl
  · obtain ⟨a, ns, rfl, ha, hn, k⟩ := h
    have hu := hu_of hr
    refine ⟨_, (pss_cons (ps_set (i := 1) sc_law.nd rfl (by first | exact Or.inl rfl | exact Or.inr rfl) (pe_cal c__law_pen (hr.mono (by decide)) (by rfl) pass0 (pa_cons (pv 0) pa_nil)))
      (pss_cons (ps_for PassesOwn.never rfl (pi_range1 rfl (T.bn _ (by decide +kernel)) (pa_cons pe_int pa_nil)) (pg_name (i := 2) sc_law.nd rfl (by first | exact Or.inl rfl | exact Or.inr rfl))
      (pss_cons (ps_set (i := 3) sc_law.nd rfl (by first | exact Or.inl rfl | exact Or.inr rfl) (pe_cal c__law_site (hr.mono (by decide)) (by rfl) pass0 (pa_cons (pv 1) (pa_cons pe_int (pa_cons pe_int pa_nil)))))
      (pss_cut (ps_if (pt_cmpR op_eq (pe_cal c__law_draw (hr.mono (by decide)) (by rfl) pass0 (pa_cons (pv 1) (pa_cons pe_int pa_nil))) pe_int (nomark _)) (pss_one (ps_dput hu (pv 3) pe_str (pe_lst pa_nil) rfl)) pss_nil)
      (pss_cons (ps_par (i := 4) (j := 5) rfl sc_law.nd rfl rfl (by decide) rfl rfl (pa_cons (pe_cal c__law_real (hr.mono (by decide)) (by rfl) pass0 (pa_cons (pv 3) pa_nil)) (pa_cons (pe_op op_add pe_int (pe_cal c__law_draw (hr.mono (by decide)) (by rfl) pass0 (pa_cons (pv 1) (pa_cons pe_int pa_nil)))) pa_nil)) (by rfl))
      (pss_cons (ps_if (pt_not (pt_val (pe_calG hgd c__law_ahead_right (hr.mono (by decide)) (by rfl) pass0 (pa_cons (pv 3) (pa_cons (pv 4) (pa_cons (pv 5) pa_nil)))))) (pss_one (ps_ret pe_bl)) pss_nil)
      (pss_cons (ps_if (pt_not (pt_val (pe_calG hgd c__law_loop_right (hr.mono (by decide)) (by rfl) pass0 (pa_cons (pv 3) (pa_cons (pv 4) (pa_cons (pv 5) pa_nil)))))) (pss_one (ps_ret pe_bl)) pss_nil)
      (pss_cons (ps_for PassesOwn.never rfl (pi_range1 rfl (T.bn _ (by decide +kernel)) (pa_cons (pe_op op_add (pe_callB call_len_seq (by rfl) (T.bn _ (by decide +kernel)) (by decide +kernel) (pa_cons (pe_dget hu (pv 3) pe_str (fun _ _ => rfl)) pa_nil)) pe_int) pa_nil)) (pg_name (i := 6) sc_law.nd rfl (by first | exact Or.inl rfl | exact Or.inr rfl))
      (pss_cons (ps_set (i := 7) sc_law.nd rfl (by first | exact Or.inl rfl | exact Or.inr rfl) (pe_cal c__law_wanted (hr.mono (by decide)) (by rfl) pass0 (pa_cons (pv 3) (pa_cons (pe_slice sl_list (pe_dget hu (pv 3) pe_str (fun _ _ => rfl)) (po_some (pv 6)) po_none) pa_nil))))
      (pss_one (ps_if (pt_cmpR op_ne (pe_callB (call_repr hgd hr hsys) (by rfl) (T.bn _ (by decide +kernel)) (by decide +kernel) (pa_cons (pe_calN c_needed_further (hr.mono (by decide)) (by rfl) pass0 (pa_cons (pv 4) (pa_cons (pe_tup (pa_cons pe_str (pa_cons (pv 6) pa_nil))) pa_nil)) (pk_cons pe_bl pk_nil)) pa_nil)) (pe_callB (call_repr hgd hr hsys) (by rfl) (T.bn _ (by decide +kernel)) (by decide +kernel) (pa_cons (pv 7) pa_nil)) (nomark _)) (pss_one (ps_ret pe_bl)) pss_nil))))
      (pss_one (ps_if (pt_cmpR (op_neD hr.units) (pe_cal c_needed (hr.mono (by decide)) (by rfl) pass0 (pa_cons (pv 4) (pa_cons (pe_tup (pa_cons pe_str (pa_cons pe_int pa_nil))) pa_nil))) (pe_cal c__law_wanted (hr.mono (by decide)) (by rfl) pass0 (pa_cons (pv 3) (pa_cons (pe_dget hu (pv 3) pe_str (fun _ _ => rfl)) pa_nil))) (nomark _)) (pss_one (ps_ret pe_bl)) pss_nil)))))))))
      (pss_one (ps_ret pe_bl)))), ?_⟩
    refine ⟨_, rfl, a, ns, rfl, ha, by omega, fun p c H1 hp e1 _ _ => ?_⟩
    refine ⟨5, rfl, by decide, by decide, ?_⟩
    refine for_it walk_range (fun i σ H' => ∃ (x2 x3 x4 x5 x6 x7 : Option V), σ = [some (.ref a), some (.ref p), x2, x3, x4, x5, x6, x7] ∧ PenAt H' p c (6010 * i)) ⟨_, _, _, _, _, _, rfl, hp⟩ (fun _ _ _ _ _ => trivial) ?_ ?_
    · rintro i x σ _ H2 hi ⟨o2, o3, o4, o5, o6, o7, rfl, hp2⟩ ⟨rfl, rfl⟩
      have hi5 : i < 5 := hi
      refine ⟨_, rfl, p, c, _, 1, 5, rfl, hp2, by omega, by decide, by decide, fun b s us H3 st hg hn hlp hsd hah hp3 k3 => ?_⟩
      have hls : s.lp ≠ none := fun z => by rw [z] at hlp; cases hlp
      have hsn : s.sd = none := by cases h : s.sd with | none => rfl | some d => rw [h] at hsd; cases hsd
      clear hlp hsd
      refine ⟨fun σ' H' => ∃ s' L, σ' = [some (.ref a), some (.ref p), some (.int (0 + (i : Int))), some (.ref b), o4, o5, o6, o7] ∧ StAt (nw H2 H') b s' ∧ GoodP s' ∧ NdOk s'.norm us ∧ s'.lp = some L ∧ s'.sd = none ∧ s'.ah.length ≤ 5 ∧ PenAt H' p c (6010 * i + 6001), ?_, ?_⟩
      · refine ⟨_, rfl, p, c, _, 6, rfl, hp3, by omega, by decide, by decide, fun j H4 j0 j1 hp4 k4 => ?_⟩
        have st4 := st.ext (nw_keep hp2 k4)
        refine ⟨rfl, _, rfl, ?_⟩
        by_cases hj : j = 0
        · refine iteYes (by rw [hj]; exact decide_eq_true rfl) ?_
          obtain ⟨g, q, l, bb, sd, e, ah, r, hb, _⟩ := st4.ex
          obtain ⟨hb2, hb4⟩ := nw_some hb
          refine ⟨(by show 0 ≤ sizeLine; decide), fun nl nnl => ⟨_, rfl, b, _, rfl, DPut.k (k := Sum.inr "loop") ((Ext.upd nnl) _ _ hb4) (by show 8 < sizeLine; decide), ?_⟩⟩
          rw [show putK (s8 (.ref g) (.ref q) l bb sd e ah (.ref r)) (Sum.inr "loop") (.ref nl) = s8 (.ref g) (.ref q) (.ref nl) bb sd e ah (.ref r) from by kernel_rfl]
          have nlb : nl ≠ b := (ne_of_none hb4 nnl).symm
          have nl2 : H2 nl = none := keep_free (k3.trans k4) hp4 nnl
          have npb := hp2.ne hb2
          have npn := hp2.ne nl2
          refine ⟨{ s with lp := some [] }, [], rfl, st4.loop (nl := nl) (xs := []) (fun ks g' q' l' bb' sd' e' ah' r' h1 h2 => ?_) (fun c' o h1 n => ?_) ?_ .nil, good_noloop hg hls, nd_noloop hn, rfl, hsn, hah, ((hp4.ext (Ext.upd nnl)).upd npb.1 npb.2).mono (by omega)⟩
          · rw [hb] at h1
            cases h1
            cases h2
            rw [nw_at hb2]
            exact upd_same
          · obtain ⟨h3, h4⟩ := nw_some h1
            rw [nw_at h3, upd_ne n]
            exact (Ext.upd nnl) _ _ h4
          · rw [nw_at nl2, upd_ne nlb]
            exact upd_same
        · refine iteNo (decide_eq_false fun z => hj (V.int.inj z)) ?_
          obtain ⟨L, hL⟩ := Option.ne_none_iff_exists'.mp hls
          exact ⟨s, L, rfl, st4, hg, hn, hL, hsn, hah, hp4.mono (by omega)⟩
      · rintro σ' H4 ⟨s', L, rfl, st4, hg', hn', hl', hs', ha', hp4⟩
        clear st hg hn hls hsn hah hp3 k3
        refine ⟨_, rfl, b, s', rfl, st4.ext nw_ext, hg', fun y H5 e5 ny hpr => ?_⟩
        have st5 := (st4.ext (nw_more e5))
        have hp5 := hp4.ext e5
        refine ⟨_, rfl, p, c, _, 9, rfl, hp5, by omega, by decide, by decide, fun j H6 j0 j1 hp6 k6 => ?_⟩
        obtain ⟨jn, rfl⟩ : ∃ jn : Nat, j = jn := ⟨j.toNat, by omega⟩
        refine ⟨_, _, rfl, rfl, _, _, rfl, ?_⟩
        have st6 := (st5.ext (nw_keep hp2 k6)).ext nw_ext
        have hpr6 := hpr.pen hp5 k6
        have rt6 : Rt K (clsD CU CM CO) CP H6 b y s' us L := ⟨st6, hg', hn', hl', hs', hpr6, by omega⟩
        clear st4 st5 st6 hpr hpr6 hp4 hp5 e5 ny k6
        refine ⟨_, rfl, _, rfl, _, rfl, b, y, s', us, L, jn + 1, ?_, rt6, by omega, by omega, fun H7 e7 => ⟨_, rfl, iteF ?_⟩⟩
        · show [V.ref b, V.ref y, V.int (1 + (jn : Int))] = _
          rw [show (1 + (jn : Int)) = ((jn + 1 : Nat) : Int) by omega]
        have rt7 := rt6.ext e7
        have hp7 := hp6.ext e7
        refine ⟨_, rfl, _, rfl, _, rfl, b, y, s', us, L, jn + 1, ?_, rt7, by omega, by omega, fun H8 e8 => ⟨_, rfl, iteF ?_⟩⟩
        · show [V.ref b, V.ref y, V.int (1 + (jn : Int))] = _
          rw [show (1 + (jn : Int)) = ((jn + 1 : Nat) : Int) by omega]
        have rt8 := rt7.ext e8
        have hp8 := hp7.ext e8
        clear hp6 hp7 e7 rt6 rt7 e8
        obtain ⟨t, ys, gt, ht, hy⟩ := rt8.st.part (j := 4) (z := "behind") rfl rfl
        have b24 := rt8.hg.sh.l4
        have ly := hy.1
        have hB : ∀ m, ∀ d ∈ s'.bh.drop m, d ∈ s'.ds := fun m d hd => in_ds (i := 4) rfl d (List.mem_of_mem_drop hd)
        refine ⟨_, rfl, b, .ref t, rfl, gt _ Ext.rfl', t, ys, rfl, .inl (SqL.of ht), _, _, rfl, rfl, ((ys.length + 1 : Nat) : Int), rfl, by omega, by omega, ?_⟩
        rw [Int.toNat_natCast]
        refine for_it walk_range (fun m σ H' => ∃ (x6 x7 : Option V), σ = [some (.ref a), some (.ref p), some (.int (0 + (i : Int))), some (.ref b), some (.ref y), some (.int (1 + (jn : Int))), x6, x7] ∧ Ext H8 H') ⟨_, _, rfl, Ext.rfl'⟩ (fun _ _ _ _ _ => trivial) ?_ ?_
        · rintro m x σ _ H9 hm ⟨x6, x7, rfl, e9⟩ ⟨rfl, rfl⟩
          have hm' : m ≤ s'.bh.length := by omega
          have ej : (0 + (m : Int)) = ((m : Nat) : Int) := Int.zero_add _
          show gName 6 (.int (0 + (m : Int))) _ _ _
          rw [ej]
          refine ⟨_, rfl, _, rfl, b, .ref t, rfl, gt _ e9, _, rfl, ((m : Nat) : Int), rfl, t, ys, rfl, SqL.of (e9 _ _ ht), fun cc ncc => ?_⟩
          rw [cutV_from ys (by omega), Int.toNat_natCast]
          have e10 : Ext H9 (upd H9 cc (.lst (ys.drop m))) := Ext.upd ncc
          have f10 : (upd H9 cc (.lst (ys.drop m))) cc = some (.lst (ys.drop m)) := upd_same
          generalize (upd H9 cc (.lst (ys.drop m))) = H10 at e10 f10
          have rt10 := rt8.ext (e9.trans e10)
          refine ⟨b, cc, s', ys.drop m, s'.bh.drop m, rfl, rt10.st, hg', by omega, f10, (hy.drop m).ext (e9.trans e10), fun q1 H11 e11 _ fq1 => ?_⟩
          have rt11 := rt10.ext e11
          have sw := rt_shw (ds := s'.bh.drop m) hg'
          refine ⟨_, rfl, _, rfl, (by show 2 ≤ sizeLine; decide), fun tp ntp => ⟨rfl, rfl, ?_⟩⟩
          show spNe K (clsD CU CM CO) CP [.ref y, .ref tp, .bl true, .bl false, .bl true] (upd H11 tp (.tup [.str "behind", .int (m : Nat)])) _ _
          have e12 : Ext H11 (upd H11 tp (.tup [.str "behind", .int (m : Nat)])) := Ext.upd ntp
          have f12 : (upd H11 tp (.tup [.str "behind", .int (m : Nat)])) tp = some (.tup [.str "behind", .int (m : Nat)]) := upd_same
          generalize (upd H11 tp (.tup [.str "behind", .int (m : Nat)])) = H12 at e12 f12
          have rt12 := rt11.ext e12
          refine askG (i := 4) (ds := s'.bh) (ys := wantF s' (s'.bh.drop m)) rt12.hp rt12.hn f12 rfl rfl hm' (by rw [ae_behind]; exact bck_want (hB m)) fun q2 H13 e13 fq2 => ?_
          refine ⟨_, ndT _, rfl, tv_nd fq2, sw.sh, Nat.le_trans sw.dp (by decide), Nat.le_trans sw.ln (by decide), _, rfl, _, ndT _, rfl, tv_nd (e13 _ _ (e12 _ _ fq1)), sw.sh, Nat.le_trans sw.dp (by decide), Nat.le_trans sw.ln (by decide), rfl, _, rfl, iteNo (by rw [decide_eq_true rfl]; rfl) ?_⟩
          exact ⟨_, _, rfl, (e9.trans e10).trans (e11.trans (e12.trans e13))⟩
        · rintro σ H9 ⟨x6, x7, rfl, e9⟩
          have rt9 := rt8.ext e9
          have hbt : s'.bt = [] := shp_one hg'.sh hs'
          refine ⟨_, rfl, (by show 2 ≤ sizeLine; decide), fun tp ntp => ?_⟩
          show spNeD K (clsD CU CM CO) CP [.ref y, .ref tp] (upd H9 tp (.tup [.str "between", .int ((0 : Nat) : Int)])) _ _
          have e12 : Ext H9 (upd H9 tp (.tup [.str "between", .int ((0 : Nat) : Int)])) := Ext.upd ntp
          have f12 : (upd H9 tp (.tup [.str "between", .int ((0 : Nat) : Int)])) tp = some (.tup [.str "between", .int ((0 : Nat) : Int)]) := upd_same
          generalize (upd H9 tp (.tup [.str "between", .int ((0 : Nat) : Int)])) = H12 at e12 f12
          have rt12 := rt9.ext e12
          have hsh := nd_shaped (want_nm (ds := s'.bh) hg')
          refine neD (askG (i := 2) (m := 0) (ds := s'.bt) (ys := wantF s' s'.bh) rt12.hp rt12.hn f12 rfl rfl (Nat.zero_le _) (by rw [ae_between hg'.sh hs', hbt]; exact bck_want (hB 0)) fun q2 H13 e13 fq2 => ?_)
          have rt13 := rt12.ext e13
          have e813 := e9.trans (e12.trans e13)
          refine ⟨_, rfl, _, rfl, b, .ref t, rfl, gt _ e813, b, t, s', ys, s'.bh, rfl, rt13.st, hg', by omega, e813 _ _ ht, hy.ext e813, fun q1 H14 e14 _ fq1 => ?_⟩
          refine ⟨_, _, dp_nd (e14 _ _ fq2), dp_nd fq1, hsh, hsh, ?_⟩
          rw [nd_eqv, decide_eq_true rfl]
          exact ⟨_, rfl, iteNo rfl ⟨_, _, _, _, _, _, rfl, (hp8.ext (e813.trans e14)).mono (by omega)⟩⟩
    · rintro σ H1 ⟨x2, x3, x4, x5, x6, x7, rfl, _⟩
      exact k H1
end
end K33
end
section
set_option Elab.async false
set_option autoImplicit false
set_option linter.all false
set_option maxRecDepth 100000
set_option maxHeartbeats 4000000
set_option pp.maxSteps 1500
namespace K33
open PySem PySem.Spec PyProof.Rows L2 Ls
open C8 (pss_cut tCut)
open TL
/-! ### how the calls bind -/
section
variable {K : PySem.W.Frag} {f : Addr} {fd : FuncData}
theorem ne_fi (F : FNe K f fd) : ∃ g, KBn K fd pNe 2 ["first"] g gFi := by
  obtain ⟨mv, hb⟩ := F.kbinds0 (ps := pNe) 2 ["first"] [("further", V.bl true), ("second", V.bl true)] (fun us mv ws => us ++ (ws ++ mv)) (by simp) (by simp) (fun r m z => r.append (z.append m))
    fun D doc pm an cdv ct us mv ws h1 h2 h3 => match us, mv, ws, h1, h2, h3 with
      | [_, _], [_, _], [_], _, _, _ => ⟨_, _, _, _, _, _, rfl, rfl, _, _, _, _, _, _, rfl, rfl, rfl⟩
  exact ⟨_, hb⟩
theorem ne_fu (F : FNe K f fd) : ∃ g, KBn K fd pNe 2 ["further"] g gFu := by
  obtain ⟨mv, hb⟩ := F.kbinds0 (ps := pNe) 2 ["further"] [("first", V.bl true), ("second", V.bl true)] (fun us mv ws => us ++ (mv.take 1 ++ (ws ++ mv.drop 1))) (by simp) (by simp) (fun r m z => r.append ((m.take 1).append (z.append (m.drop 1))))
    fun D doc pm an cdv ct us mv ws h1 h2 h3 => match us, mv, ws, h1, h2, h3 with
      | [_, _], [_, _], [_], _, _, _ => ⟨_, _, _, _, _, _, rfl, rfl, _, _, _, _, _, _, rfl, rfl, rfl⟩
  exact ⟨_, hb⟩
theorem ne_ffs (F : FNe K f fd) : ∃ g, KBn K fd pNe 2 ["further", "first", "second"] g gFFS := by
  obtain ⟨mv, hb⟩ := F.kbinds0 (ps := pNe) 2 ["further", "first", "second"] [] (fun us mv ws => us ++ ((ws.drop 1).take 1 ++ (ws.take 1 ++ ws.drop 2))) (by simp) (by simp) (fun r m z => r.append (((z.drop 1).take 1).append ((z.take 1).append (z.drop 2))))
    fun D doc pm an cdv ct us mv ws h1 h2 h3 => match us, mv, ws, h1, h2, h3 with
      | [_, _], [], [_, _, _], _, _, _ => rfl
  exact ⟨_, hb⟩
end
end K33
end
section
set_option Elab.async false
set_option linter.all false
set_option maxRecDepth 100000
set_option maxHeartbeats 8000000
namespace K33
open PySem PySem.Spec PyProof.Rows L2 Ls
theorem all_mk {l : PySem.W.OpenLaw} {w : World} {K : PySem.W.Frag} {q : Program} {h : Heap} {mg : Str → Option Value} {fa : Addr} (X : K.In h) (G : h.Ns mainGlobals mg) (hfa : mg "law" = some (.ref fa))
    (ow : ∀ (x : Str) (fx : Addr), ((recsOf q).any fun e => e.name == x) = true → mg x = some (.ref fx) → LamX.OwnTab K fx h)
    {tL tN : Tok} {zL : Str}
    {tI0 : Tok}
    {tI1 : Tok}
    {tI2 : Tok}
    {tI3 : Tok}
    {tI4 : Tok}
    {tP : Addr} {y0 y1 y2 y3 y4 : Str} {j0 j1 j2 j3 j4 : Tok} {nPT : Nat} {slPT : Array (Option Value)}
    {CE : Addr}
    {CD fDI : Addr} {mc : Value}
    {odDI anDI : Option Addr} {slDI : Array (Option Value)} {ocDI kVDI dcDI pmDI ctDI : Value}
    {cdDI : Value}
    {CU fU_ : Addr}
    {odIU anIU : Option Addr} {slIU : Array (Option Value)} {ocIU kVIU dcIU pmIU ctIU : Value}
    {cdIU : Value}
    {CM fM_ : Addr}
    {odIM anIM : Option Addr} {slIM : Array (Option Value)} {ocIM kVIM dcIM pmIM ctIM : Value}
    {cdIM : Value}
    {CO fO_ : Addr}
    {odIO anIO : Option Addr} {slIO : Array (Option Value)} {ocIO kVIO dcIO pmIO ctIO : Value}
    {cdIO : Value}
    {p_duses g_duses : Addr} {rest_duses : List Value}
    {odGduses anGduses : Option Addr} {slGduses : Array (Option Value)} {ocGduses kVGduses dcGduses pmGduses ctGduses : Value}
    {cdGduses : Value}
    {p_dmakes g_dmakes : Addr} {rest_dmakes : List Value}
    {odGdmakes anGdmakes : Option Addr} {slGdmakes : Array (Option Value)} {ocGdmakes kVGdmakes dcGdmakes pmGdmakes ctGdmakes : Value}
    {cdGdmakes : Value}
    {p_dnames g_dnames : Addr} {rest_dnames : List Value}
    {odGdnames anGdnames : Option Addr} {slGdnames : Array (Option Value)} {ocGdnames kVGdnames dcGdnames pmGdnames ctGdnames : Value}
    {cdGdnames : Value}
    {CP fP_ : Addr}
    {DT DK z1 z2 z3 z4 z5 : Addr} {cDT : Value} {dDT dz1 dz2 dz3 dz4 dz5 : Option Addr} {nDT nz1 nz2 nz3 nz4 nz5 : Nat} {slDT sz1 sz2 sz3 sz4 sz5 : Array (Option Value)}
    {odIP anIP : Option Addr} {slIP : Array (Option Value)} {ocIP dcIP pmIP ctIP : Value}
    {cdIP : Value}
    {p_pahead g_pahead : Addr} {rest_pahead : List Value}
    {odGpahead anGpahead : Option Addr} {slGpahead : Array (Option Value)} {ocGpahead kVGpahead dcGpahead pmGpahead ctGpahead : Value}
    {cdGpahead : Value}
    {p_ploop g_ploop : Addr} {rest_ploop : List Value}
    {odGploop anGploop : Option Addr} {slGploop : Array (Option Value)} {ocGploop kVGploop dcGploop pmGploop ctGploop : Value}
    {cdGploop : Value}
    {p_pbetween g_pbetween : Addr} {rest_pbetween : List Value}
    {odGpbetween anGpbetween : Option Addr} {slGpbetween : Array (Option Value)} {ocGpbetween kVGpbetween dcGpbetween pmGpbetween ctGpbetween : Value}
    {cdGpbetween : Value}
    {p_psecond g_psecond : Addr} {rest_psecond : List Value}
    {odGpsecond anGpsecond : Option Addr} {slGpsecond : Array (Option Value)} {ocGpsecond kVGpsecond dcGpsecond pmGpsecond ctGpsecond : Value}
    {cdGpsecond : Value}
    {p_pbehind g_pbehind : Addr} {rest_pbehind : List Value}
    {odGpbehind anGpbehind : Option Addr} {slGpbehind : Array (Option Value)} {ocGpbehind kVGpbehind dcGpbehind pmGpbehind ctGpbehind : Value}
    {cdGpbehind : Value}
    {p_pgiven g_pgiven : Addr} {rest_pgiven : List Value}
    {odGpgiven anGpgiven : Option Addr} {slGpgiven : Array (Option Value)} {ocGpgiven kVGpgiven dcGpgiven pmGpgiven ctGpgiven : Value}
    {cdGpgiven : Value}
    {p_presults g_presults : Addr} {rest_presults : List Value}
    {odGpresults anGpresults : Option Addr} {slGpresults : Array (Option Value)} {ocGpresults kVGpresults dcGpresults pmGpresults ctGpresults : Value}
    {cdGpresults : Value}
    {p_pnames g_pnames : Addr} {rest_pnames : List Value}
    {odGpnames anGpnames : Option Addr} {slGpnames : Array (Option Value)} {ocGpnames kVGpnames dcGpnames pmGpnames ctGpnames : Value}
    {cdGpnames : Value}
    {fNM : Addr}
    {odNM anNM : Option Addr} {slNM : Array (Option Value)} {ocNM kVNM dcNM pmNM ctNM : Value}
    {cdNM : Value}
    {f_deeds_of_programs : Addr}
    {od_deeds_of_programs an_deeds_of_programs : Option Addr} {sl_deeds_of_programs : Array (Option Value)} {oc_deeds_of_programs kV_deeds_of_programs dc_deeds_of_programs pm_deeds_of_programs ct_deeds_of_programs : Value}
    {cd_deeds_of_programs : Value}
    {f_deeds_of_needed : Addr}
    {od_deeds_of_needed an_deeds_of_needed : Option Addr} {sl_deeds_of_needed : Array (Option Value)} {oc_deeds_of_needed kV_deeds_of_needed dc_deeds_of_needed pm_deeds_of_needed ct_deeds_of_needed : Value}
    {cd_deeds_of_needed : Value}
    {f_needed DN : Addr}
    {od_needed an_needed : Option Addr} {sl_needed : Array (Option Value)} {oc_needed dc_needed pm_needed ct_needed : Value}
    {cd_needed : Value}
    {f_is_name : Addr}
    {od_is_name an_is_name : Option Addr} {sl_is_name : Array (Option Value)} {oc_is_name kV_is_name dc_is_name pm_is_name ct_is_name : Value}
    {cd_is_name : Value}
    {f_ascending : Addr}
    {od_ascending an_ascending : Option Addr} {sl_ascending : Array (Option Value)} {oc_ascending kV_ascending dc_ascending pm_ascending ct_ascending : Value}
    {cd_ascending : Value}
    {f_need_names : Addr}
    {od_need_names an_need_names : Option Addr} {sl_need_names : Array (Option Value)} {oc_need_names kV_need_names dc_need_names pm_need_names ct_need_names : Value}
    {cd_need_names : Value}
    {f_need_used : Addr}
    {od_need_used an_need_used : Option Addr} {sl_need_used : Array (Option Value)} {oc_need_used kV_need_used dc_need_used pm_need_used ct_need_used : Value}
    {cd_need_used : Value}
    {f_need_name : Addr}
    {od_need_name an_need_name : Option Addr} {sl_need_name : Array (Option Value)} {oc_need_name kV_need_name dc_need_name pm_need_name ct_need_name : Value}
    {cd_need_name : Value}
    {f_is_integer : Addr}
    {od_is_integer an_is_integer : Option Addr} {sl_is_integer : Array (Option Value)} {oc_is_integer kV_is_integer dc_is_integer pm_is_integer ct_is_integer : Value}
    {cd_is_integer : Value}
    {f_need_price : Addr}
    {od_need_price an_need_price : Option Addr} {sl_need_price : Array (Option Value)} {oc_need_price kV_need_price dc_need_price pm_need_price ct_need_price : Value}
    {cd_need_price : Value}
    {f_need_shape : Addr}
    {od_need_shape an_need_shape : Option Addr} {sl_need_shape : Array (Option Value)} {oc_need_shape kV_need_shape dc_need_shape pm_need_shape ct_need_shape : Value}
    {cd_need_shape : Value}
    {f_need_again : Addr}
    {od_need_again an_need_again : Option Addr} {sl_need_again : Array (Option Value)} {oc_need_again kV_need_again dc_need_again pm_need_again ct_need_again : Value}
    {cd_need_again : Value}
    {f__law_pen : Addr}
    {od__law_pen an__law_pen : Option Addr} {sl__law_pen : Array (Option Value)} {oc__law_pen kV__law_pen dc__law_pen pm__law_pen ct__law_pen : Value}
    {cd__law_pen : Value}
    {f__law_draw : Addr}
    {od__law_draw an__law_draw : Option Addr} {sl__law_draw : Array (Option Value)} {oc__law_draw kV__law_draw dc__law_draw pm__law_draw ct__law_draw : Value}
    {cd__law_draw : Value}
    {f__law_pick : Addr}
    {od__law_pick an__law_pick : Option Addr} {sl__law_pick : Array (Option Value)} {oc__law_pick kV__law_pick dc__law_pick pm__law_pick ct__law_pick : Value}
    {cd__law_pick : Value}
    {f__law_some : Addr}
    {od__law_some an__law_some : Option Addr} {sl__law_some : Array (Option Value)} {oc__law_some kV__law_some dc__law_some pm__law_some ct__law_some : Value}
    {cd__law_some : Value}
    {f__law_names : Addr}
    {od__law_names an__law_names : Option Addr} {sl__law_names : Array (Option Value)} {oc__law_names kV__law_names dc__law_names pm__law_names ct__law_names : Value}
    {cd__law_names : Value}
    {f__law_real_deed : Addr}
    {od__law_real_deed an__law_real_deed : Option Addr} {sl__law_real_deed : Array (Option Value)} {oc__law_real_deed kV__law_real_deed dc__law_real_deed pm__law_real_deed ct__law_real_deed : Value}
    {cd__law_real_deed : Value}
    {f__law_order : Addr}
    {od__law_order an__law_order : Option Addr} {sl__law_order : Array (Option Value)} {oc__law_order kV__law_order dc__law_order pm__law_order ct__law_order : Value}
    {cd__law_order : Value}
    {f__law_deeds : Addr}
    {od__law_deeds an__law_deeds : Option Addr} {sl__law_deeds : Array (Option Value)} {oc__law_deeds kV__law_deeds dc__law_deeds pm__law_deeds ct__law_deeds : Value}
    {cd__law_deeds : Value}
    {f__law_site : Addr}
    {od__law_site an__law_site : Option Addr} {sl__law_site : Array (Option Value)} {oc__law_site kV__law_site dc__law_site pm__law_site ct__law_site : Value}
    {cd__law_site : Value}
    {f__law_real_part : Addr}
    {od__law_real_part an__law_real_part : Option Addr} {sl__law_real_part : Array (Option Value)} {oc__law_real_part kV__law_real_part dc__law_real_part pm__law_real_part ct__law_real_part : Value}
    {cd__law_real_part : Value}
    {f__law_real : Addr}
    {od__law_real an__law_real : Option Addr} {sl__law_real : Array (Option Value)} {oc__law_real kV__law_real dc__law_real pm__law_real ct__law_real : Value}
    {cd__law_real : Value}
    {f_part_of : Addr}
    {od_part_of an_part_of : Option Addr} {sl_part_of : Array (Option Value)} {oc_part_of kV_part_of dc_part_of pm_part_of ct_part_of : Value}
    {cd_part_of : Value}
    {f_is_place : Addr}
    {od_is_place an_is_place : Option Addr} {sl_is_place : Array (Option Value)} {oc_is_place kV_is_place dc_is_place pm_is_place ct_is_place : Value}
    {cd_is_place : Value}
    {f_ahead_of : Addr}
    {od_ahead_of an_ahead_of : Option Addr} {sl_ahead_of : Array (Option Value)} {oc_ahead_of kV_ahead_of dc_ahead_of pm_ahead_of ct_ahead_of : Value}
    {cd_ahead_of : Value}
    {f_names_back : Addr}
    {od_names_back an_names_back : Option Addr} {sl_names_back : Array (Option Value)} {oc_names_back kV_names_back dc_names_back pm_names_back ct_names_back : Value}
    {cd_names_back : Value}
    {f_back_through : Addr}
    {od_back_through an_back_through : Option Addr} {sl_back_through : Array (Option Value)} {oc_back_through kV_back_through dc_back_through pm_back_through ct_back_through : Value}
    {cd_back_through : Value}
    {f_behind_loop : Addr}
    {od_behind_loop an_behind_loop : Option Addr} {sl_behind_loop : Array (Option Value)} {oc_behind_loop kV_behind_loop dc_behind_loop pm_behind_loop ct_behind_loop : Value}
    {cd_behind_loop : Value}
    {f_at_end : Addr}
    {od_at_end an_at_end : Option Addr} {sl_at_end : Array (Option Value)} {oc_at_end kV_at_end dc_at_end pm_at_end ct_at_end : Value}
    {cd_at_end : Value}
    {f__law_is_wanted : Addr}
    {od__law_is_wanted an__law_is_wanted : Option Addr} {sl__law_is_wanted : Array (Option Value)} {oc__law_is_wanted kV__law_is_wanted dc__law_is_wanted pm__law_is_wanted ct__law_is_wanted : Value}
    {cd__law_is_wanted : Value}
    {f__law_words_of : Addr}
    {od__law_words_of an__law_words_of : Option Addr} {sl__law_words_of : Array (Option Value)} {oc__law_words_of kV__law_words_of dc__law_words_of pm__law_words_of ct__law_words_of : Value}
    {cd__law_words_of : Value}
    {f__law_wanted : Addr}
    {od__law_wanted an__law_wanted : Option Addr} {sl__law_wanted : Array (Option Value)} {oc__law_wanted kV__law_wanted dc__law_wanted pm__law_wanted ct__law_wanted : Value}
    {cd__law_wanted : Value}
    {f__law_rest : Addr}
    {od__law_rest an__law_rest : Option Addr} {sl__law_rest : Array (Option Value)} {oc__law_rest kV__law_rest dc__law_rest pm__law_rest ct__law_rest : Value}
    {cd__law_rest : Value}
    {f__law_ahead_right : Addr}
    {od__law_ahead_right an__law_ahead_right : Option Addr} {sl__law_ahead_right : Array (Option Value)} {oc__law_ahead_right kV__law_ahead_right dc__law_ahead_right pm__law_ahead_right ct__law_ahead_right : Value}
    {cd__law_ahead_right : Value}
    {f__law_loop_right : Addr}
    {od__law_loop_right an__law_loop_right : Option Addr} {sl__law_loop_right : Array (Option Value)} {oc__law_loop_right kV__law_loop_right dc__law_loop_right pm__law_loop_right ct__law_loop_right : Value}
    {cd__law_loop_right : Value}
    {f_law : Addr}
    {od_law an_law : Option Addr} {sl_law : Array (Option Value)} {oc_law kV_law dc_law pm_law ct_law : Value}
    {cd_law : Value}
    (b0 : PySem.W.nsIn K mainGlobals "len" = some none)
    (b1 : PySem.W.nsIn K mainGlobals "bool" = some none)
    (b2 : PySem.W.nsIn K mainGlobals "int" = some none)
    (b3 : PySem.W.nsIn K mainGlobals "abs" = some none)
    (b4 : PySem.W.nsIn K mainGlobals "list" = some none)
    (b5 : PySem.W.nsIn K mainGlobals "str" = some none)
    (b6 : PySem.W.nsIn K mainGlobals "isinstance" = some none)
    (b7 : PySem.W.nsIn K mainGlobals "all" = some none)
    (b8 : PySem.W.nsIn K mainGlobals "range" = some none)
    (b9 : PySem.W.nsIn K mainGlobals "tuple" = some none)
    (b10 : PySem.W.nsIn K mainGlobals "super" = some none)
    (b11 : PySem.W.nsIn K mainGlobals "repr" = some none)
    (b12 : PySem.W.nsIn K mainGlobals "set" = some none)
    (b13 : PySem.W.nsIn K mainGlobals "sorted" = some none)
    (b14 : PySem.W.nsIn K mainGlobals "enumerate" = some none)
    (b15 : PySem.W.nsIn K mainGlobals "zip" = some none)
    (b16 : PySem.W.nsIn K mainGlobals "dict" = some none)
    (b17 : PySem.W.nsIn K mainGlobals "min" = some none)
    (b18 : PySem.W.nsIn K mainGlobals "max" = some none)
    (b19 : PySem.W.nsIn K mainGlobals "ValueError" = some none)
    (gL : PySem.W.nsIn K mainGlobals "LETTERS" = some (some (.str zL tL)))
    (eL : zL = lettersS)
    (gN : PySem.W.nsIn K mainGlobals "LONGEST_NAME" = some (some (.int 6 tN)))
    (gI0 : PySem.W.nsIn K mainGlobals "MOST_USED" = some (some (.int 3 tI0)))
    (gI1 : PySem.W.nsIn K mainGlobals "MOST_AHEAD" = some (some (.int 200 tI1)))
    (gI2 : PySem.W.nsIn K mainGlobals "MOST_DEEDS" = some (some (.int 24 tI2)))
    (gI3 : PySem.W.nsIn K mainGlobals "MOST_NAMES" = some (some (.int 6 tI3)))
    (gI4 : PySem.W.nsIn K mainGlobals "MOST_PRICE" = some (some (.int 9 tI4)))
    (gPT : PySem.W.nsIn K mainGlobals "PARTS" = some (some (.ref tP)))
    (lPT : K.lookup tP = some ⟨.type "tuple", none, .seq #[.str y0 j0, .str y1 j1, .str y2 j2, .str y3 j3, .str y4 j4] nPT, slPT⟩)
    (ey0 : y0 = "ahead")
    (ey1 : y1 = "loop")
    (ey2 : y2 = "between")
    (ey3 : y3 = "second")
    (ey4 : y4 = "behind")
    (gCE : PySem.W.nsIn K mainGlobals "StowError" = some (some (.ref CE)))
    (gD_ : PySem.W.nsIn K mainGlobals "Deed" = some (some (.ref CD)))
    (tyM : PySem.W.typeIn K (.ref CD) = some mc)
    (rdM : PySem.W.readsIn K CD mc = true)
    (gaM : PySem.W.specialIn K (.ref CD) "__getattribute__" = some (some (.builtin "type.__getattribute__")))
    (atDI : PySem.W.findCls K (.ref CD) mc "__init__" = some (.val (.ref fDI)))
    (lDI : K.lookup fDI = some ⟨ocDI, odDI, .func (PySem.W.fnOf "__init__" "Deed.__init__" (defArgs s_Deed_init) (defBody s_Deed_init) (defScope s_Deed_init) .none kVDI dcDI pmDI anDI cdDI ctDI), slDI⟩)
    (cDI : PySem.W.codeIn K cdDI "Deed.__init__" = true)
    (kDI : PySem.W.keepIn K (.ref fDI) = true)
    (gU_ : PySem.W.nsIn K mainGlobals "Use" = some (some (.ref CU)))
    (pgU : PySem.W.plainGet K CU Str.empty = true)
    (hdU : PySem.W.hasDictIn K CU = true)
    (poU : PySem.W.plainOver K CU = true)
    (saU : PySem.W.findIn K (.ref CU) "__setattr__" = some (some (.builtin "object.__setattr__")))
    (nU_used_names : PySem.W.findIn K (.ref CU) "used_names" = some none)
    (nU_made_names : PySem.W.findIn K (.ref CU) "made_names" = some none)
    (haU : PySem.W.findIn K (.ref CU) "__class__" = some (some (.builtin "object.__class__")))
    (hmU : PySem.W.mroIn K CU (.type "object") = some true)
    (mkU : PySem.W.makesIn K CU = true)
    (inU : PySem.W.findIn K (.ref CU) "__init__" = some (some (.ref fU_)))
    (fnU : PySem.W.isFn K (.ref fU_) = true)
    (kpU : PySem.W.keepIn K (.ref CU) = true)
    (lIU : K.lookup fU_ = some ⟨ocIU, odIU, .func (PySem.W.fnOf "__init__" "Use.__init__" (defArgs s_Use_init) (defBody s_Use_init) (defScope s_Use_init) .none kVIU dcIU pmIU anIU cdIU ctIU), slIU⟩)
    (cIU : PySem.W.codeIn K cdIU "Use.__init__" = true)
    (kIU : PySem.W.keepIn K (.ref fU_) = true)
    (gM_ : PySem.W.nsIn K mainGlobals "Make" = some (some (.ref CM)))
    (pgM : PySem.W.plainGet K CM Str.empty = true)
    (hdM : PySem.W.hasDictIn K CM = true)
    (poM : PySem.W.plainOver K CM = true)
    (saM : PySem.W.findIn K (.ref CM) "__setattr__" = some (some (.builtin "object.__setattr__")))
    (nM_used_names : PySem.W.findIn K (.ref CM) "used_names" = some none)
    (nM_made_names : PySem.W.findIn K (.ref CM) "made_names" = some none)
    (haM : PySem.W.findIn K (.ref CM) "__class__" = some (some (.builtin "object.__class__")))
    (hmM : PySem.W.mroIn K CM (.type "object") = some true)
    (mkM : PySem.W.makesIn K CM = true)
    (inM : PySem.W.findIn K (.ref CM) "__init__" = some (some (.ref fM_)))
    (fnM : PySem.W.isFn K (.ref fM_) = true)
    (kpM : PySem.W.keepIn K (.ref CM) = true)
    (lIM : K.lookup fM_ = some ⟨ocIM, odIM, .func (PySem.W.fnOf "__init__" "Make.__init__" (defArgs s_Make_init) (defBody s_Make_init) (defScope s_Make_init) .none kVIM dcIM pmIM anIM cdIM ctIM), slIM⟩)
    (cIM : PySem.W.codeIn K cdIM "Make.__init__" = true)
    (kIM : PySem.W.keepIn K (.ref fM_) = true)
    (gO_ : PySem.W.nsIn K mainGlobals "Do" = some (some (.ref CO)))
    (pgO : PySem.W.plainGet K CO Str.empty = true)
    (hdO : PySem.W.hasDictIn K CO = true)
    (poO : PySem.W.plainOver K CO = true)
    (saO : PySem.W.findIn K (.ref CO) "__setattr__" = some (some (.builtin "object.__setattr__")))
    (nO_used_names : PySem.W.findIn K (.ref CO) "used_names" = some none)
    (nO_made_names : PySem.W.findIn K (.ref CO) "made_names" = some none)
    (haO : PySem.W.findIn K (.ref CO) "__class__" = some (some (.builtin "object.__class__")))
    (hmO : PySem.W.mroIn K CO (.type "object") = some true)
    (mkO : PySem.W.makesIn K CO = true)
    (inO : PySem.W.findIn K (.ref CO) "__init__" = some (some (.ref fO_)))
    (fnO : PySem.W.isFn K (.ref fO_) = true)
    (kpO : PySem.W.keepIn K (.ref CO) = true)
    (lIO : K.lookup fO_ = some ⟨ocIO, odIO, .func (PySem.W.fnOf "__init__" "Do.__init__" (defArgs s_Do_init) (defBody s_Do_init) (defScope s_Do_init) .none kVIO dcIO pmIO anIO cdIO ctIO), slIO⟩)
    (cIO : PySem.W.codeIn K cdIO "Do.__init__" = true)
    (kIO : PySem.W.keepIn K (.ref fO_) = true)
    (paU_duses : PySem.W.findIn K (.ref CU) "uses" = some (some (.ref p_duses)))
    (paM_duses : PySem.W.findIn K (.ref CM) "uses" = some (some (.ref p_duses)))
    (paO_duses : PySem.W.findIn K (.ref CO) "uses" = some (some (.ref p_duses)))
    (pg_duses : PySem.W.specialIn K (.ref p_duses) "__get__" = some (some (.builtin "property.__get__")))
    (pt_duses : PySem.W.takesIn K (.ref p_duses) = some true)
    (pr_duses : PySem.W.recIn K p_duses "property" = some (.ref g_duses :: rest_duses))
    (lGduses : K.lookup g_duses = some ⟨ocGduses, odGduses, .func (PySem.W.fnOf "uses" "Deed.uses" (defArgs s_Deed_uses) (defBody s_Deed_uses) (defScope s_Deed_uses) .none kVGduses dcGduses pmGduses anGduses cdGduses ctGduses), slGduses⟩)
    (cGduses : PySem.W.codeIn K cdGduses "Deed.uses" = true)
    (kGduses : PySem.W.keepIn K (.ref g_duses) = true)
    (paU_dmakes : PySem.W.findIn K (.ref CU) "makes" = some (some (.ref p_dmakes)))
    (paM_dmakes : PySem.W.findIn K (.ref CM) "makes" = some (some (.ref p_dmakes)))
    (paO_dmakes : PySem.W.findIn K (.ref CO) "makes" = some (some (.ref p_dmakes)))
    (pg_dmakes : PySem.W.specialIn K (.ref p_dmakes) "__get__" = some (some (.builtin "property.__get__")))
    (pt_dmakes : PySem.W.takesIn K (.ref p_dmakes) = some true)
    (pr_dmakes : PySem.W.recIn K p_dmakes "property" = some (.ref g_dmakes :: rest_dmakes))
    (lGdmakes : K.lookup g_dmakes = some ⟨ocGdmakes, odGdmakes, .func (PySem.W.fnOf "makes" "Deed.makes" (defArgs s_Deed_makes) (defBody s_Deed_makes) (defScope s_Deed_makes) .none kVGdmakes dcGdmakes pmGdmakes anGdmakes cdGdmakes ctGdmakes), slGdmakes⟩)
    (cGdmakes : PySem.W.codeIn K cdGdmakes "Deed.makes" = true)
    (kGdmakes : PySem.W.keepIn K (.ref g_dmakes) = true)
    (paU_dnames : PySem.W.findIn K (.ref CU) "names" = some (some (.ref p_dnames)))
    (paM_dnames : PySem.W.findIn K (.ref CM) "names" = some (some (.ref p_dnames)))
    (paO_dnames : PySem.W.findIn K (.ref CO) "names" = some (some (.ref p_dnames)))
    (pg_dnames : PySem.W.specialIn K (.ref p_dnames) "__get__" = some (some (.builtin "property.__get__")))
    (pt_dnames : PySem.W.takesIn K (.ref p_dnames) = some true)
    (pr_dnames : PySem.W.recIn K p_dnames "property" = some (.ref g_dnames :: rest_dnames))
    (lGdnames : K.lookup g_dnames = some ⟨ocGdnames, odGdnames, .func (PySem.W.fnOf "names" "Deed.names" (defArgs s_Deed_names) (defBody s_Deed_names) (defScope s_Deed_names) .none kVGdnames dcGdnames pmGdnames anGdnames cdGdnames ctGdnames), slGdnames⟩)
    (cGdnames : PySem.W.codeIn K cdGdnames "Deed.names" = true)
    (kGdnames : PySem.W.keepIn K (.ref g_dnames) = true)
    (gP_ : PySem.W.nsIn K mainGlobals "Program" = some (some (.ref CP)))
    (pgP : PySem.W.plainGet K CP Str.empty = true)
    (hdP : PySem.W.hasDictIn K CP = true)
    (poP : PySem.W.plainOver K CP = true)
    (saP : PySem.W.findIn K (.ref CP) "__setattr__" = some (some (.builtin "object.__setattr__")))
    (nP_own_parts : PySem.W.findIn K (.ref CP) "own_parts" = some none)
    (nP_own_given : PySem.W.findIn K (.ref CP) "own_given" = some none)
    (nP_own_again : PySem.W.findIn K (.ref CP) "own_again" = some none)
    (nP_own_results : PySem.W.findIn K (.ref CP) "own_results" = some none)
    (haP : PySem.W.findIn K (.ref CP) "__class__" = some (some (.builtin "object.__class__")))
    (hmP : PySem.W.mroIn K CP (.type "object") = some true)
    (mkP : PySem.W.makesIn K CP = true)
    (inP : PySem.W.findIn K (.ref CP) "__init__" = some (some (.ref fP_)))
    (fnP : PySem.W.isFn K (.ref fP_) = true)
    (kpP : PySem.W.keepIn K (.ref CP) = true)
    (lIP : K.lookup fP_ = some ⟨ocIP, odIP, .func (PySem.W.fnOf "__init__" "Program.__init__" (defArgs s_Program_init) (defBody s_Program_init) (defScope s_Program_init) (.ref DT) (.ref DK) dcIP pmIP anIP cdIP ctIP), slIP⟩)
    (cIP : PySem.W.codeIn K cdIP "Program.__init__" = true)
    (kIP : PySem.W.keepIn K (.ref fP_) = true)
    (lDT : K.lookup DT = some ⟨cDT, dDT, .seq #[.ref z1, .none, .ref z2, .none, .ref z3] nDT, slDT⟩)
    (kw4 : PySem.W.nsIn K DK "given" = some (some (.ref z4)))
    (kwA : PySem.W.nsIn K DK "again" = some (some .none))
    (kw5 : PySem.W.nsIn K DK "results" = some (some (.ref z5)))
    (lz1 : K.lookup z1 = some ⟨.type "tuple", dz1, .seq #[] nz1, sz1⟩)
    (lz2 : K.lookup z2 = some ⟨.type "tuple", dz2, .seq #[] nz2, sz2⟩)
    (lz3 : K.lookup z3 = some ⟨.type "tuple", dz3, .seq #[] nz3, sz3⟩)
    (lz4 : K.lookup z4 = some ⟨.type "tuple", dz4, .seq #[] nz4, sz4⟩)
    (lz5 : K.lookup z5 = some ⟨.type "tuple", dz5, .seq #[] nz5, sz5⟩)
    (paP_pahead : PySem.W.findIn K (.ref CP) "ahead" = some (some (.ref p_pahead)))
    (pg_pahead : PySem.W.specialIn K (.ref p_pahead) "__get__" = some (some (.builtin "property.__get__")))
    (pt_pahead : PySem.W.takesIn K (.ref p_pahead) = some true)
    (pr_pahead : PySem.W.recIn K p_pahead "property" = some (.ref g_pahead :: rest_pahead))
    (lGpahead : K.lookup g_pahead = some ⟨ocGpahead, odGpahead, .func (PySem.W.fnOf "ahead" "Program.ahead" (defArgs s_Program_ahead) (defBody s_Program_ahead) (defScope s_Program_ahead) .none kVGpahead dcGpahead pmGpahead anGpahead cdGpahead ctGpahead), slGpahead⟩)
    (cGpahead : PySem.W.codeIn K cdGpahead "Program.ahead" = true)
    (kGpahead : PySem.W.keepIn K (.ref g_pahead) = true)
    (paP_ploop : PySem.W.findIn K (.ref CP) "loop" = some (some (.ref p_ploop)))
    (pg_ploop : PySem.W.specialIn K (.ref p_ploop) "__get__" = some (some (.builtin "property.__get__")))
    (pt_ploop : PySem.W.takesIn K (.ref p_ploop) = some true)
    (pr_ploop : PySem.W.recIn K p_ploop "property" = some (.ref g_ploop :: rest_ploop))
    (lGploop : K.lookup g_ploop = some ⟨ocGploop, odGploop, .func (PySem.W.fnOf "loop" "Program.loop" (defArgs s_Program_loop) (defBody s_Program_loop) (defScope s_Program_loop) .none kVGploop dcGploop pmGploop anGploop cdGploop ctGploop), slGploop⟩)
    (cGploop : PySem.W.codeIn K cdGploop "Program.loop" = true)
    (kGploop : PySem.W.keepIn K (.ref g_ploop) = true)
    (paP_pbetween : PySem.W.findIn K (.ref CP) "between" = some (some (.ref p_pbetween)))
    (pg_pbetween : PySem.W.specialIn K (.ref p_pbetween) "__get__" = some (some (.builtin "property.__get__")))
    (pt_pbetween : PySem.W.takesIn K (.ref p_pbetween) = some true)
    (pr_pbetween : PySem.W.recIn K p_pbetween "property" = some (.ref g_pbetween :: rest_pbetween))
    (lGpbetween : K.lookup g_pbetween = some ⟨ocGpbetween, odGpbetween, .func (PySem.W.fnOf "between" "Program.between" (defArgs s_Program_between) (defBody s_Program_between) (defScope s_Program_between) .none kVGpbetween dcGpbetween pmGpbetween anGpbetween cdGpbetween ctGpbetween), slGpbetween⟩)
    (cGpbetween : PySem.W.codeIn K cdGpbetween "Program.between" = true)
    (kGpbetween : PySem.W.keepIn K (.ref g_pbetween) = true)
    (paP_psecond : PySem.W.findIn K (.ref CP) "second" = some (some (.ref p_psecond)))
    (pg_psecond : PySem.W.specialIn K (.ref p_psecond) "__get__" = some (some (.builtin "property.__get__")))
    (pt_psecond : PySem.W.takesIn K (.ref p_psecond) = some true)
    (pr_psecond : PySem.W.recIn K p_psecond "property" = some (.ref g_psecond :: rest_psecond))
    (lGpsecond : K.lookup g_psecond = some ⟨ocGpsecond, odGpsecond, .func (PySem.W.fnOf "second" "Program.second" (defArgs s_Program_second) (defBody s_Program_second) (defScope s_Program_second) .none kVGpsecond dcGpsecond pmGpsecond anGpsecond cdGpsecond ctGpsecond), slGpsecond⟩)
    (cGpsecond : PySem.W.codeIn K cdGpsecond "Program.second" = true)
    (kGpsecond : PySem.W.keepIn K (.ref g_psecond) = true)
    (paP_pbehind : PySem.W.findIn K (.ref CP) "behind" = some (some (.ref p_pbehind)))
    (pg_pbehind : PySem.W.specialIn K (.ref p_pbehind) "__get__" = some (some (.builtin "property.__get__")))
    (pt_pbehind : PySem.W.takesIn K (.ref p_pbehind) = some true)
    (pr_pbehind : PySem.W.recIn K p_pbehind "property" = some (.ref g_pbehind :: rest_pbehind))
    (lGpbehind : K.lookup g_pbehind = some ⟨ocGpbehind, odGpbehind, .func (PySem.W.fnOf "behind" "Program.behind" (defArgs s_Program_behind) (defBody s_Program_behind) (defScope s_Program_behind) .none kVGpbehind dcGpbehind pmGpbehind anGpbehind cdGpbehind ctGpbehind), slGpbehind⟩)
    (cGpbehind : PySem.W.codeIn K cdGpbehind "Program.behind" = true)
    (kGpbehind : PySem.W.keepIn K (.ref g_pbehind) = true)
    (paP_pgiven : PySem.W.findIn K (.ref CP) "given" = some (some (.ref p_pgiven)))
    (pg_pgiven : PySem.W.specialIn K (.ref p_pgiven) "__get__" = some (some (.builtin "property.__get__")))
    (pt_pgiven : PySem.W.takesIn K (.ref p_pgiven) = some true)
    (pr_pgiven : PySem.W.recIn K p_pgiven "property" = some (.ref g_pgiven :: rest_pgiven))
    (lGpgiven : K.lookup g_pgiven = some ⟨ocGpgiven, odGpgiven, .func (PySem.W.fnOf "given" "Program.given" (defArgs s_Program_given) (defBody s_Program_given) (defScope s_Program_given) .none kVGpgiven dcGpgiven pmGpgiven anGpgiven cdGpgiven ctGpgiven), slGpgiven⟩)
    (cGpgiven : PySem.W.codeIn K cdGpgiven "Program.given" = true)
    (kGpgiven : PySem.W.keepIn K (.ref g_pgiven) = true)
    (paP_presults : PySem.W.findIn K (.ref CP) "results" = some (some (.ref p_presults)))
    (pg_presults : PySem.W.specialIn K (.ref p_presults) "__get__" = some (some (.builtin "property.__get__")))
    (pt_presults : PySem.W.takesIn K (.ref p_presults) = some true)
    (pr_presults : PySem.W.recIn K p_presults "property" = some (.ref g_presults :: rest_presults))
    (lGpresults : K.lookup g_presults = some ⟨ocGpresults, odGpresults, .func (PySem.W.fnOf "results" "Program.results" (defArgs s_Program_results) (defBody s_Program_results) (defScope s_Program_results) .none kVGpresults dcGpresults pmGpresults anGpresults cdGpresults ctGpresults), slGpresults⟩)
    (cGpresults : PySem.W.codeIn K cdGpresults "Program.results" = true)
    (kGpresults : PySem.W.keepIn K (.ref g_presults) = true)
    (paP_pnames : PySem.W.findIn K (.ref CP) "names" = some (some (.ref p_pnames)))
    (pg_pnames : PySem.W.specialIn K (.ref p_pnames) "__get__" = some (some (.builtin "property.__get__")))
    (pt_pnames : PySem.W.takesIn K (.ref p_pnames) = some true)
    (pr_pnames : PySem.W.recIn K p_pnames "property" = some (.ref g_pnames :: rest_pnames))
    (lGpnames : K.lookup g_pnames = some ⟨ocGpnames, odGpnames, .func (PySem.W.fnOf "names" "Program.names" (defArgs s_Program_names) (defBody s_Program_names) (defScope s_Program_names) .none kVGpnames dcGpnames pmGpnames anGpnames cdGpnames ctGpnames), slGpnames⟩)
    (cGpnames : PySem.W.codeIn K cdGpnames "Program.names" = true)
    (kGpnames : PySem.W.keepIn K (.ref g_pnames) = true)
    (aNM : PySem.W.findIn K (.ref CP) "need_made" = some (some (.ref fNM)))
    (lNM : K.lookup fNM = some ⟨ocNM, odNM, .func (PySem.W.fnOf "need_made" "Program.need_made" (defArgs s_Program_need_made) (defBody s_Program_need_made) (defScope s_Program_need_made) .none kVNM dcNM pmNM anNM cdNM ctNM), slNM⟩)
    (cNM : PySem.W.codeIn K cdNM "Program.need_made" = true)
    (kNM : PySem.W.keepIn K (.ref fNM) = true)
    (iNM : PySem.W.isFn K (.ref fNM) = true)
    (a_deeds_of_programs : PySem.W.nsIn K mainGlobals "deeds_of_programs" = some (some (.ref f_deeds_of_programs)))
    (l_deeds_of_programs : K.lookup f_deeds_of_programs = some ⟨oc_deeds_of_programs, od_deeds_of_programs, .func (PySem.W.fnOf "deeds_of" "deeds_of" (defArgs s_deeds_of) (defBody s_deeds_of) (defScope s_deeds_of) .none kV_deeds_of_programs dc_deeds_of_programs pm_deeds_of_programs an_deeds_of_programs cd_deeds_of_programs ct_deeds_of_programs), sl_deeds_of_programs⟩)
    (c_deeds_of_programs : PySem.W.codeIn K cd_deeds_of_programs "deeds_of" = true)
    (k_deeds_of_programs : PySem.W.keepIn K (.ref f_deeds_of_programs) = true)
    (a_deeds_of_needed : PySem.W.nsIn K mainGlobals "deeds_of_needed" = some (some (.ref f_deeds_of_needed)))
    (l_deeds_of_needed : K.lookup f_deeds_of_needed = some ⟨oc_deeds_of_needed, od_deeds_of_needed, .func (PySem.W.fnOf "deeds_of" "deeds_of" (defArgs s_deeds_of_2) (defBody s_deeds_of_2) (defScope s_deeds_of_2) .none kV_deeds_of_needed dc_deeds_of_needed pm_deeds_of_needed an_deeds_of_needed cd_deeds_of_needed ct_deeds_of_needed), sl_deeds_of_needed⟩)
    (c_deeds_of_needed : PySem.W.codeIn K cd_deeds_of_needed "deeds_of" = true)
    (k_deeds_of_needed : PySem.W.keepIn K (.ref f_deeds_of_needed) = true)
    (a_needed : PySem.W.nsIn K mainGlobals "needed" = some (some (.ref f_needed)))
    (l_needed : K.lookup f_needed = some ⟨oc_needed, od_needed, .func (PySem.W.fnOf "needed" "needed" (defArgs s_needed) (defBody s_needed) (defScope s_needed) .none (.ref DN) dc_needed pm_needed an_needed cd_needed ct_needed), sl_needed⟩)
    (c_needed : PySem.W.codeIn K cd_needed "needed" = true)
    (k_needed : PySem.W.keepIn K (.ref f_needed) = true)
    (kn0 : PySem.W.nsIn K DN "first" = some (some (.bool true)))
    (kn1 : PySem.W.nsIn K DN "further" = some (some (.bool true)))
    (kn2 : PySem.W.nsIn K DN "second" = some (some (.bool true)))
    (a_is_name : PySem.W.nsIn K mainGlobals "is_name" = some (some (.ref f_is_name)))
    (l_is_name : K.lookup f_is_name = some ⟨oc_is_name, od_is_name, .func (PySem.W.fnOf "is_name" "is_name" (defArgs s_is_name) (defBody s_is_name) (defScope s_is_name) .none kV_is_name dc_is_name pm_is_name an_is_name cd_is_name ct_is_name), sl_is_name⟩)
    (c_is_name : PySem.W.codeIn K cd_is_name "is_name" = true)
    (k_is_name : PySem.W.keepIn K (.ref f_is_name) = true)
    (a_ascending : PySem.W.nsIn K mainGlobals "ascending" = some (some (.ref f_ascending)))
    (l_ascending : K.lookup f_ascending = some ⟨oc_ascending, od_ascending, .func (PySem.W.fnOf "ascending" "ascending" (defArgs s_ascending) (defBody s_ascending) (defScope s_ascending) .none kV_ascending dc_ascending pm_ascending an_ascending cd_ascending ct_ascending), sl_ascending⟩)
    (c_ascending : PySem.W.codeIn K cd_ascending "ascending" = true)
    (k_ascending : PySem.W.keepIn K (.ref f_ascending) = true)
    (a_need_names : PySem.W.nsIn K mainGlobals "need_names" = some (some (.ref f_need_names)))
    (l_need_names : K.lookup f_need_names = some ⟨oc_need_names, od_need_names, .func (PySem.W.fnOf "need_names" "need_names" (defArgs s_need_names) (defBody s_need_names) (defScope s_need_names) .none kV_need_names dc_need_names pm_need_names an_need_names cd_need_names ct_need_names), sl_need_names⟩)
    (c_need_names : PySem.W.codeIn K cd_need_names "need_names" = true)
    (k_need_names : PySem.W.keepIn K (.ref f_need_names) = true)
    (a_need_used : PySem.W.nsIn K mainGlobals "need_used" = some (some (.ref f_need_used)))
    (l_need_used : K.lookup f_need_used = some ⟨oc_need_used, od_need_used, .func (PySem.W.fnOf "need_used" "need_used" (defArgs s_need_used) (defBody s_need_used) (defScope s_need_used) .none kV_need_used dc_need_used pm_need_used an_need_used cd_need_used ct_need_used), sl_need_used⟩)
    (c_need_used : PySem.W.codeIn K cd_need_used "need_used" = true)
    (k_need_used : PySem.W.keepIn K (.ref f_need_used) = true)
    (a_need_name : PySem.W.nsIn K mainGlobals "need_name" = some (some (.ref f_need_name)))
    (l_need_name : K.lookup f_need_name = some ⟨oc_need_name, od_need_name, .func (PySem.W.fnOf "need_name" "need_name" (defArgs s_need_name) (defBody s_need_name) (defScope s_need_name) .none kV_need_name dc_need_name pm_need_name an_need_name cd_need_name ct_need_name), sl_need_name⟩)
    (c_need_name : PySem.W.codeIn K cd_need_name "need_name" = true)
    (k_need_name : PySem.W.keepIn K (.ref f_need_name) = true)
    (a_is_integer : PySem.W.nsIn K mainGlobals "is_integer" = some (some (.ref f_is_integer)))
    (l_is_integer : K.lookup f_is_integer = some ⟨oc_is_integer, od_is_integer, .func (PySem.W.fnOf "is_integer" "is_integer" (defArgs s_is_integer) (defBody s_is_integer) (defScope s_is_integer) .none kV_is_integer dc_is_integer pm_is_integer an_is_integer cd_is_integer ct_is_integer), sl_is_integer⟩)
    (c_is_integer : PySem.W.codeIn K cd_is_integer "is_integer" = true)
    (k_is_integer : PySem.W.keepIn K (.ref f_is_integer) = true)
    (a_need_price : PySem.W.nsIn K mainGlobals "need_price" = some (some (.ref f_need_price)))
    (l_need_price : K.lookup f_need_price = some ⟨oc_need_price, od_need_price, .func (PySem.W.fnOf "need_price" "need_price" (defArgs s_need_price) (defBody s_need_price) (defScope s_need_price) .none kV_need_price dc_need_price pm_need_price an_need_price cd_need_price ct_need_price), sl_need_price⟩)
    (c_need_price : PySem.W.codeIn K cd_need_price "need_price" = true)
    (k_need_price : PySem.W.keepIn K (.ref f_need_price) = true)
    (a_need_shape : PySem.W.nsIn K mainGlobals "need_shape" = some (some (.ref f_need_shape)))
    (l_need_shape : K.lookup f_need_shape = some ⟨oc_need_shape, od_need_shape, .func (PySem.W.fnOf "need_shape" "need_shape" (defArgs s_need_shape) (defBody s_need_shape) (defScope s_need_shape) .none kV_need_shape dc_need_shape pm_need_shape an_need_shape cd_need_shape ct_need_shape), sl_need_shape⟩)
    (c_need_shape : PySem.W.codeIn K cd_need_shape "need_shape" = true)
    (k_need_shape : PySem.W.keepIn K (.ref f_need_shape) = true)
    (a_need_again : PySem.W.nsIn K mainGlobals "need_again" = some (some (.ref f_need_again)))
    (l_need_again : K.lookup f_need_again = some ⟨oc_need_again, od_need_again, .func (PySem.W.fnOf "need_again" "need_again" (defArgs s_need_again) (defBody s_need_again) (defScope s_need_again) .none kV_need_again dc_need_again pm_need_again an_need_again cd_need_again ct_need_again), sl_need_again⟩)
    (c_need_again : PySem.W.codeIn K cd_need_again "need_again" = true)
    (k_need_again : PySem.W.keepIn K (.ref f_need_again) = true)
    (a__law_pen : PySem.W.nsIn K mainGlobals "_law_pen" = some (some (.ref f__law_pen)))
    (l__law_pen : K.lookup f__law_pen = some ⟨oc__law_pen, od__law_pen, .func (PySem.W.fnOf "_law_pen" "_law_pen" (defArgs s__law_pen) (defBody s__law_pen) (defScope s__law_pen) .none kV__law_pen dc__law_pen pm__law_pen an__law_pen cd__law_pen ct__law_pen), sl__law_pen⟩)
    (c__law_pen : PySem.W.codeIn K cd__law_pen "_law_pen" = true)
    (k__law_pen : PySem.W.keepIn K (.ref f__law_pen) = true)
    (a__law_draw : PySem.W.nsIn K mainGlobals "_law_draw" = some (some (.ref f__law_draw)))
    (l__law_draw : K.lookup f__law_draw = some ⟨oc__law_draw, od__law_draw, .func (PySem.W.fnOf "_law_draw" "_law_draw" (defArgs s__law_draw) (defBody s__law_draw) (defScope s__law_draw) .none kV__law_draw dc__law_draw pm__law_draw an__law_draw cd__law_draw ct__law_draw), sl__law_draw⟩)
    (c__law_draw : PySem.W.codeIn K cd__law_draw "_law_draw" = true)
    (k__law_draw : PySem.W.keepIn K (.ref f__law_draw) = true)
    (a__law_pick : PySem.W.nsIn K mainGlobals "_law_pick" = some (some (.ref f__law_pick)))
    (l__law_pick : K.lookup f__law_pick = some ⟨oc__law_pick, od__law_pick, .func (PySem.W.fnOf "_law_pick" "_law_pick" (defArgs s__law_pick) (defBody s__law_pick) (defScope s__law_pick) .none kV__law_pick dc__law_pick pm__law_pick an__law_pick cd__law_pick ct__law_pick), sl__law_pick⟩)
    (c__law_pick : PySem.W.codeIn K cd__law_pick "_law_pick" = true)
    (k__law_pick : PySem.W.keepIn K (.ref f__law_pick) = true)
    (a__law_some : PySem.W.nsIn K mainGlobals "_law_some" = some (some (.ref f__law_some)))
    (l__law_some : K.lookup f__law_some = some ⟨oc__law_some, od__law_some, .func (PySem.W.fnOf "_law_some" "_law_some" (defArgs s__law_some) (defBody s__law_some) (defScope s__law_some) .none kV__law_some dc__law_some pm__law_some an__law_some cd__law_some ct__law_some), sl__law_some⟩)
    (c__law_some : PySem.W.codeIn K cd__law_some "_law_some" = true)
    (k__law_some : PySem.W.keepIn K (.ref f__law_some) = true)
    (a__law_names : PySem.W.nsIn K mainGlobals "_law_names" = some (some (.ref f__law_names)))
    (l__law_names : K.lookup f__law_names = some ⟨oc__law_names, od__law_names, .func (PySem.W.fnOf "_law_names" "_law_names" (defArgs s__law_names) (defBody s__law_names) (defScope s__law_names) .none kV__law_names dc__law_names pm__law_names an__law_names cd__law_names ct__law_names), sl__law_names⟩)
    (c__law_names : PySem.W.codeIn K cd__law_names "_law_names" = true)
    (k__law_names : PySem.W.keepIn K (.ref f__law_names) = true)
    (a__law_real_deed : PySem.W.nsIn K mainGlobals "_law_real_deed" = some (some (.ref f__law_real_deed)))
    (l__law_real_deed : K.lookup f__law_real_deed = some ⟨oc__law_real_deed, od__law_real_deed, .func (PySem.W.fnOf "_law_real_deed" "_law_real_deed" (defArgs s__law_real_deed) (defBody s__law_real_deed) (defScope s__law_real_deed) .none kV__law_real_deed dc__law_real_deed pm__law_real_deed an__law_real_deed cd__law_real_deed ct__law_real_deed), sl__law_real_deed⟩)
    (c__law_real_deed : PySem.W.codeIn K cd__law_real_deed "_law_real_deed" = true)
    (k__law_real_deed : PySem.W.keepIn K (.ref f__law_real_deed) = true)
    (a__law_order : PySem.W.nsIn K mainGlobals "_law_order" = some (some (.ref f__law_order)))
    (l__law_order : K.lookup f__law_order = some ⟨oc__law_order, od__law_order, .func (PySem.W.fnOf "_law_order" "_law_order" (defArgs s__law_order) (defBody s__law_order) (defScope s__law_order) .none kV__law_order dc__law_order pm__law_order an__law_order cd__law_order ct__law_order), sl__law_order⟩)
    (c__law_order : PySem.W.codeIn K cd__law_order "_law_order" = true)
    (k__law_order : PySem.W.keepIn K (.ref f__law_order) = true)
    (a__law_deeds : PySem.W.nsIn K mainGlobals "_law_deeds" = some (some (.ref f__law_deeds)))
    (l__law_deeds : K.lookup f__law_deeds = some ⟨oc__law_deeds, od__law_deeds, .func (PySem.W.fnOf "_law_deeds" "_law_deeds" (defArgs s__law_deeds) (defBody s__law_deeds) (defScope s__law_deeds) .none kV__law_deeds dc__law_deeds pm__law_deeds an__law_deeds cd__law_deeds ct__law_deeds), sl__law_deeds⟩)
    (c__law_deeds : PySem.W.codeIn K cd__law_deeds "_law_deeds" = true)
    (k__law_deeds : PySem.W.keepIn K (.ref f__law_deeds) = true)
    (a__law_site : PySem.W.nsIn K mainGlobals "_law_site" = some (some (.ref f__law_site)))
    (l__law_site : K.lookup f__law_site = some ⟨oc__law_site, od__law_site, .func (PySem.W.fnOf "_law_site" "_law_site" (defArgs s__law_site) (defBody s__law_site) (defScope s__law_site) .none kV__law_site dc__law_site pm__law_site an__law_site cd__law_site ct__law_site), sl__law_site⟩)
    (c__law_site : PySem.W.codeIn K cd__law_site "_law_site" = true)
    (k__law_site : PySem.W.keepIn K (.ref f__law_site) = true)
    (a__law_real_part : PySem.W.nsIn K mainGlobals "_law_real_part" = some (some (.ref f__law_real_part)))
    (l__law_real_part : K.lookup f__law_real_part = some ⟨oc__law_real_part, od__law_real_part, .func (PySem.W.fnOf "_law_real_part" "_law_real_part" (defArgs s__law_real_part) (defBody s__law_real_part) (defScope s__law_real_part) .none kV__law_real_part dc__law_real_part pm__law_real_part an__law_real_part cd__law_real_part ct__law_real_part), sl__law_real_part⟩)
    (c__law_real_part : PySem.W.codeIn K cd__law_real_part "_law_real_part" = true)
    (k__law_real_part : PySem.W.keepIn K (.ref f__law_real_part) = true)
    (a__law_real : PySem.W.nsIn K mainGlobals "_law_real" = some (some (.ref f__law_real)))
    (l__law_real : K.lookup f__law_real = some ⟨oc__law_real, od__law_real, .func (PySem.W.fnOf "_law_real" "_law_real" (defArgs s__law_real) (defBody s__law_real) (defScope s__law_real) .none kV__law_real dc__law_real pm__law_real an__law_real cd__law_real ct__law_real), sl__law_real⟩)
    (c__law_real : PySem.W.codeIn K cd__law_real "_law_real" = true)
    (k__law_real : PySem.W.keepIn K (.ref f__law_real) = true)
    (a_part_of : PySem.W.nsIn K mainGlobals "part_of" = some (some (.ref f_part_of)))
    (l_part_of : K.lookup f_part_of = some ⟨oc_part_of, od_part_of, .func (PySem.W.fnOf "part_of" "part_of" (defArgs s_part_of) (defBody s_part_of) (defScope s_part_of) .none kV_part_of dc_part_of pm_part_of an_part_of cd_part_of ct_part_of), sl_part_of⟩)
    (c_part_of : PySem.W.codeIn K cd_part_of "part_of" = true)
    (k_part_of : PySem.W.keepIn K (.ref f_part_of) = true)
    (a_is_place : PySem.W.nsIn K mainGlobals "is_place" = some (some (.ref f_is_place)))
    (l_is_place : K.lookup f_is_place = some ⟨oc_is_place, od_is_place, .func (PySem.W.fnOf "is_place" "is_place" (defArgs s_is_place) (defBody s_is_place) (defScope s_is_place) .none kV_is_place dc_is_place pm_is_place an_is_place cd_is_place ct_is_place), sl_is_place⟩)
    (c_is_place : PySem.W.codeIn K cd_is_place "is_place" = true)
    (k_is_place : PySem.W.keepIn K (.ref f_is_place) = true)
    (a_ahead_of : PySem.W.nsIn K mainGlobals "ahead_of" = some (some (.ref f_ahead_of)))
    (l_ahead_of : K.lookup f_ahead_of = some ⟨oc_ahead_of, od_ahead_of, .func (PySem.W.fnOf "ahead_of" "ahead_of" (defArgs s_ahead_of) (defBody s_ahead_of) (defScope s_ahead_of) .none kV_ahead_of dc_ahead_of pm_ahead_of an_ahead_of cd_ahead_of ct_ahead_of), sl_ahead_of⟩)
    (c_ahead_of : PySem.W.codeIn K cd_ahead_of "ahead_of" = true)
    (k_ahead_of : PySem.W.keepIn K (.ref f_ahead_of) = true)
    (a_names_back : PySem.W.nsIn K mainGlobals "names_back" = some (some (.ref f_names_back)))
    (l_names_back : K.lookup f_names_back = some ⟨oc_names_back, od_names_back, .func (PySem.W.fnOf "names_back" "names_back" (defArgs s_names_back) (defBody s_names_back) (defScope s_names_back) .none kV_names_back dc_names_back pm_names_back an_names_back cd_names_back ct_names_back), sl_names_back⟩)
    (c_names_back : PySem.W.codeIn K cd_names_back "names_back" = true)
    (k_names_back : PySem.W.keepIn K (.ref f_names_back) = true)
    (a_back_through : PySem.W.nsIn K mainGlobals "back_through" = some (some (.ref f_back_through)))
    (l_back_through : K.lookup f_back_through = some ⟨oc_back_through, od_back_through, .func (PySem.W.fnOf "back_through" "back_through" (defArgs s_back_through) (defBody s_back_through) (defScope s_back_through) .none kV_back_through dc_back_through pm_back_through an_back_through cd_back_through ct_back_through), sl_back_through⟩)
    (c_back_through : PySem.W.codeIn K cd_back_through "back_through" = true)
    (k_back_through : PySem.W.keepIn K (.ref f_back_through) = true)
    (a_behind_loop : PySem.W.nsIn K mainGlobals "behind_loop" = some (some (.ref f_behind_loop)))
    (l_behind_loop : K.lookup f_behind_loop = some ⟨oc_behind_loop, od_behind_loop, .func (PySem.W.fnOf "behind_loop" "behind_loop" (defArgs s_behind_loop) (defBody s_behind_loop) (defScope s_behind_loop) .none kV_behind_loop dc_behind_loop pm_behind_loop an_behind_loop cd_behind_loop ct_behind_loop), sl_behind_loop⟩)
    (c_behind_loop : PySem.W.codeIn K cd_behind_loop "behind_loop" = true)
    (k_behind_loop : PySem.W.keepIn K (.ref f_behind_loop) = true)
    (a_at_end : PySem.W.nsIn K mainGlobals "at_end" = some (some (.ref f_at_end)))
    (l_at_end : K.lookup f_at_end = some ⟨oc_at_end, od_at_end, .func (PySem.W.fnOf "at_end" "at_end" (defArgs s_at_end) (defBody s_at_end) (defScope s_at_end) .none kV_at_end dc_at_end pm_at_end an_at_end cd_at_end ct_at_end), sl_at_end⟩)
    (c_at_end : PySem.W.codeIn K cd_at_end "at_end" = true)
    (k_at_end : PySem.W.keepIn K (.ref f_at_end) = true)
    (a__law_is_wanted : PySem.W.nsIn K mainGlobals "_law_is_wanted" = some (some (.ref f__law_is_wanted)))
    (l__law_is_wanted : K.lookup f__law_is_wanted = some ⟨oc__law_is_wanted, od__law_is_wanted, .func (PySem.W.fnOf "_law_is_wanted" "_law_is_wanted" (defArgs s__law_is_wanted) (defBody s__law_is_wanted) (defScope s__law_is_wanted) .none kV__law_is_wanted dc__law_is_wanted pm__law_is_wanted an__law_is_wanted cd__law_is_wanted ct__law_is_wanted), sl__law_is_wanted⟩)
    (c__law_is_wanted : PySem.W.codeIn K cd__law_is_wanted "_law_is_wanted" = true)
    (k__law_is_wanted : PySem.W.keepIn K (.ref f__law_is_wanted) = true)
    (a__law_words_of : PySem.W.nsIn K mainGlobals "_law_words_of" = some (some (.ref f__law_words_of)))
    (l__law_words_of : K.lookup f__law_words_of = some ⟨oc__law_words_of, od__law_words_of, .func (PySem.W.fnOf "_law_words_of" "_law_words_of" (defArgs s__law_words_of) (defBody s__law_words_of) (defScope s__law_words_of) .none kV__law_words_of dc__law_words_of pm__law_words_of an__law_words_of cd__law_words_of ct__law_words_of), sl__law_words_of⟩)
    (c__law_words_of : PySem.W.codeIn K cd__law_words_of "_law_words_of" = true)
    (k__law_words_of : PySem.W.keepIn K (.ref f__law_words_of) = true)
    (a__law_wanted : PySem.W.nsIn K mainGlobals "_law_wanted" = some (some (.ref f__law_wanted)))
    (l__law_wanted : K.lookup f__law_wanted = some ⟨oc__law_wanted, od__law_wanted, .func (PySem.W.fnOf "_law_wanted" "_law_wanted" (defArgs s__law_wanted) (defBody s__law_wanted) (defScope s__law_wanted) .none kV__law_wanted dc__law_wanted pm__law_wanted an__law_wanted cd__law_wanted ct__law_wanted), sl__law_wanted⟩)
    (c__law_wanted : PySem.W.codeIn K cd__law_wanted "_law_wanted" = true)
    (k__law_wanted : PySem.W.keepIn K (.ref f__law_wanted) = true)
    (a__law_rest : PySem.W.nsIn K mainGlobals "_law_rest" = some (some (.ref f__law_rest)))
    (l__law_rest : K.lookup f__law_rest = some ⟨oc__law_rest, od__law_rest, .func (PySem.W.fnOf "_law_rest" "_law_rest" (defArgs s__law_rest) (defBody s__law_rest) (defScope s__law_rest) .none kV__law_rest dc__law_rest pm__law_rest an__law_rest cd__law_rest ct__law_rest), sl__law_rest⟩)
    (c__law_rest : PySem.W.codeIn K cd__law_rest "_law_rest" = true)
    (k__law_rest : PySem.W.keepIn K (.ref f__law_rest) = true)
    (a__law_ahead_right : PySem.W.nsIn K mainGlobals "_law_ahead_right" = some (some (.ref f__law_ahead_right)))
    (l__law_ahead_right : K.lookup f__law_ahead_right = some ⟨oc__law_ahead_right, od__law_ahead_right, .func (PySem.W.fnOf "_law_ahead_right" "_law_ahead_right" (defArgs s__law_ahead_right) (defBody s__law_ahead_right) (defScope s__law_ahead_right) .none kV__law_ahead_right dc__law_ahead_right pm__law_ahead_right an__law_ahead_right cd__law_ahead_right ct__law_ahead_right), sl__law_ahead_right⟩)
    (c__law_ahead_right : PySem.W.codeIn K cd__law_ahead_right "_law_ahead_right" = true)
    (k__law_ahead_right : PySem.W.keepIn K (.ref f__law_ahead_right) = true)
    (a__law_loop_right : PySem.W.nsIn K mainGlobals "_law_loop_right" = some (some (.ref f__law_loop_right)))
    (l__law_loop_right : K.lookup f__law_loop_right = some ⟨oc__law_loop_right, od__law_loop_right, .func (PySem.W.fnOf "_law_loop_right" "_law_loop_right" (defArgs s__law_loop_right) (defBody s__law_loop_right) (defScope s__law_loop_right) .none kV__law_loop_right dc__law_loop_right pm__law_loop_right an__law_loop_right cd__law_loop_right ct__law_loop_right), sl__law_loop_right⟩)
    (c__law_loop_right : PySem.W.codeIn K cd__law_loop_right "_law_loop_right" = true)
    (k__law_loop_right : PySem.W.keepIn K (.ref f__law_loop_right) = true)
    (a_law : PySem.W.nsIn K mainGlobals "law" = some (some (.ref f_law)))
    (l_law : K.lookup f_law = some ⟨oc_law, od_law, .func (PySem.W.fnOf "law" "law" (defArgs s_law) (defBody s_law) (defScope s_law) .none kV_law dc_law pm_law an_law cd_law ct_law), sl_law⟩)
    (c_law : PySem.W.codeIn K cd_law "law" = true)
    (k_law : PySem.W.keepIn K (.ref f_law) = true) :
    LawG l w K CX0 10 63 "_law_script" mg fa h := by
  have e := hfa.symm.trans (PySem.W.mg_of X G a_law)
  cases e
  subst eL
  subst ey0
  subst ey1
  subst ey2
  subst ey3
  subst ey4
  have CL_U : Cls K CU := ⟨pgU, hdU, poU, saU⟩
  have CL_M : Cls K CM := ⟨pgM, hdM, poM, saM⟩
  have CL_O : Cls K CO := ⟨pgO, hdO, poO, saO⟩
  have CL_P : Cls K CP := ⟨pgP, hdP, poP, saP⟩
  have pob : ∃ o, K.lookup tP = some o ∧ o.cls = .type "tuple" ∧ o.dict = none := ⟨_, lPT, rfl, rfl⟩
  have hparts : ∀ H, SqT K H tP (partsS.map V.str) := fun H => .inr ⟨_, _, _, lPT, rfl, rfl, by show 5 ≤ sizeLine; decide, .cons ⟨_, rfl⟩ (.cons ⟨_, rfl⟩ (.cons ⟨_, rfl⟩ (.cons ⟨_, rfl⟩ (.cons ⟨_, rfl⟩ .nil))))⟩
  have T : Tx K mg CE CD CU CM CO CP tP (fun x => if x = ("LETTERS" : Str) then tL else if x = ("LONGEST_NAME" : Str) then tN else if x = ("MOST_USED" : Str) then tI0 else if x = ("MOST_AHEAD" : Str) then tI1 else if x = ("MOST_DEEDS" : Str) then tI2 else if x = ("MOST_NAMES" : Str) then tI3 else tI4) := ⟨by
    intro x hx
    simp only [bns, List.mem_cons, List.not_mem_nil, or_false] at hx
    rcases hx with rfl | rfl | rfl | rfl | rfl | rfl | rfl | rfl | rfl | rfl | rfl | rfl | rfl | rfl | rfl | rfl | rfl | rfl | rfl | rfl
    · exact PySem.W.mg_none_of X G b0
    · exact PySem.W.mg_none_of X G b1
    · exact PySem.W.mg_none_of X G b2
    · exact PySem.W.mg_none_of X G b3
    · exact PySem.W.mg_none_of X G b4
    · exact PySem.W.mg_none_of X G b5
    · exact PySem.W.mg_none_of X G b6
    · exact PySem.W.mg_none_of X G b7
    · exact PySem.W.mg_none_of X G b8
    · exact PySem.W.mg_none_of X G b9
    · exact PySem.W.mg_none_of X G b10
    · exact PySem.W.mg_none_of X G b11
    · exact PySem.W.mg_none_of X G b12
    · exact PySem.W.mg_none_of X G b13
    · exact PySem.W.mg_none_of X G b14
    · exact PySem.W.mg_none_of X G b15
    · exact PySem.W.mg_none_of X G b16
    · exact PySem.W.mg_none_of X G b17
    · exact PySem.W.mg_none_of X G b18
    · exact PySem.W.mg_none_of X G b19, PySem.W.mg_of X G gL, PySem.W.mg_of X G gN, PySem.W.mg_of X G gI0, PySem.W.mg_of X G gI1, PySem.W.mg_of X G gI2, PySem.W.mg_of X G gI3, PySem.W.mg_of X G gI4, PySem.W.mg_of X G gPT, hparts, pob, PySem.W.mg_of X G gCE, PySem.W.mg_of X G gD_, PySem.W.mg_of X G gU_, PySem.W.mg_of X G gM_, PySem.W.mg_of X G gO_, PySem.W.mg_of X G gP_⟩
  have CD_U : ClD K CU := ⟨CL_U, nU_used_names, nU_made_names⟩
  have FIU := fun_mk (st := s_Use_init) lIU cIU kIU
  have CD_M : ClD K CM := ⟨CL_M, nM_used_names, nM_made_names⟩
  have FIM := fun_mk (st := s_Make_init) lIM cIM kIM
  have CD_O : ClD K CO := ⟨CL_O, nO_used_names, nO_made_names⟩
  have FIO := fun_mk (st := s_Do_init) lIO cIO kIO
  have TC : ∀ d, ClD K (clsD CU CM CO d) := fun d => match d with | (none, _) => CD_U | (some _, []) => CD_M | (some _, _ :: _) => CD_O
  have hC : ClP K CP := ⟨CL_P, nP_own_parts, nP_own_given, nP_own_again, nP_own_results⟩
  have FDI := fun_mk (st := s_Deed_init) lDI cDI kDI
  have BDI := FDI.binds (ps := ["self", "used", "made"]) fun _ _ _ _ _ _ us hl => match us, hl with | [_, _, _], _ => rfl
  have BIM := FIM.binds (ps := ["self", "name"]) fun _ _ _ _ _ _ us hl => match us, hl with | [_, _], _ => rfl
  have FIP : FPr K z1 z2 z3 z4 z5 fP_ _ := ⟨⟨_, _, _, _, _, _, _, _, _, _, rfl, lIP, cIP, .inr ⟨by simp, _, _, [.ref z1, .none, .ref z2, .none, .ref z3], _, rfl, lDT, rfl, .cons rfl (.cons rfl (.cons rfl (.cons rfl (.cons rfl .nil))))⟩, .inr ⟨DK, rfl, fun q hq => by
    simp only [List.mem_cons, List.not_mem_nil, or_false] at hq
    rcases hq with rfl | rfl | rfl
    · exact ⟨_, kw4, rfl⟩
    · exact ⟨_, kwA, rfl⟩
    · exact ⟨_, kw5, rfl⟩⟩⟩, kIP⟩
  have hz1 : ∀ H, SqT K H z1 [] := fun H => .inr ⟨_, _, _, lz1, rfl, rfl, by show 0 ≤ sizeLine; decide, .nil⟩
  have hz2 : ∀ H, SqT K H z2 [] := fun H => .inr ⟨_, _, _, lz2, rfl, rfl, by show 0 ≤ sizeLine; decide, .nil⟩
  have hz3 : ∀ H, SqT K H z3 [] := fun H => .inr ⟨_, _, _, lz3, rfl, rfl, by show 0 ≤ sizeLine; decide, .nil⟩
  have hz4 : ∀ H, SqT K H z4 [] := fun H => .inr ⟨_, _, _, lz4, rfl, rfl, by show 0 ≤ sizeLine; decide, .nil⟩
  have hz5 : ∀ H, SqT K H z5 [] := fun H => .inr ⟨_, _, _, lz5, rfl, rfl, by show 0 ≤ sizeLine; decide, .nil⟩
  have MP : Mk K CP fP_ := ⟨mkP, inP, fnP, kpP⟩
  have FNM := fun_mk (st := s_Program_need_made) lNM cNM kNM
  have BNM := FNM.binds (ps := ["self"]) fun _ _ _ _ _ _ us hl => match us, hl with | [_], _ => rfl
  have F_needed : FNe K f_needed _ := ⟨⟨_, _, _, _, _, _, _, _, _, _, rfl, l_needed, c_needed, .inl ⟨rfl, rfl⟩, .inr ⟨DN, rfl, fun q hq => by
    simp only [List.mem_cons, List.not_mem_nil, or_false] at hq
    rcases hq with rfl | rfl | rfl
    · exact ⟨_, kn0, rfl⟩
    · exact ⟨_, kn1, rfl⟩
    · exact ⟨_, kn2, rfl⟩⟩⟩, k_needed⟩
  have F_is_name := fun_mk (st := s_is_name) l_is_name c_is_name k_is_name
  have B_is_name := F_is_name.binds (ps := ["value"]) fun _ _ _ _ _ _ us hl => match us, hl with | [_], _ => rfl
  have F_ascending := fun_mk (st := s_ascending) l_ascending c_ascending k_ascending
  have B_ascending := F_ascending.binds (ps := ["names"]) fun _ _ _ _ _ _ us hl => match us, hl with | [_], _ => rfl
  have F_need_names := fun_mk (st := s_need_names) l_need_names c_need_names k_need_names
  have B_need_names := F_need_names.binds (ps := ["values"]) fun _ _ _ _ _ _ us hl => match us, hl with | [_], _ => rfl
  have F_need_used := fun_mk (st := s_need_used) l_need_used c_need_used k_need_used
  have B_need_used := F_need_used.binds (ps := ["names"]) fun _ _ _ _ _ _ us hl => match us, hl with | [_], _ => rfl
  have F_need_name := fun_mk (st := s_need_name) l_need_name c_need_name k_need_name
  have B_need_name := F_need_name.binds (ps := ["value"]) fun _ _ _ _ _ _ us hl => match us, hl with | [_], _ => rfl
  have F_is_integer := fun_mk (st := s_is_integer) l_is_integer c_is_integer k_is_integer
  have B_is_integer := F_is_integer.binds (ps := ["value"]) fun _ _ _ _ _ _ us hl => match us, hl with | [_], _ => rfl
  have F_need_price := fun_mk (st := s_need_price) l_need_price c_need_price k_need_price
  have B_need_price := F_need_price.binds (ps := ["value"]) fun _ _ _ _ _ _ us hl => match us, hl with | [_], _ => rfl
  have F_need_shape := fun_mk (st := s_need_shape) l_need_shape c_need_shape k_need_shape
  have B_need_shape := F_need_shape.binds (ps := ["parts"]) fun _ _ _ _ _ _ us hl => match us, hl with | [_], _ => rfl
  have F_need_again := fun_mk (st := s_need_again) l_need_again c_need_again k_need_again
  have B_need_again := F_need_again.binds (ps := ["prices"]) fun _ _ _ _ _ _ us hl => match us, hl with | [_], _ => rfl
  have F__law_pen := fun_mk (st := s__law_pen) l__law_pen c__law_pen k__law_pen
  have B__law_pen := F__law_pen.binds (ps := ["_law_script"]) fun _ _ _ _ _ _ us hl => match us, hl with | [_], _ => rfl
  have F__law_draw := fun_mk (st := s__law_draw) l__law_draw c__law_draw k__law_draw
  have B__law_draw := F__law_draw.binds (ps := ["_law_pen_here", "_law_many"]) fun _ _ _ _ _ _ us hl => match us, hl with | [_, _], _ => rfl
  have F__law_pick := fun_mk (st := s__law_pick) l__law_pick c__law_pick k__law_pick
  have B__law_pick := F__law_pick.binds (ps := ["_law_pen_here", "_law_some_here"]) fun _ _ _ _ _ _ us hl => match us, hl with | [_, _], _ => rfl
  have F__law_some := fun_mk (st := s__law_some) l__law_some c__law_some k__law_some
  have B__law_some := F__law_some.binds (ps := ["_law_pen_here", "_law_pool", "_law_least", "_law_most"]) fun _ _ _ _ _ _ us hl => match us, hl with | [_, _, _, _], _ => rfl
  have F__law_names := fun_mk (st := s__law_names) l__law_names c__law_names k__law_names
  have B__law_names := F__law_names.binds (ps := ["_law_pen_here", "_law_many"]) fun _ _ _ _ _ _ us hl => match us, hl with | [_, _], _ => rfl
  have F__law_real_deed := fun_mk (st := s__law_real_deed) l__law_real_deed c__law_real_deed k__law_real_deed
  have B__law_real_deed := F__law_real_deed.binds (ps := ["_law_made", "_law_used"]) fun _ _ _ _ _ _ us hl => match us, hl with | [_, _], _ => rfl
  have F__law_order := fun_mk (st := s__law_order) l__law_order c__law_order k__law_order
  have B__law_order := F__law_order.binds (ps := []) fun _ _ _ _ _ _ us hl => match us, hl with | [], _ => rfl
  have F__law_deeds := fun_mk (st := s__law_deeds) l__law_deeds c__law_deeds k__law_deeds
  have B__law_deeds := F__law_deeds.binds (ps := ["_law_pen_here", "_law_known", "_law_free", "_law_most"]) fun _ _ _ _ _ _ us hl => match us, hl with | [_, _, _, _], _ => rfl
  have F__law_site := fun_mk (st := s__law_site) l__law_site c__law_site k__law_site
  have B__law_site := F__law_site.binds (ps := ["_law_pen_here", "_law_loops", "_law_most"]) fun _ _ _ _ _ _ us hl => match us, hl with | [_, _, _], _ => rfl
  have F__law_real_part := fun_mk (st := s__law_real_part) l__law_real_part c__law_real_part k__law_real_part
  have B__law_real_part := F__law_real_part.binds (ps := ["_law_deeds_here"]) fun _ _ _ _ _ _ us hl => match us, hl with | [_], _ => rfl
  have F__law_real := fun_mk (st := s__law_real) l__law_real c__law_real k__law_real
  have B__law_real := F__law_real.binds (ps := ["_law_site_here"]) fun _ _ _ _ _ _ us hl => match us, hl with | [_], _ => rfl
  have F_part_of := fun_mk (st := s_part_of) l_part_of c_part_of k_part_of
  have B_part_of := F_part_of.binds (ps := ["program", "part"]) fun _ _ _ _ _ _ us hl => match us, hl with | [_, _], _ => rfl
  have F_is_place := fun_mk (st := s_is_place) l_is_place c_is_place k_is_place
  have B_is_place := F_is_place.binds (ps := ["program", "value"]) fun _ _ _ _ _ _ us hl => match us, hl with | [_, _], _ => rfl
  have F_ahead_of := fun_mk (st := s_ahead_of) l_ahead_of c_ahead_of k_ahead_of
  have B_ahead_of := F_ahead_of.binds (ps := ["deed", "names"]) fun _ _ _ _ _ _ us hl => match us, hl with | [_, _], _ => rfl
  have F_names_back := fun_mk (st := s_names_back) l_names_back c_names_back k_names_back
  have B_names_back := F_names_back.binds (ps := ["deeds", "names"]) fun _ _ _ _ _ _ us hl => match us, hl with | [_, _], _ => rfl
  have F_back_through := fun_mk (st := s_back_through) l_back_through c_back_through k_back_through
  have B_back_through := F_back_through.binds (ps := ["deeds", "names"]) fun _ _ _ _ _ _ us hl => match us, hl with | [_, _], _ => rfl
  have F_behind_loop := fun_mk (st := s_behind_loop) l_behind_loop c_behind_loop k_behind_loop
  have B_behind_loop := F_behind_loop.binds (ps := ["program", "part", "has_second"]) fun _ _ _ _ _ _ us hl => match us, hl with | [_, _, _], _ => rfl
  have F_at_end := fun_mk (st := s_at_end) l_at_end c_at_end k_at_end
  have B_at_end := F_at_end.binds (ps := ["program", "part", "has_first", "has_further", "has_second"]) fun _ _ _ _ _ _ us hl => match us, hl with | [_, _, _, _, _], _ => rfl
  have F__law_is_wanted := fun_mk (st := s__law_is_wanted) l__law_is_wanted c__law_is_wanted k__law_is_wanted
  have B__law_is_wanted := F__law_is_wanted.binds (ps := ["_law_deeds_here", "_law_results_so", "_law_word"]) fun _ _ _ _ _ _ us hl => match us, hl with | [_, _, _], _ => rfl
  have F__law_words_of := fun_mk (st := s__law_words_of) l__law_words_of c__law_words_of k__law_words_of
  have B__law_words_of := F__law_words_of.binds (ps := ["_law_site_here"]) fun _ _ _ _ _ _ us hl => match us, hl with | [_], _ => rfl
  have F__law_wanted := fun_mk (st := s__law_wanted) l__law_wanted c__law_wanted k__law_wanted
  have B__law_wanted := F__law_wanted.binds (ps := ["_law_site_here", "_law_deeds_here"]) fun _ _ _ _ _ _ us hl => match us, hl with | [_, _], _ => rfl
  have F__law_rest := fun_mk (st := s__law_rest) l__law_rest c__law_rest k__law_rest
  have B__law_rest := F__law_rest.binds (ps := ["_law_site_here", "_law_at", "_law_rounds_so"]) fun _ _ _ _ _ _ us hl => match us, hl with | [_, _, _], _ => rfl
  have F__law_ahead_right := fun_mk (st := s__law_ahead_right) l__law_ahead_right c__law_ahead_right k__law_ahead_right
  have B__law_ahead_right := F__law_ahead_right.binds (ps := ["_law_site_here", "_law_thing", "_law_rounds_so"]) fun _ _ _ _ _ _ us hl => match us, hl with | [_, _, _], _ => rfl
  have F__law_loop_right := fun_mk (st := s__law_loop_right) l__law_loop_right c__law_loop_right k__law_loop_right
  have B__law_loop_right := F__law_loop_right.binds (ps := ["_law_site_here", "_law_thing", "_law_rounds_so"]) fun _ _ _ _ _ _ us hl => match us, hl with | [_, _, _], _ => rfl
  have F_law := fun_mk (st := s_law) l_law c_law k_law
  refine ⟨_, [], spLaw K, ?_, ?_, ?_, fun s u => .of_eq (fd := PySem.W.fnOf "law" "law" (defArgs s_law) (defBody s_law) (defScope s_law) .none kV_law dc_law pm_law an_law cd_law ct_law) rfl, ?_, ?_⟩
  · intro p hp
    cases hp
  · intro p hp
    cases hp
  · intro p hp
    cases hp
  · intro H a ns hl _ hH hS
    exact ⟨a, ns, rfl, hS, hl, fun _ => rfl⟩
  intro base _ _ TBs hsys
  have raw : ∀ {CX : CXT} {k : Nat} {f : Addr} {fd : FuncData} {ps : List Str} {sp : Sp}, FnOk l.prog w K mg base CX k f fd ps sp → Binds K fd ps [] → FnR l.prog w K mg base CX k f sp := fun {CX k f fd ps sp} F b => (F.raw b .nil).imp fun vs H Q E h => by rw [List.append_nil]; exact h
  have FGduses := fun_mk (st := s_Deed_uses) lGduses cGduses kGduses
  have BGduses := FGduses.binds (ps := ["self"]) fun _ _ _ _ _ _ us hl => match us, hl with | [_], _ => rfl
  have FGdmakes := fun_mk (st := s_Deed_makes) lGdmakes cGdmakes kGdmakes
  have BGdmakes := FGdmakes.binds (ps := ["self"]) fun _ _ _ _ _ _ us hl => match us, hl with | [_], _ => rfl
  have FGdnames := fun_mk (st := s_Deed_names) lGdnames cGdnames kGdnames
  have BGdnames := FGdnames.binds (ps := ["self"]) fun _ _ _ _ _ _ us hl => match us, hl with | [_], _ => rfl
  have FGpahead := fun_mk (st := s_Program_ahead) lGpahead cGpahead kGpahead
  have BGpahead := FGpahead.binds (ps := ["self"]) fun _ _ _ _ _ _ us hl => match us, hl with | [_], _ => rfl
  have FGploop := fun_mk (st := s_Program_loop) lGploop cGploop kGploop
  have BGploop := FGploop.binds (ps := ["self"]) fun _ _ _ _ _ _ us hl => match us, hl with | [_], _ => rfl
  have FGpbetween := fun_mk (st := s_Program_between) lGpbetween cGpbetween kGpbetween
  have BGpbetween := FGpbetween.binds (ps := ["self"]) fun _ _ _ _ _ _ us hl => match us, hl with | [_], _ => rfl
  have FGpsecond := fun_mk (st := s_Program_second) lGpsecond cGpsecond kGpsecond
  have BGpsecond := FGpsecond.binds (ps := ["self"]) fun _ _ _ _ _ _ us hl => match us, hl with | [_], _ => rfl
  have FGpbehind := fun_mk (st := s_Program_behind) lGpbehind cGpbehind kGpbehind
  have BGpbehind := FGpbehind.binds (ps := ["self"]) fun _ _ _ _ _ _ us hl => match us, hl with | [_], _ => rfl
  have FGpgiven := fun_mk (st := s_Program_given) lGpgiven cGpgiven kGpgiven
  have BGpgiven := FGpgiven.binds (ps := ["self"]) fun _ _ _ _ _ _ us hl => match us, hl with | [_], _ => rfl
  have FGpresults := fun_mk (st := s_Program_results) lGpresults cGpresults kGpresults
  have BGpresults := FGpresults.binds (ps := ["self"]) fun _ _ _ _ _ _ us hl => match us, hl with | [_], _ => rfl
  have FGpnames := fun_mk (st := s_Program_names) lGpnames cGpnames kGpnames
  have BGpnames := FGpnames.binds (ps := ["self"]) fun _ _ _ _ _ _ us hl => match us, hl with | [_], _ => rfl
  have F_deeds_of_programs := fun_mk (st := s_deeds_of) l_deeds_of_programs c_deeds_of_programs k_deeds_of_programs
  have F_deeds_of_needed := fun_mk (st := s_deeds_of_2) l_deeds_of_needed c_deeds_of_needed k_deeds_of_needed
  have B_deeds_of_programs := F_deeds_of_programs.binds (ps := ["parts"]) fun _ _ _ _ _ _ us hl => match us, hl with | [_], _ => rfl
  have B_deeds_of_needed := F_deeds_of_needed.binds (ps := ["program"]) fun _ _ _ _ _ _ us hl => match us, hl with | [_], _ => rfl
  have c_is_name : Cal l.prog w K mg base CX0 1 "is_name" spName := ⟨_, PySem.W.mg_of X G a_is_name, k_is_name, raw (ok_name F_is_name T) B_is_name⟩
  have c_ascending : Cal l.prog w K mg base CX0 1 "ascending" (spAsc K) := ⟨_, PySem.W.mg_of X G a_ascending, k_ascending, raw (ok_asc F_ascending T) B_ascending⟩
  have c_need_names : Cal l.prog w K mg base CX0 3 "need_names" (spNN K) := ⟨_, PySem.W.mg_of X G a_need_names, k_need_names, raw (ok_nn F_need_names T c_is_name) B_need_names⟩
  have c_need_used : Cal l.prog w K mg base CX0 4 "need_used" (spNU K) := ⟨_, PySem.W.mg_of X G a_need_used, k_need_used, raw (ok_nu F_need_used T c_need_names) B_need_used⟩
  have c_need_name : Cal l.prog w K mg base CX0 3 "need_name" spN1 := ⟨_, PySem.W.mg_of X G a_need_name, k_need_name, raw (ok_n1 F_need_name T c_is_name) B_need_name⟩
  have c_Deed_init : Clf l.prog w K mg base CX0 1 CD "__init__" (spDI K) := ⟨mc, fDI, ⟨rdM, gaM⟩, atDI, kDI, raw (ok_DI FDI T) BDI⟩
  have c_Use : Mkc l.prog w K mg base CX0 5 CU "Use" (spUse CU) := ⟨fU_, T.m_Use, ⟨mkU, inU, fnU, kpU⟩, ok_Use_init FIU T CD_U c_need_used c_Deed_init⟩
  have c_Make : Mkc l.prog w K mg base CX0 5 CM "Make" (spMake CM) := ⟨fM_, T.m_Make, ⟨mkM, inM, fnM, kpM⟩, raw (ok_Make_init FIM T CD_M c_need_name c_Deed_init) BIM⟩
  have c_Do : Mkc l.prog w K mg base CX0 5 CO "Do" (spDo CO) := ⟨fO_, T.m_Do, ⟨mkO, inO, fnO, kpO⟩, ok_Do_init FIO T CD_O c_need_name c_need_used⟩
  have c_uses : Prp l.prog w K mg base CX0 1 (InC CU CM CO) "uses" (spUses (clsD CU CM CO)) := ⟨p_duses, g_duses, _, fun C h => by
    rcases h with rfl | rfl | rfl
    · exact ⟨CL_U, paU_duses, pg_duses, pt_duses, _, pr_duses⟩
    · exact ⟨CL_M, paM_duses, pg_duses, pt_duses, _, pr_duses⟩
    · exact ⟨CL_O, paO_duses, pg_duses, pt_duses, _, pr_duses⟩, ok_uses FGduses T TC, BGduses⟩
  have c_makes : Prp l.prog w K mg base CX0 1 (InC CU CM CO) "makes" (spMakes (clsD CU CM CO)) := ⟨p_dmakes, g_dmakes, _, fun C h => by
    rcases h with rfl | rfl | rfl
    · exact ⟨CL_U, paU_dmakes, pg_dmakes, pt_dmakes, _, pr_dmakes⟩
    · exact ⟨CL_M, paM_dmakes, pg_dmakes, pt_dmakes, _, pr_dmakes⟩
    · exact ⟨CL_O, paO_dmakes, pg_dmakes, pt_dmakes, _, pr_dmakes⟩, ok_makes FGdmakes T TC, BGdmakes⟩
  have c_dnames : Prp l.prog w K mg base CX0 2 (InC CU CM CO) "names" (spNames (clsD CU CM CO)) := ⟨p_dnames, g_dnames, _, fun C h => by
    rcases h with rfl | rfl | rfl
    · exact ⟨CL_U, paU_dnames, pg_dnames, pt_dnames, _, pr_dnames⟩
    · exact ⟨CL_M, paM_dnames, pg_dnames, pt_dnames, _, pr_dnames⟩
    · exact ⟨CL_O, paO_dnames, pg_dnames, pt_dnames, _, pr_dnames⟩, ok_names FGdnames T TC c_ascending, BGdnames⟩
  have c_is_integer : Cal l.prog w K mg base CX0 1 "is_integer" spInt := ⟨_, PySem.W.mg_of X G a_is_integer, k_is_integer, raw (ok_int F_is_integer T) B_is_integer⟩
  have c_need_price : Cal l.prog w K mg base CX0 3 "need_price" spPrice := ⟨_, PySem.W.mg_of X G a_need_price, k_need_price, raw (ok_price F_need_price T c_is_integer) B_need_price⟩
  have c_need_shape : Cal l.prog w K mg base CX0 1 "need_shape" (spShape K (clsD CU CM CO)) := ⟨_, PySem.W.mg_of X G a_need_shape, k_need_shape, raw (ok_shape F_need_shape T) B_need_shape⟩
  have c_deeds_of_programs : Cal l.prog w K mg base CX0 1 "deeds_of_programs" (spDeeds K (clsD CU CM CO)) := ⟨_, PySem.W.mg_of X G a_deeds_of_programs, k_deeds_of_programs, raw (ok_deeds F_deeds_of_programs T) B_deeds_of_programs⟩
  have c_need_again : Cal l.prog w K mg base CX0 4 "need_again" spAgain := ⟨_, PySem.W.mg_of X G a_need_again, k_need_again, raw (ok_again F_need_again T c_is_name c_need_price) B_need_again⟩
  have c_pahead : Prp l.prog w K mg base CX0 1 (· = CP) "ahead" (spPt K (clsD CU CM CO) CP fun p => some p.ah) := ⟨p_pahead, g_pahead, _, fun C h => by
    cases h
    exact ⟨CL_P, paP_pahead, pg_pahead, pt_pahead, _, pr_pahead⟩, ok_pahead FGpahead T hC, BGpahead⟩
  have c_ploop : Prp l.prog w K mg base CX0 1 (· = CP) "loop" (spPt K (clsD CU CM CO) CP fun p => p.lp) := ⟨p_ploop, g_ploop, _, fun C h => by
    cases h
    exact ⟨CL_P, paP_ploop, pg_ploop, pt_ploop, _, pr_ploop⟩, ok_ploop FGploop T hC, BGploop⟩
  have c_pbetween : Prp l.prog w K mg base CX0 1 (· = CP) "between" (spPt K (clsD CU CM CO) CP fun p => some p.bt) := ⟨p_pbetween, g_pbetween, _, fun C h => by
    cases h
    exact ⟨CL_P, paP_pbetween, pg_pbetween, pt_pbetween, _, pr_pbetween⟩, ok_pbetween FGpbetween T hC, BGpbetween⟩
  have c_psecond : Prp l.prog w K mg base CX0 1 (· = CP) "second" (spPt K (clsD CU CM CO) CP fun p => p.sd) := ⟨p_psecond, g_psecond, _, fun C h => by
    cases h
    exact ⟨CL_P, paP_psecond, pg_psecond, pt_psecond, _, pr_psecond⟩, ok_psecond FGpsecond T hC, BGpsecond⟩
  have c_pbehind : Prp l.prog w K mg base CX0 1 (· = CP) "behind" (spPt K (clsD CU CM CO) CP fun p => some p.bh) := ⟨p_pbehind, g_pbehind, _, fun C h => by
    cases h
    exact ⟨CL_P, paP_pbehind, pg_pbehind, pt_pbehind, _, pr_pbehind⟩, ok_pbehind FGpbehind T hC, BGpbehind⟩
  have c_pgiven : Prp l.prog w K mg base CX0 1 (· = CP) "given" (spGR K (clsD CU CM CO) CP fun p => p.gv) := ⟨p_pgiven, g_pgiven, _, fun C h => by
    cases h
    exact ⟨CL_P, paP_pgiven, pg_pgiven, pt_pgiven, _, pr_pgiven⟩, ok_pgiven FGpgiven T hC, BGpgiven⟩
  have c_presults : Prp l.prog w K mg base CX0 1 (· = CP) "results" (spGR K (clsD CU CM CO) CP fun p => p.rs) := ⟨p_presults, g_presults, _, fun C h => by
    cases h
    exact ⟨CL_P, paP_presults, pg_presults, pt_presults, _, pr_presults⟩, ok_presults FGpresults T hC, BGpresults⟩
  have c_pnames : Prp l.prog w K mg base CX0 4 (· = CP) "names" (spPN K (clsD CU CM CO) CP) := ⟨p_pnames, g_pnames, _, fun C h => by
    cases h
    exact ⟨CL_P, paP_pnames, pg_pnames, pt_pnames, _, pr_pnames⟩, ok_pnames FGpnames T hC c_ascending c_deeds_of_programs c_dnames, BGpnames⟩
  have o_need_made : OwnM l.prog w K mg base CX0 3 CP "need_made" (spMade K (clsD CU CM CO) CP) := ⟨fNM, CL_P, ⟨aNM, iNM, kNM⟩, raw (ok_made FNM T hC c_uses c_makes) BNM⟩
  have good := ok_init (P := l.prog) (w := w) (base := base) FIP T hC c_need_shape c_ascending c_need_names c_need_again c_pnames o_need_made
  have c_part_of : Cal l.prog w K mg base CX0 1 "part_of" (spPO K (clsD CU CM CO) CP) := ⟨_, PySem.W.mg_of X G a_part_of, k_part_of, raw (ok_part_of F_part_of T hC) B_part_of⟩
  have c_is_place : Cal l.prog w K mg base CX0 3 "is_place" (spIP K (clsD CU CM CO) CP) := ⟨_, PySem.W.mg_of X G a_is_place, k_is_place, raw (ok_is_place F_is_place T c_part_of c_is_integer) B_is_place⟩
  have c_ahead_of : Cal l.prog w K mg base CX0 3 "ahead_of" (spAhd K (clsD CU CM CO)) := ⟨_, PySem.W.mg_of X G a_ahead_of, k_ahead_of, raw (ok_ahd F_ahead_of T c_uses c_makes) B_ahead_of⟩
  have c_names_back : Cal l.prog w K mg base CX0 4 "names_back" (spNB K (clsD CU CM CO)) := ⟨_, PySem.W.mg_of X G a_names_back, k_names_back, raw (ok_nb F_names_back T c_ahead_of) B_names_back⟩
  have c_back_through : Cal l.prog w K mg base CX0 5 "back_through" (spBT K (clsD CU CM CO)) := ⟨_, PySem.W.mg_of X G a_back_through, k_back_through, raw (ok_bt F_back_through T c_names_back) B_back_through⟩
  have c_behind_loop : Cal l.prog w K mg base CX0 6 "behind_loop" (spBL K (clsD CU CM CO) CP) := ⟨_, PySem.W.mg_of X G a_behind_loop, k_behind_loop, raw (ok_bl F_behind_loop T c_back_through c_pbehind c_presults c_psecond c_pbetween) B_behind_loop⟩
  have c_at_end : Cal l.prog w K mg base CX0 7 "at_end" (spAE K (clsD CU CM CO) CP) := ⟨_, PySem.W.mg_of X G a_at_end, k_at_end, raw (ok_ae F_at_end T c_back_through c_behind_loop c_presults c_psecond c_ploop) B_at_end⟩
  have c_deeds_of_needed : Cal l.prog w K mg base CX0 3 "deeds_of_needed" (spD2 K (clsD CU CM CO) CP) := ⟨_, PySem.W.mg_of X G a_deeds_of_needed, k_deeds_of_needed, raw (ok_d2 F_deeds_of_needed T c_pahead c_ploop c_pbetween c_psecond c_pbehind) B_deeds_of_needed⟩
  have gne := ok_needed (P := l.prog) (w := w) (base := base) F_needed T c_is_place c_deeds_of_needed c_back_through c_at_end
  obtain ⟨dsn, vn, bn_⟩ := ne_all F_needed
  have c_needed_ : Cal l.prog w K mg base CX0 8 "needed" (spNeD K (clsD CU CM CO) CP) := ⟨_, PySem.W.mg_of X G a_needed, k_needed, (gne.raw bn_ vn).imp fun _ _ _ _ h => h⟩
  have c__law_pen : Cal l.prog w K mg base CX0 1 "_law_pen" (spPen K) := ⟨_, PySem.W.mg_of X G a__law_pen, k__law_pen, raw (ok_pen F__law_pen T) B__law_pen⟩
  have c__law_draw : Cal l.prog w K mg base CX0 1 "_law_draw" spDraw := ⟨_, PySem.W.mg_of X G a__law_draw, k__law_draw, raw (ok_draw F__law_draw T) B__law_draw⟩
  have c__law_pick : Cal l.prog w K mg base CX0 2 "_law_pick" (spPick K) := ⟨_, PySem.W.mg_of X G a__law_pick, k__law_pick, raw (ok_pick F__law_pick T c__law_draw) B__law_pick⟩
  have c__law_some : Cal l.prog w K mg base CX0 2 "_law_some" spSome := ⟨_, PySem.W.mg_of X G a__law_some, k__law_some, raw (ok_some F__law_some T c__law_draw) B__law_some⟩
  have c__law_names : Cal l.prog w K mg base CX0 3 "_law_names" spLNames := ⟨_, PySem.W.mg_of X G a__law_names, k__law_names, raw (ok_lnames F__law_names T c__law_pick c__law_some) B__law_names⟩
  have c__law_real_deed : Cal l.prog w K mg base CX0 7 "_law_real_deed" (spReal (clsD CU CM CO)) := ⟨_, PySem.W.mg_of X G a__law_real_deed, k__law_real_deed, raw (ok_real F__law_real_deed T c_Use c_Make c_Do) B__law_real_deed⟩
  have c__law_order : Cal l.prog w K mg base CX0 1 "_law_order" spOrd := ⟨_, PySem.W.mg_of X G a__law_order, k__law_order, raw (ok_order F__law_order T) B__law_order⟩
  have c__law_deeds : Cal l.prog w K mg base CX0 4 "_law_deeds" spLDeeds := ⟨_, PySem.W.mg_of X G a__law_deeds, k__law_deeds, raw (ok_ldeeds F__law_deeds T c__law_draw c__law_pick c__law_some) B__law_deeds⟩
  have c__law_site : Cal l.prog w K mg base CX0 5 "_law_site" spSite := ⟨_, PySem.W.mg_of X G a__law_site, k__law_site, raw (ok_site F__law_site T c__law_draw c__law_names c__law_deeds) B__law_site⟩
  have c__law_real_part : Cal l.prog w K mg base CX0 8 "_law_real_part" (spRP K (clsD CU CM CO)) := ⟨_, PySem.W.mg_of X G a__law_real_part, k__law_real_part, raw (ok_rpart F__law_real_part T c__law_real_deed) B__law_real_part⟩
  obtain ⟨ggar, hgar⟩ := pr_gar FIP
  have c_gar : MkcN l.prog w K mg base CX0 6 CP "Program" 5 ["given", "again", "results"] (fun vs zs => vs ++ zs) (spProg K (clsD CU CM CO) CP) := ⟨fP_, _, _, _, T.m_Program, MP, good, hgar⟩
  have c__law_real : Cal l.prog w K mg base CX0 9 "_law_real" (spRl K (clsD CU CM CO) CP) := ⟨_, PySem.W.mg_of X G a__law_real, k__law_real, raw (ok_rl F__law_real T c__law_real_part c__law_order c_gar) B__law_real⟩
  have c__law_is_wanted : Cal l.prog w K mg base CX0 1 "_law_is_wanted" spIW := ⟨_, PySem.W.mg_of X G a__law_is_wanted, k__law_is_wanted, raw (ok_iw F__law_is_wanted T) B__law_is_wanted⟩
  have c__law_words_of : Cal l.prog w K mg base CX0 2 "_law_words_of" spWO := ⟨_, PySem.W.mg_of X G a__law_words_of, k__law_words_of, raw (ok_wo F__law_words_of T c__law_order) B__law_words_of⟩
  have c__law_wanted : Cal l.prog w K mg base CX0 3 "_law_wanted" spLW := ⟨_, PySem.W.mg_of X G a__law_wanted, k__law_wanted, raw (ok_lw F__law_wanted T c__law_words_of c__law_is_wanted) B__law_wanted⟩
  obtain ⟨gfi, hfi⟩ := ne_fi F_needed
  obtain ⟨gfu, hfu⟩ := ne_fu F_needed
  obtain ⟨gff, hff⟩ := ne_ffs F_needed
  have c_needed_first : CalN l.prog w K mg base CX0 8 "needed" 2 ["first"] gFi (spNe K (clsD CU CM CO) CP) := ⟨f_needed, _, _, _, PySem.W.mg_of X G a_needed, k_needed, gne, hfi⟩
  have c_needed_further : CalN l.prog w K mg base CX0 8 "needed" 2 ["further"] gFu (spNe K (clsD CU CM CO) CP) := ⟨f_needed, _, _, _, PySem.W.mg_of X G a_needed, k_needed, gne, hfu⟩
  have c_needed_ffs : CalN l.prog w K mg base CX0 8 "needed" 2 ["further", "first", "second"] gFFS (spNe K (clsD CU CM CO) CP) := ⟨f_needed, _, _, _, PySem.W.mg_of X G a_needed, k_needed, gne, hff⟩
  have c__law_rest : Cal l.prog w K mg base CX0 1 "_law_rest" (spRest K (clsD CU CM CO) CP) := ⟨_, PySem.W.mg_of X G a__law_rest, k__law_rest, raw (ok_rest F__law_rest T) B__law_rest⟩
  have c__law_ahead_right : CalG l.prog w K mg base CX0 9 "_law_ahead_right" (spRt K (clsD CU CM CO) CP) := ⟨_, _, _, PySem.W.mg_of X G a__law_ahead_right, k__law_ahead_right, B__law_ahead_right, ok_ar F__law_ahead_right T hsys c_needed_ c_needed_first c__law_wanted⟩
  have c__law_loop_right : CalG l.prog w K mg base CX0 9 "_law_loop_right" (spRt K (clsD CU CM CO) CP) := ⟨_, _, _, PySem.W.mg_of X G a__law_loop_right, k__law_loop_right, B__law_loop_right, ok_lr F__law_loop_right T hsys c_needed_ c_needed_further c_needed_ffs c__law_wanted c__law_rest⟩
  exact ok_law F_law T hsys c_needed_ c_needed_further c__law_pen c__law_draw c__law_site c__law_real c__law_wanted c__law_ahead_right c__law_loop_right
theorem walk {l : PySem.W.OpenLaw} {q : Program} {loose : List Str} {XP : (Str → Option Value) → Heap → Prop} {YP : World → Heap → Prop} {d : DefRec} {K : Params → PySem.W.Frag} (hn : l.most = some 63) (hdf : d.params.defaults = []) (him : importsNone q = true)
    (hY : ∀ (w : World) (h : Heap), YP w h → (K w.params).In h)
    (F : ∀ (w : World) (mg : Str → Option Value) (fa : Addr) (h : Heap), (K w.params).In h → h.Ns mainGlobals mg → mg d.name = some (.ref fa) → (∀ (x : Str) (fx : Addr), ((recsOf q).any fun e => e.name == x) = true → mg x = some (.ref fx) → LamX.OwnTab (K w.params) fx h) → LawG l w (K w.params) CX0 10 63 "_law_script" mg fa h) :
    PySem.W.WalkO q loose XP YP l.row.toRowW d [] (fun f vs => PySem.call f vs) :=
  walk_G (n := 63) (k := 10) (x := "_law_script") (CX := fun _ => CX0) hn (by decide) hdf ⟨rfl, by decide, by decide⟩ him hY (fun w mg fa h _ => F w mg fa h) fun _ _ _ _ _ z => z
end K33
end
section
set_option Elab.async false
set_option linter.all false
set_option maxRecDepth 100000
set_option maxHeartbeats 8000000
namespace HeadH
open PySem PySem.W PySem.Calls PyProof.Rows
def nms0 : List PySem.Str := ["_wall", "StowError", "BadName", "BadDeed", "BadNumber", "BadPrice", "BadPlace", "BadPart", "Twice", "TooMany", "Unmade", "MadeAgain", "NoLoop", "TwoLoops", "BadText", "LETTERS", "LONGEST_NAME", "MOST_USED", "is_integer", "is_name", "need_names", "ascending", "need_used", "need_name", "Deed", "Use", "Make", "Do", "is_deed_row", "DIGITS"]
def nms1 : List PySem.Str := ["lines_of", "need_words", "read_deed", "read_names", "ProgramReader", "parsed_program", "show_program", "PARTS", "MOST_AHEAD", "MOST_DEEDS", "MOST_NAMES", "MOST_PRICE", "need_price", "need_shape", "need_again", "deeds_of", "deeds_of_programs", "Program", "repeated", "part_of", "is_place", "ahead_of", "names_back", "back_through", "behind_loop", "at_end", "deeds_of_needed", "needed", "_law_pen", "_law_draw"]
def nms2 : List PySem.Str := ["_law_pick", "_law_some", "_law_names", "_law_real_deed", "_law_order", "_law_deeds", "_law_site", "_law_real_part", "_law_real", "_law_is_wanted", "_law_words_of", "_law_wanted", "_law_rest", "_law_ahead_right", "_law_loop_right"]
def nms : List PySem.Str := nms0 ++ nms1 ++ nms2
end HeadH
open PySem PySem.W PySem.Calls PyProof.Rows
local macro_rules
  | `(tactic| o_head $H) => do
    let a := H.raw[1][1]
    let as : Lean.TSyntax `term := ⟨a[1]⟩
    let ob ← `(fun s => List.map (HandSHeadRun.getT s) $as)
    let (ho, run, hw, hc) := (Lean.mkIdent `ho, Lean.mkIdent `run, Lean.mkIdent `hw, Lean.mkIdent `hc)
    `(tactic| refine HandSHeadRun.head_any (r := OpenLaw.row PySem.Challenge.rw_loopstow_k33_needed_in_loops) (q := view (OpenLaw.row PySem.Challenge.rw_loopstow_k33_needed_in_loops).prog [83]) (H := $H) (ob := $ob) (M := 12000) (loose := HeadH.nms) (d := HandSHeadRun.topDef (OpenLaw.row PySem.Challenge.rw_loopstow_k33_needed_in_loops).prog 83) (kwd := []) ?$ho (by kernel_rfl) (fun s => by kernel_rfl) ?$run (by kernel_rfl) (by kernel_rfl) (by kernel_rfl) (by rfl) (by first | assumption | decide +kernel) (by decide +kernel) ⟨rfl, rfl, rfl, rfl, rfl, by decide +kernel⟩ ?$hw ?$hc)
set_option maxRecDepth 100000 in
set_option maxHeartbeats 0 in
theorem PySem.Challenge.cw_loopstow_k33_needed_in_loops_holds : PySem.Challenge.rw_loopstow_k33_needed_in_loops.Holds := by
  w_on; o_law; k_head; (case ho => intro s; exact congrArg (fun f => List.map f _) (funext fun a => HandSHeadRun.getT_eq s a)); (case run => intro w os; kernel_rfl); (case hw => w_witness2)
  k_fill
  refine K33.walk (l := PySem.Challenge.rw_loopstow_k33_needed_in_loops) rfl rfl (by decide +kernel) (fun w h Y => PySem.W.kIn_of Y) ?F
  case F =>
    intro w mg fa h KX G hmg ow
    refine' K33.all_mk KX G hmg ow ?b0 ?b1 ?b2 ?b3 ?b4 ?b5 ?b6 ?b7 ?b8 ?b9 ?b10 ?b11 ?b12 ?b13 ?b14 ?b15 ?b16 ?b17 ?b18 ?b19 ?gL ?eL ?gN ?gI0 ?gI1 ?gI2 ?gI3 ?gI4 ?gPT ?lPT ?ey0 ?ey1 ?ey2 ?ey3 ?ey4 ?gCE ?gD_ ?tyM ?rdM ?gaM ?atDI ?lDI ?cDI ?kDI ?gU_ ?pgU ?hdU ?poU ?saU ?nU_used_names ?nU_made_names ?haU ?hmU ?mkU ?inU ?fnU ?kpU ?lIU ?cIU ?kIU ?gM_ ?pgM ?hdM ?poM ?saM ?nM_used_names ?nM_made_names ?haM ?hmM ?mkM ?inM ?fnM ?kpM ?lIM ?cIM ?kIM ?gO_ ?pgO ?hdO ?poO ?saO ?nO_used_names ?nO_made_names ?haO ?hmO ?mkO ?inO ?fnO ?kpO ?lIO ?cIO ?kIO ?paU_duses ?paM_duses ?paO_duses ?pg_duses ?pt_duses ?pr_duses ?lGduses ?cGduses ?kGduses ?paU_dmakes ?paM_dmakes ?paO_dmakes ?pg_dmakes ?pt_dmakes ?pr_dmakes ?lGdmakes ?cGdmakes ?kGdmakes ?paU_dnames ?paM_dnames ?paO_dnames ?pg_dnames ?pt_dnames ?pr_dnames ?lGdnames ?cGdnames ?kGdnames ?gP_ ?pgP ?hdP ?poP ?saP ?nP_own_parts ?nP_own_given ?nP_own_again ?nP_own_results ?haP ?hmP ?mkP ?inP ?fnP ?kpP ?lIP ?cIP ?kIP ?lDT ?kw4 ?kwA ?kw5 ?lz1 ?lz2 ?lz3 ?lz4 ?lz5 ?paP_pahead ?pg_pahead ?pt_pahead ?pr_pahead ?lGpahead ?cGpahead ?kGpahead ?paP_ploop ?pg_ploop ?pt_ploop ?pr_ploop ?lGploop ?cGploop ?kGploop ?paP_pbetween ?pg_pbetween ?pt_pbetween ?pr_pbetween ?lGpbetween ?cGpbetween ?kGpbetween ?paP_psecond ?pg_psecond ?pt_psecond ?pr_psecond ?lGpsecond ?cGpsecond ?kGpsecond ?paP_pbehind ?pg_pbehind ?pt_pbehind ?pr_pbehind ?lGpbehind ?cGpbehind ?kGpbehind ?paP_pgiven ?pg_pgiven ?pt_pgiven ?pr_pgiven ?lGpgiven ?cGpgiven ?kGpgiven ?paP_presults ?pg_presults ?pt_presults ?pr_presults ?lGpresults ?cGpresults ?kGpresults ?paP_pnames ?pg_pnames ?pt_pnames ?pr_pnames ?lGpnames ?cGpnames ?kGpnames ?aNM ?lNM ?cNM ?kNM ?iNM ?a_deeds_of_programs ?l_deeds_of_programs ?c_deeds_of_programs ?k_deeds_of_programs ?a_deeds_of_needed ?l_deeds_of_needed ?c_deeds_of_needed ?k_deeds_of_needed ?a_needed ?l_needed ?c_needed ?k_needed ?kn0 ?kn1 ?kn2 ?a_is_name ?l_is_name ?c_is_name ?k_is_name ?a_ascending ?l_ascending ?c_ascending ?k_ascending ?a_need_names ?l_need_names ?c_need_names ?k_need_names ?a_need_used ?l_need_used ?c_need_used ?k_need_used ?a_need_name ?l_need_name ?c_need_name ?k_need_name ?a_is_integer ?l_is_integer ?c_is_integer ?k_is_integer ?a_need_price ?l_need_price ?c_need_price ?k_need_price ?a_need_shape ?l_need_shape ?c_need_shape ?k_need_shape ?a_need_again ?l_need_again ?c_need_again ?k_need_again ?a__law_pen ?l__law_pen ?c__law_pen ?k__law_pen ?a__law_draw ?l__law_draw ?c__law_draw ?k__law_draw ?a__law_pick ?l__law_pick ?c__law_pick ?k__law_pick ?a__law_some ?l__law_some ?c__law_some ?k__law_some ?a__law_names ?l__law_names ?c__law_names ?k__law_names ?a__law_real_deed ?l__law_real_deed ?c__law_real_deed ?k__law_real_deed ?a__law_order ?l__law_order ?c__law_order ?k__law_order ?a__law_deeds ?l__law_deeds ?c__law_deeds ?k__law_deeds ?a__law_site ?l__law_site ?c__law_site ?k__law_site ?a__law_real_part ?l__law_real_part ?c__law_real_part ?k__law_real_part ?a__law_real ?l__law_real ?c__law_real ?k__law_real ?a_part_of ?l_part_of ?c_part_of ?k_part_of ?a_is_place ?l_is_place ?c_is_place ?k_is_place ?a_ahead_of ?l_ahead_of ?c_ahead_of ?k_ahead_of ?a_names_back ?l_names_back ?c_names_back ?k_names_back ?a_back_through ?l_back_through ?c_back_through ?k_back_through ?a_behind_loop ?l_behind_loop ?c_behind_loop ?k_behind_loop ?a_at_end ?l_at_end ?c_at_end ?k_at_end ?a__law_is_wanted ?l__law_is_wanted ?c__law_is_wanted ?k__law_is_wanted ?a__law_words_of ?l__law_words_of ?c__law_words_of ?k__law_words_of ?a__law_wanted ?l__law_wanted ?c__law_wanted ?k__law_wanted ?a__law_rest ?l__law_rest ?c__law_rest ?k__law_rest ?a__law_ahead_right ?l__law_ahead_right ?c__law_ahead_right ?k__law_ahead_right ?a__law_loop_right ?l__law_loop_right ?c__law_loop_right ?k__law_loop_right ?a_law ?l_law ?c_law ?k_law
    (case b0 => k_is)
    (case b1 => k_is)
    (case b2 => k_is)
    (case b3 => k_is)
    (case b4 => k_is)
    (case b5 => k_is)
    (case b6 => k_is)
    (case b7 => k_is)
    (case b8 => k_is)
    (case b9 => k_is)
    (case b10 => k_is)
    (case b11 => k_is)
    (case b12 => k_is)
    (case b13 => k_is)
    (case b14 => k_is)
    (case b15 => k_is)
    (case b16 => k_is)
    (case b17 => k_is)
    (case b18 => k_is)
    (case b19 => k_is)
    (case gL => k_is)
    (case eL => decide +kernel)
    (case gN => k_is)
    (case gI0 => k_is)
    (case gI1 => k_is)
    (case gI2 => k_is)
    (case gI3 => k_is)
    (case gI4 => k_is)
    (case gPT => k_is)
    (case lPT => k_is)
    (case ey0 => decide +kernel)
    (case ey1 => decide +kernel)
    (case ey2 => decide +kernel)
    (case ey3 => decide +kernel)
    (case ey4 => decide +kernel)
    (case gCE => k_is)
    (case gD_ => k_is)
    (case tyM => k_is)
    (case rdM => k_is)
    (case gaM => k_is)
    (case atDI => k_is)
    (case lDI => k_is)
    (case cDI => k_is)
    (case kDI => k_is)
    (case gU_ => k_is)
    (case pgU => k_is)
    (case hdU => k_is)
    (case poU => k_is)
    (case saU => k_is)
    (case nU_used_names => k_is)
    (case nU_made_names => k_is)
    (case haU => k_is)
    (case hmU => k_is)
    (case mkU => k_is)
    (case inU => k_is)
    (case fnU => k_is)
    (case kpU => k_is)
    (case lIU => k_is)
    (case cIU => k_is)
    (case kIU => k_is)
    (case gM_ => k_is)
    (case pgM => k_is)
    (case hdM => k_is)
    (case poM => k_is)
    (case saM => k_is)
    (case nM_used_names => k_is)
    (case nM_made_names => k_is)
    (case haM => k_is)
    (case hmM => k_is)
    (case mkM => k_is)
    (case inM => k_is)
    (case fnM => k_is)
    (case kpM => k_is)
    (case lIM => k_is)
    (case cIM => k_is)
    (case kIM => k_is)
    (case gO_ => k_is)
    (case pgO => k_is)
    (case hdO => k_is)
    (case poO => k_is)
    (case saO => k_is)
    (case nO_used_names => k_is)
    (case nO_made_names => k_is)
    (case haO => k_is)
    (case hmO => k_is)
    (case mkO => k_is)
    (case inO => k_is)
    (case fnO => k_is)
    (case kpO => k_is)
    (case lIO => k_is)
    (case cIO => k_is)
    (case kIO => k_is)
    (case paU_duses => k_is)
    (case paM_duses => k_is)
    (case paO_duses => k_is)
    (case pg_duses => k_is)
    (case pt_duses => k_is)
    (case pr_duses => k_is)
    (case lGduses => k_is)
    (case cGduses => k_is)
    (case kGduses => k_is)
    (case paU_dmakes => k_is)
    (case paM_dmakes => k_is)
    (case paO_dmakes => k_is)
    (case pg_dmakes => k_is)
    (case pt_dmakes => k_is)
    (case pr_dmakes => k_is)
    (case lGdmakes => k_is)
    (case cGdmakes => k_is)
    (case kGdmakes => k_is)
    (case paU_dnames => k_is)
    (case paM_dnames => k_is)
    (case paO_dnames => k_is)
    (case pg_dnames => k_is)
    (case pt_dnames => k_is)
    (case pr_dnames => k_is)
    (case lGdnames => k_is)
    (case cGdnames => k_is)
    (case kGdnames => k_is)
    (case gP_ => k_is)
    (case pgP => k_is)
    (case hdP => k_is)
    (case poP => k_is)
    (case saP => k_is)
    (case nP_own_parts => k_is)
    (case nP_own_given => k_is)
    (case nP_own_again => k_is)
    (case nP_own_results => k_is)
    (case haP => k_is)
    (case hmP => k_is)
    (case mkP => k_is)
    (case inP => k_is)
    (case fnP => k_is)
    (case kpP => k_is)
    (case lIP => k_is)
    (case cIP => k_is)
    (case kIP => k_is)
    (case lDT => k_is)
    (case kw4 => k_is)
    (case kwA => k_is)
    (case kw5 => k_is)
    (case lz1 => k_is)
    (case lz2 => k_is)
    (case lz3 => k_is)
    (case lz4 => k_is)
    (case lz5 => k_is)
    (case paP_pahead => k_is)
    (case pg_pahead => k_is)
    (case pt_pahead => k_is)
    (case pr_pahead => k_is)
    (case lGpahead => k_is)
    (case cGpahead => k_is)
    (case kGpahead => k_is)
    (case paP_ploop => k_is)
    (case pg_ploop => k_is)
    (case pt_ploop => k_is)
    (case pr_ploop => k_is)
    (case lGploop => k_is)
    (case cGploop => k_is)
    (case kGploop => k_is)
    (case paP_pbetween => k_is)
    (case pg_pbetween => k_is)
    (case pt_pbetween => k_is)
    (case pr_pbetween => k_is)
    (case lGpbetween => k_is)
    (case cGpbetween => k_is)
    (case kGpbetween => k_is)
    (case paP_psecond => k_is)
    (case pg_psecond => k_is)
    (case pt_psecond => k_is)
    (case pr_psecond => k_is)
    (case lGpsecond => k_is)
    (case cGpsecond => k_is)
    (case kGpsecond => k_is)
    (case paP_pbehind => k_is)
    (case pg_pbehind => k_is)
    (case pt_pbehind => k_is)
    (case pr_pbehind => k_is)
    (case lGpbehind => k_is)
    (case cGpbehind => k_is)
    (case kGpbehind => k_is)
    (case paP_pgiven => k_is)
    (case pg_pgiven => k_is)
    (case pt_pgiven => k_is)
    (case pr_pgiven => k_is)
    (case lGpgiven => k_is)
    (case cGpgiven => k_is)
    (case kGpgiven => k_is)
    (case paP_presults => k_is)
    (case pg_presults => k_is)
    (case pt_presults => k_is)
    (case pr_presults => k_is)
    (case lGpresults => k_is)
    (case cGpresults => k_is)
    (case kGpresults => k_is)
    (case paP_pnames => k_is)
    (case pg_pnames => k_is)
    (case pt_pnames => k_is)
    (case pr_pnames => k_is)
    (case lGpnames => k_is)
    (case cGpnames => k_is)
    (case kGpnames => k_is)
    (case aNM => k_is)
    (case lNM => k_is)
    (case cNM => k_is)
    (case kNM => k_is)
    (case iNM => k_is)
    (case a_deeds_of_programs => k_is)
    (case l_deeds_of_programs => k_is)
    (case c_deeds_of_programs => k_is)
    (case k_deeds_of_programs => k_is)
    (case a_deeds_of_needed => k_is)
    (case l_deeds_of_needed => k_is)
    (case c_deeds_of_needed => k_is)
    (case k_deeds_of_needed => k_is)
    (case a_needed => k_is)
    (case l_needed => k_is)
    (case c_needed => k_is)
    (case k_needed => k_is)
    (case kn0 => k_is)
    (case kn1 => k_is)
    (case kn2 => k_is)
    (case a_is_name => k_is)
    (case l_is_name => k_is)
    (case c_is_name => k_is)
    (case k_is_name => k_is)
    (case a_ascending => k_is)
    (case l_ascending => k_is)
    (case c_ascending => k_is)
    (case k_ascending => k_is)
    (case a_need_names => k_is)
    (case l_need_names => k_is)
    (case c_need_names => k_is)
    (case k_need_names => k_is)
    (case a_need_used => k_is)
    (case l_need_used => k_is)
    (case c_need_used => k_is)
    (case k_need_used => k_is)
    (case a_need_name => k_is)
    (case l_need_name => k_is)
    (case c_need_name => k_is)
    (case k_need_name => k_is)
    (case a_is_integer => k_is)
    (case l_is_integer => k_is)
    (case c_is_integer => k_is)
    (case k_is_integer => k_is)
    (case a_need_price => k_is)
    (case l_need_price => k_is)
    (case c_need_price => k_is)
    (case k_need_price => k_is)
    (case a_need_shape => k_is)
    (case l_need_shape => k_is)
    (case c_need_shape => k_is)
    (case k_need_shape => k_is)
    (case a_need_again => k_is)
    (case l_need_again => k_is)
    (case c_need_again => k_is)
    (case k_need_again => k_is)
    (case a__law_pen => k_is)
    (case l__law_pen => k_is)
    (case c__law_pen => k_is)
    (case k__law_pen => k_is)
    (case a__law_draw => k_is)
    (case l__law_draw => k_is)
    (case c__law_draw => k_is)
    (case k__law_draw => k_is)
    (case a__law_pick => k_is)
    (case l__law_pick => k_is)
    (case c__law_pick => k_is)
    (case k__law_pick => k_is)
    (case a__law_some => k_is)
    (case l__law_some => k_is)
    (case c__law_some => k_is)
    (case k__law_some => k_is)
    (case a__law_names => k_is)
    (case l__law_names => k_is)
    (case c__law_names => k_is)
    (case k__law_names => k_is)
    (case a__law_real_deed => k_is)
    (case l__law_real_deed => k_is)
    (case c__law_real_deed => k_is)
    (case k__law_real_deed => k_is)
    (case a__law_order => k_is)
    (case l__law_order => k_is)
    (case c__law_order => k_is)
    (case k__law_order => k_is)
    (case a__law_deeds => k_is)
    (case l__law_deeds => k_is)
    (case c__law_deeds => k_is)
    (case k__law_deeds => k_is)
    (case a__law_site => k_is)
    (case l__law_site => k_is)
    (case c__law_site => k_is)
    (case k__law_site => k_is)
    (case a__law_real_part => k_is)
    (case l__law_real_part => k_is)
    (case c__law_real_part => k_is)
    (case k__law_real_part => k_is)
    (case a__law_real => k_is)
    (case l__law_real => k_is)
    (case c__law_real => k_is)
    (case k__law_real => k_is)
    (case a_part_of => k_is)
    (case l_part_of => k_is)
    (case c_part_of => k_is)
    (case k_part_of => k_is)
    (case a_is_place => k_is)
    (case l_is_place => k_is)
    (case c_is_place => k_is)
    (case k_is_place => k_is)
    (case a_ahead_of => k_is)
    (case l_ahead_of => k_is)
    (case c_ahead_of => k_is)
    (case k_ahead_of => k_is)
    (case a_names_back => k_is)
    (case l_names_back => k_is)
    (case c_names_back => k_is)
    (case k_names_back => k_is)
    (case a_back_through => k_is)
    (case l_back_through => k_is)
    (case c_back_through => k_is)
    (case k_back_through => k_is)
    (case a_behind_loop => k_is)
    (case l_behind_loop => k_is)
    (case c_behind_loop => k_is)
    (case k_behind_loop => k_is)
    (case a_at_end => k_is)
    (case l_at_end => k_is)
    (case c_at_end => k_is)
    (case k_at_end => k_is)
    (case a__law_is_wanted => k_is)
    (case l__law_is_wanted => k_is)
    (case c__law_is_wanted => k_is)
    (case k__law_is_wanted => k_is)
    (case a__law_words_of => k_is)
    (case l__law_words_of => k_is)
    (case c__law_words_of => k_is)
    (case k__law_words_of => k_is)
    (case a__law_wanted => k_is)
    (case l__law_wanted => k_is)
    (case c__law_wanted => k_is)
    (case k__law_wanted => k_is)
    (case a__law_rest => k_is)
    (case l__law_rest => k_is)
    (case c__law_rest => k_is)
    (case k__law_rest => k_is)
    (case a__law_ahead_right => k_is)
    (case l__law_ahead_right => k_is)
    (case c__law_ahead_right => k_is)
    (case k__law_ahead_right => k_is)
    (case a__law_loop_right => k_is)
    (case l__law_loop_right => k_is)
    (case c__law_loop_right => k_is)
    (case k__law_loop_right => k_is)
    (case a_law => k_is)
    (case l_law => k_is)
    (case c_law => k_is)
    (case k_law => k_is)
end
