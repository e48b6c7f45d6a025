import PyProof.Rows.All
import Wide.All
import OpenK.AllK
import Wide.FinOn
import KE.KSuper
import KE.KCallOwn
import HandS.ForMost
import HandS.ClsMeth
import HandS.OwnEq
import HandS.FStr
import HandS.IsInst
import HandS.Star
import HandS.SlotsOwn
import HandS.Defaults
import HandS.RaiseMore
import PyProof.NeKinds
import HandS.Walk
import KE.KFromBytes
import HandS.Exc
import HandS.ExcInit
import HandS.ExcSuper
import HandS.ExcIs
import KE.KExcIs
import HandS.ExcField
import HandS.ExcValue
import HandS.Lambda
import HandS.EndTab
import HandS.EndOwn
import HandS.Words
import HandS.WordsExc
import HandS.Dict
import HandS.Text
import PyProof.InstNe
import PyProof.ReprLen
import KE.KRevSl
import HandS.SetFor
import HandS.Style
import HandS.Property
import HandS.List
import PyProof.P3Eq
import PyProof.FitsInt
import HandS.MakeKw
import KE.GoesMore
import KE.GoesEnum
import PyProof.EnumMake
import HandS.Iter
import KE.KOpsOwn
import HandS.Nested
import HandS.Codes
import HandS.Wide
import HandS.WideMore
import HandS.Conv
import HandS.TupAny
import HandS.TryOnly
import PySem.Challenge.RW_loopstow_k09_rows_told
import HandS.GenBody
import HandS.GenYield
import HandS.GenCall
import HandS.GenList
import PyProof.Gen
import PyProof.GenQ
import HandS.Zip
import PyProof.LongRange
import HandS.Set
import HandS.Strs
import HandS.SetKeys
import HandS.More
import KE.RegKSuper
import KE.RegKIsAll
import KE.KStateDown
import HandS.Head0
import HandS.Head1
import HandS.Head2
section
set_option Elab.async false
set_option linter.all false
set_option maxRecDepth 100000
set_option maxHeartbeats 4000000
namespace Ls
open PySem PySem.Spec PyProof.Rows L2
theorem PI.or {X : Cx} {tg iter : Expr} {w1 w2 : TI} (h1 : PI X tg iter w1) (h2 : PI X tg iter w2) : PI X tg iter (fun σ H R => w1 σ H R ∨ w2 σ H R) :=
  ⟨fun pins s σ H R I h => h.elim (fun h => h1.run pins s σ H R I h) (fun h => h2.run pins s σ H R I h)⟩
section
variable {X : Cx} {CX : CXT} {k : Nat} {f : Addr} {fd : FuncData} {ps ks : List Str} {sp : Sp} {E : XK} {x : Str} {p pos : Pos} {kws : List Keyword} {tk : TA} {g : List Value → List Value → List Value} {gV : List V → List V → List V}
end
def rStrOwn (K : PySem.W.Frag) (g : Addr) (sp : Sp) (E : XK) : List V → Hp → VK → Prop := fun xs H Q => ∃ a C dx fs, xs = [V.ref a] ∧ H a = some (.ins C dx fs) ∧ PySem.W.findIn K (.ref C) "__str__" = some (some (.ref g)) ∧ sp [.ref a] H (fun z H' => ∃ y, z = .str y ∧ Q z H') E
section
variable {X : Cx} {CX : CXT} {g : Addr} {n : Nat} {sp : Sp} {E : XK}
theorem call_strOwn (hf : PySem.W.isFn X.K (.ref g) = true) (F : FnR X.prog X.w X.K X.mg X.base CX n g sp) (hr : Room (n + 2) X.A) (hx : Passes CX X E) : CallR X (.type "str") (rStrOwn X.K g sp E) := by
  intro pins s σ H xs us Q I r h
  obtain ⟨a, C, dx, fs, rfl, ha, hs, q⟩ := h
  obtain ⟨u, rfl, ru⟩ := r.one
  cases (show u = Value.ref a from ru)
  obtain ⟨mA, O, _⟩ := ins_get I.hok ha
  obtain ⟨od, J, _⟩ := O.look
  have hr2 : Room n X.A.in1.in1 := (show Room (n + 1) X.A.in1 from Room.in1 hr).in1
  refine PySem.W.kso_call hr2.units0 I.kIn J hs hf (wpAny_mono (wpAny_call (SlX.run_at (us := [.ref a]) (ws := [.ref a]) F hr2 I.env0.in1.in1 hx I (.cons rfl .nil) q)) (fun w s' z => ?_) fun _ _ x => x)
  obtain ⟨z', H', I', rz, y, ey, qz⟩ := z
  subst ey
  obtain ⟨t, e⟩ := (show ∃ t, w = Value.str y t from rz)
  cases e
  exact ⟨.str y, H', I', ⟨t, rfl⟩, qz⟩
end
end Ls
end
section
set_option Elab.async false
set_option linter.all false
set_option maxRecDepth 100000
set_option maxHeartbeats 4000000
namespace Ls
open PySem PySem.Spec PyProof.Rows L2
structure ScS (N ps : List Str) (sc : Scope) : Prop where
  kind : sc.kind = .function
  co : sc.isCoroutine = false
  gen : sc.isGenerator = false
  nd : N.Nodup
  pre : N.take ps.length = ps
  par : ∀ x ∈ ps, sc.names.lookup x = some .local
  nocell : ∀ y ∈ sc.names, y.2 ≠ .cell
  free : ∀ y ∈ sc.names, y.2 = .free → y.1 = "__class__"
def cxS (CX : CXT) (P : Program) (w : World) (K : PySem.W.Frag) (mg : Str → Option Value) (base : Heap) (N : List Str) (qual : Str) (scope : Scope) (f : Addr) (cd : Value) (cc : Addr) (A : Around) (outer : List Env) (s : Shared) (H : Hp) (E : XK) : Cx where
  prog := P
  w := w
  K := K
  mg := mg
  base := base
  A := A.deeper (PySem.W.ksEnv qual scope s.heap.objs.size f cd cc)
  N := N
  s_0 := s
  H_0 := H
  env := PySem.W.ksEnv qual scope s.heap.objs.size f cd cc
  outer := outer
  stack := PySem.W.ksEnv qual scope s.heap.objs.size f cd cc :: outer
  ex := []
  calm := true
  fn := fun x => !(x == ("__class__" : Str))
  pn := []
  xe := fun e s' => wpAny (model P w) (A.deeper (PySem.W.ksEnv qual scope s.heap.objs.size f cd cc)) (leaving (PySem.W.ksEnv qual scope s.heap.objs.size f cd cc) e) (fun _ s'' => CX outer H s E e s'') (fun e' s'' => CX outer H s E e' s'') s'
theorem rev_lookup {x : Str} {v : Value} : ∀ {ps : List Str} {us : List Value} {i : Nat}, ps.Nodup → ps[i]? = some x → us[i]? = some v → (ps.zip us).reverse.lookup x = some v
  | [], _, _, _, h, _ => by simp at h
  | _ :: _, [], _, _, _, h => by simp at h
  | p :: ps, u :: us, 0, nd, h1, h2 => by
    simp at h1 h2
    subst h1; subst h2
    rw [List.zip_cons_cons, List.reverse_cons, List.lookup_append]
    have : (ps.zip us).reverse.lookup p = none := by
      rw [List.lookup_eq_none_iff]
      rintro ⟨a, b⟩ hm
      have hm' := List.mem_reverse.mp hm
      have ha := (List.of_mem_zip hm').1
      have : p ≠ a := fun e => (List.nodup_cons.mp nd).1 (e ▸ ha)
      simpa using this
    rw [this]
    simp [List.lookup]
  | p :: ps, u :: us, i + 1, nd, h1, h2 => by
    rw [List.zip_cons_cons, List.reverse_cons, List.lookup_append, rev_lookup (i := i) (List.nodup_cons.mp nd).2 (by simpa using h1) (by simpa using h2)]
    rfl
section
variable {CX : CXT} {P : Program} {w : World} {K : PySem.W.Frag} {mg : Str → Option Value} {base : Heap} {N ps : List Str} {qual : Str} {scope : Scope} {f cc : Addr} {cd : Value} {A : Around} {outer : List Env} {s : Shared} {H : Hp} {E : XK} {us : List Value} {vs : List V}
theorem inv_startS {h1 : Heap} {tk : Nat} {ocell : Obj} {vc : Option Value} (S : ScS N ps scope) (hd : A.handled = none) (e0 : Env0 P w K mg base A outer s H) (hl : vs.length = ps.length) (r : Vals vs us)
    (hcell : K.lookup cc = some ocell) (hcd : ocell.data = .cell vc)
    (hns : h1.Ns s.heap.objs.size (fun x => (ps.zip us).reverse.lookup x)) (hk : ∀ b o, s.heap.get? b = some o → h1.get? b = some o) :
    Inv (cxS CX P w K mg base N qual scope f cd cc A outer s H E) [] (start N vs) H { s with heap := h1, toks := tk } := by
  have hpl : ps.length ≤ N.length := by have := congrArg List.length S.pre; rw [List.length_take] at this; omega
  have hccb : base.get? cc = some ocell := e0.mod.kin _ _ hcell
  have lkc : ∀ x c, List.lookup x [(("__class__" : Str), cc)] = some c → x = "__class__" ∧ c = cc := fun x c e => by
    by_cases hx : x = "__class__"
    · subst hx
      simp [List.lookup] at e
      exact ⟨rfl, e.symm⟩
    · have : (x == ("__class__" : Str)) = false := by simpa using hx
      simp [List.lookup, this] at e
  have noA : ∀ b : Addr, b ∉ (cxS CX P w K mg base N qual scope f cd cc A outer s H E).ex := fun b z => absurd (show b ∈ ([] : List Addr) from z) (by simp)
  refine ⟨⟨e0.mod, S.kind, rfl, rfl, Nat.le_refl _, fun y z c q1 q2 => ?_, fun y hy => ?_, fun y c hfn h => ?_, fun _ => hd, Around.frames_deeper e0.frames, .inr ⟨rfl, rfl⟩, fun b z => absurd z (noA b), e0.bs, e0.bsz, fun b _ _ => noA b, fun b z => absurd z (noA b), e0.funs, e0.frf⟩,
    rfl, e0.bare, Un.kept hk, ⟨_, hns, fun i y v q1 q2 q3 => ?_⟩, fun y c h => ?_, e0.hok.fresh (Nat.le_refl _), fun y c h => ?_, fun p hp => absurd (show p ∈ ([] : List (Addr × Obj)) from hp) (by simp), e0.hok.kept hk, ?_⟩
  · rw [(lkc y c q1).1, (lkc z c q2).1]
  · have hy : scope.names.lookup y = some .cell ∨ scope.names.lookup y = some .free := hy
    rcases hy with hy | hy
    · exact absurd rfl (S.nocell _ (PySem.mem_of_lookup hy))
    · have e := S.free _ (PySem.mem_of_lookup hy) rfl
      have e' : y = "__class__" := e
      subst e'
      exact ⟨cc, by show List.lookup _ [_] = _; simp [List.lookup]⟩
  · have e := (lkc y c h).1
    subst e
    exact absurd (show (!(("__class__" : Str) == ("__class__" : Str))) = true from hfn) (by simp)
  · have hi : i < vs.length := by
      unfold L2.start at q2
      by_cases hi : i < vs.length
      · exact hi
      · rw [List.getElem?_append_right (by simpa using hi)] at q2
        rw [List.getElem?_replicate] at q2
        split at q2 <;> cases q2
    have ha : vs[i]? = some v := by
      unfold L2.start at q2
      rw [List.getElem?_append_left (by simpa using hi), List.getElem?_map] at q2
      cases e : vs[i]? with
      | none => rw [e] at q2; cases q2
      | some a => rw [e] at q2; cases q2; rfl
    obtain ⟨u, hu, rv⟩ := r.get ha
    have hp : ps[i]? = some y := by
      rw [← S.pre, List.getElem?_take_of_lt (by omega)]; exact q1
    have ndP : ps.Nodup := by rw [← S.pre]; exact S.nd.sublist (List.take_sublist _ _)
    exact ⟨u, rv, .inl ⟨S.par y (List.mem_of_getElem? hp), rev_lookup ndP hp hu⟩⟩
  · obtain ⟨_, e⟩ := lkc y c h
    subst e
    exact ⟨vc, ocell, hk _ _ (e0.bs _ _ hccb).1, hcd⟩
  · obtain ⟨_, e⟩ := lkc y c h
    subst e
    exact (e0.bs _ _ hccb).2
  · unfold L2.start
    show _ = N.length
    rw [List.length_append, List.length_map, List.length_replicate]
    omega
end
section
variable {CX : CXT} {P : Program} {w : World} {K : PySem.W.Frag} {mg : Str → Option Value} {base : Heap} {k : Nat} {f cc cda : Addr} {name qual : Str} {params : Arguments} {scope : Scope} {dV kV doc pm ct oc : Value} {an od : Option Addr}
    {osl : Array (Option Value)} {N ps : List Str} {sp : Sp} {e : PySem.Expr} {es : List PySem.Expr} {rest : List Stmt} {m : Str} {p0 p1 apos pos epos : Pos} {pl : Sem Bool}
end
end Ls
end
section
set_option Elab.async false
set_option linter.all false
set_option maxRecDepth 100000
set_option maxHeartbeats 4000000
namespace LsN
open PySem PySem.SeqAt
open AutoSeq1 (wpAny_loadPart')
open MeetsSeq MeetsSeq2 MeetsSeq3 SeqRoads2
section
variable {prog : Program} {w : World} {A : Around} {R : Result → Shared → Prop}
end
section
variable {prog : Program} {w : World} {A : Around} {E : Value → Shared → Prop} {s : Shared}
end
end LsN
namespace Ls
open PySem PySem.Spec PyProof.Rows L2
section
variable {X : Cx} {n : Nat} {D : Eqv}
end
end Ls
end
section
set_option Elab.async false
set_option linter.all false
set_option maxRecDepth 100000
set_option maxHeartbeats 4000000
namespace Ls
open PySem PySem.Spec PyProof.Rows L2
section
variable (P : Program) (w : World) (K : PySem.W.Frag) (mg : Str → Option Value) (base : Heap) (CX : CXT) (k : Nat)
structure Cal (x : Str) (sp : Sp) : Prop where
  ex : ∃ f, mg x = some (.ref f) ∧ PySem.W.keepIn K (.ref f) = true ∧ FnR P w K mg base CX k f sp
structure Mkc (C : Addr) (x : Str) (sp : Sp) : Prop where
  ex : ∃ f, mg x = some (.ref C) ∧ Mk K C f ∧ FnR P w K mg base CX k f sp
end
def tCl (sp : Sp) (E : XK) (t : TA) : TE := fun σ H Q => t σ H fun vs H1 => sp vs H1 Q E
section
variable {X : Cx} {CX : CXT} {k : Nat} {C : Addr} {sp : Sp} {E : XK} {x m a : Str} {p pos apos : Pos} {e o : PySem.Expr} {es : List PySem.Expr} {kws : List Keyword} {ta : TE} {t tk : TA} {pl : Sem Bool}
theorem pe_cal (c : Cal X.prog X.w X.K X.mg X.base CX k x sp) (hr : Room k X.A) (hg : Gl X x) (hx : Passes CX X E) (ha : PA X (e :: es) t) (hd : (x == ("__debug__" : Str)) = false := by decide)
    (he : starEach (e :: es) X.env = (false, eval e X.env) :: starEach es X.env := by rfl) (hpl : (backTo pos (starEach es X.env)).any (·.1) = false := by rfl) :
    PE X (.Call (.Name x p) (e :: es) [] pos) (tCl sp E t) := by
  obtain ⟨f, hm, hk, F⟩ := c.ex
  refine ⟨fun pins s σ H Q I h => ?_⟩
  refine wpAny_Call_Name_kw (ld_glob I hg hm ?_ hd)
  refine PySem.W.callWith_K (h₀ := X.base) I.ok.mod.kin hk (thn (ha.run pos pins s σ H _ I h) fun us s1 ⟨vs, H1, I1, r, q⟩ => ⟨I1.kIn, ?_⟩) he hpl
  exact wpAny_call (run_fnR F hr hx I1 r q)
theorem pe_mkc (c : Mkc X.prog X.w X.K X.mg X.base CX k C x sp) (hr : Room (k + 1) X.A) (hg : Gl X x) (hx : Passes CX X E) (ha : PA X (e :: es) t) (hdb : (x == ("__debug__" : Str)) = false := by decide)
    (he : starEach (e :: es) X.env = (false, eval e X.env) :: starEach es X.env := by rfl) (hpl : (backTo pos (starEach es X.env)).any (·.1) = false := by rfl) :
    PE X (.Call (.Name x p) (e :: es) [] pos) (StX.tMakeR C sp E t) := by
  obtain ⟨f, hm, M, F⟩ := c.ex
  exact StX.pe_makeR M F hr hg hm hx ha hdb he hpl
end
theorem iteNo {c : Bool} {A B : Prop} (hc : c = false) (h : B) : if c = true then A else B := by rw [hc, if_neg Bool.false_ne_true]; exact h
theorem iteYes {c : Bool} {A B : Prop} (hc : c = true) (h : A) : if c = true then A else B := by rw [hc, if_pos rfl]; exact h
section
variable {X : Cx} {x z : Str} {i : Int} {tk : Tok} {a : Addr} {pos : Pos}
theorem pe_gint (hg : Gl X x) (hm : X.mg x = some (.int i tk)) (hd : (x == ("__debug__" : Str)) = false := by decide) : PE X (.Name x pos) (tC (.int i)) := pe_glob hg hm ⟨_, rfl⟩ hd
theorem pe_gref (hg : Gl X x) (hm : X.mg x = some (.ref a)) (hd : (x == ("__debug__" : Str)) = false := by decide) : PE X (.Name x pos) (tC (.ref a)) := pe_glob hg hm rfl hd
theorem pe_gty {T : String} (hg : Gl X x) (hm : X.mg x = none) (hv : bootBuiltins x = some (.type T)) (hn : x ≠ "__name__" := by decide) (hd : (x == ("__debug__" : Str)) = false := by decide) : PE X (.Name x pos) (tC (.ty T)) := pe_bltn hg hm hv rfl hn hd
end
def Keep (p c : Addr) (H H' : Hp) : Prop := ∀ b o, H b = some o → b ≠ p → b ≠ c → H' b = some o
theorem Keep.refl {p c : Addr} {H : Hp} : Keep p c H H := fun _ _ e _ _ => e
theorem Keep.trans {p c : Addr} {H H1 H2 : Hp} (a : Keep p c H H1) (b : Keep p c H1 H2) : Keep p c H H2 := fun d o e h1 h2 => b d o (a d o e h1 h2) h1 h2
theorem Keep.upd1 {p c : Addr} {H : Hp} {o : HO} : Keep p c H (upd H p o) := fun b u e h1 _ => by rw [upd_ne h1]; exact e
theorem Keep.ext {p c : Addr} {H H' : Hp} (e : Ext H H') : Keep p c H H' := fun b o h _ _ => e b o h
theorem Keep.new {p c a : Addr} {H : Hp} {o : HO} (h : H a = none) : Keep p c H (upd H a o) := Keep.ext (Ext.upd h)
section
variable {X : Cx} {K : PySem.W.Frag}
theorem pi_tupK {tg l : PySem.Expr} {tl : TE} (hK : X.K = K) (hl : PE X l tl) : PI X tg l (iTup K tl) := by subst hK; exact pi_tup hl
end
def rNeNil : R2 := fun x y H Q => ∃ a b xs, x = .ref a ∧ y = .ref b ∧ H a = some (.lst xs) ∧ H b = some (.lst []) ∧ Q (.bl (!xs.isEmpty)) H
def rEqNil : R2 := fun x y H Q => ∃ a b xs, x = .ref a ∧ y = .ref b ∧ H a = some (.lst xs) ∧ H b = some (.lst []) ∧ Q (.bl xs.isEmpty) H
section
variable {X : Cx}
theorem op_neNil {k : Nat} (hr : Room k X.A) : OpR X (compareOp .NotEq) rNeNil := by
  intro pins s σ H x y v u Q I rx ry hq
  obtain ⟨a, b, xs, rfl, rfl, ha, hb, q⟩ := hq
  cases (show v = Value.ref a from rx)
  cases (show u = Value.ref b from ry)
  show wpAny (model X.prog X.w) X.A (richCompare .NotEq (.ref a) (.ref b)) (EP X pins σ Q) X.xe s
  obtain ⟨its, r, p1, _⟩ := I.list (SqL.of (K := X.K) ha)
  obtain ⟨its2, r2, p2, _⟩ := I.list (SqL.of (K := X.K) hb)
  cases r2
  cases r with
  | nil => exact SeqAt.RcNeAt.lists (e := fun _ => true) p1.isList p2.isList rfl hr.units0 (fun j h1 _ => absurd h1 (by simp)) X.prog X.w X.xe _ ⟨.bl false, H, I, rfl, q⟩
  | cons r0 r1 => exact SeqAt.RcNeAt.lists_lengths p1.isList p2.isList (by simp) hr.units0 X.prog X.w X.xe _ ⟨.bl true, H, I, rfl, q⟩
theorem op_eqNil {k : Nat} (hr : Room k X.A) : OpR X (compareOp .Eq) rEqNil := by
  intro pins s σ H x y v u Q I rx ry hq
  obtain ⟨a, b, xs, rfl, rfl, ha, hb, q⟩ := hq
  cases (show v = Value.ref a from rx)
  cases (show u = Value.ref b from ry)
  show wpAny (model X.prog X.w) X.A (richCompare .Eq (.ref a) (.ref b)) (EP X pins σ Q) X.xe s
  obtain ⟨its, r, p1, _⟩ := I.list (SqL.of (K := X.K) ha)
  obtain ⟨its2, r2, p2, _⟩ := I.list (SqL.of (K := X.K) hb)
  cases r2
  cases r with
  | nil => exact SeqAt.RcAt.lists (e := fun _ => true) p1.isList p2.isList rfl hr.units0 (fun j h1 _ => absurd h1 (by simp)) X.prog X.w X.xe _ ⟨.bl true, H, I, rfl, q⟩
  | cons r0 r1 => exact SeqAt.RcAt.lists_lengths p1.isList p2.isList (by simp) hr.units0 X.prog X.w X.xe _ ⟨.bl false, H, I, rfl, q⟩
end
end Ls
end
section
set_option Elab.async false
set_option linter.all false
set_option maxRecDepth 100000
set_option maxHeartbeats 4000000
namespace Ls
open PySem PySem.Spec PyProof.Rows L2
def nw (H H' : Hp) : Hp := fun b => match H b with | none => H' b | some _ => none
theorem nw_at {H H' : Hp} {b : Addr} (h : H b = none) : nw H H' b = H' b := by unfold nw; rw [h]
theorem nw_some {H H' : Hp} {b : Addr} {o : HO} (h : nw H H' b = some o) : H b = none ∧ H' b = some o := by
  unfold nw at h
  cases e : H b with
  | none => rw [e] at h; exact ⟨rfl, h⟩
  | some u => rw [e] at h; cases h
theorem nw_back {H H1 H2 : Hp} (e : Ext H H1) : Ext (nw H1 H2) (nw H H2) := fun a o h => by
  obtain ⟨h1, h2⟩ := nw_some h
  have : H a = none := by
    cases q : H a with
    | none => rfl
    | some u => rw [e a u q] at h1; cases h1
  rw [nw_at this]; exact h2
section
variable {J : It} {n : Nat} {G : Hp → Prop} {Y : Nat → Hp → V → Hp → Prop} {g : TG} {te : TE} {vs : List Nat} {σ : L2.St} {H1 : Hp} {D : Addr} {Qd : Hp → Prop}
end
end Ls
end
section
set_option Elab.async false
set_option linter.all false
set_option maxRecDepth 100000
set_option maxHeartbeats 4000000
namespace Ls
open PySem PySem.Spec PyProof.Rows L2
section
variable {X : Cx} {pins : List (Addr × Obj)} {σ : L2.St} {H : Hp} {s : Shared}
end
section
variable {X : Cx} {x n : Str} {c : Value} {i : Nat} {body suite : List Stmt} {b₀ : Stmt} {np pos pos' : Pos} {tb : WX → TS} {ts : TS} {Wout : WX}
end
section
variable {X : Cx} {e : Expr}
end
namespace SE
open PySem.W
abbrev wv (x : Addr) : Obj := { cls := .type "method-wrapper", dict := none, data := .fields #[.builtin "ValueError.__init__", .ref x], slots := #[] }
theorem ty_vi : typeOf (.builtin "ValueError.__init__") = pure (.type "wrapper_descriptor") := by
  show builtinType _ = _
  rw [builtinType_eq_fast]
  kernel_rfl
theorem nc_vi : (kfb_private% "nameAndClass") (Value.builtin "ValueError.__init__") = (pure (("__init__" : Str), Value.type "ValueError") : Sem (Str × Value)) := by kernel_rfl
section
variable {prog : Program} {w : World} {M : Model} {A : Around} {E : Value → Shared → Prop} {h : Heap} {g : Array GenState} {dr : Drawn} {t : Nat} {os : OsState}
theorem bind_vi {x C : Addr} {P : Fin → Shared → Prop} (hin : Looks M h (isInstance (.ref x) (.type "ValueError")) true) (hq : P (.done (.ret (.ref h.objs.size))) ⟨h.push (wv x), g, dr, t, os⟩) :
    wpAny M A (Builtin.«wrapper_descriptor.__get__» ⟨[.builtin "ValueError.__init__", .ref x, .ref C], []⟩) P E ⟨h, g, dr, t, os⟩ := by
  unfold Builtin.«wrapper_descriptor.__get__»
  refine wpAny_bind (wpAny_of_eq (a := (.builtin "ValueError.__init__", some (.ref x), some (.ref C))) (by first | rfl | kernel_rfl) ?_)
  show wpAny M A ((kfb_private% "checkInstance") (.builtin "ValueError.__init__") (.ref x) >>= fun _ => newFields "method-wrapper" [.builtin "ValueError.__init__", .ref x] >>= fun r => ret r) P E _
  refine wpAny_bind ?_
  show wpAny M A ((kfb_private% "nameAndClass") (.builtin "ValueError.__init__") >>= _) _ E _
  refine wpAny_bind (wpAny_of_eq nc_vi ?_)
  show wpAny M A (isInstance (.ref x) (.type "ValueError") >>= _) _ E _
  refine wpAny_bind (hin.at (KFB.if_not rfl (wpAny_pure ?_)))
  exact wpAny_bind (wpAny_newObj_type (wpAny_pure hq))
theorem super_gav {so D x C : Addr} {l₀ l : List Value} {K : Frag} {name : Str} {tk : Tok} {Q : Fin → Shared → Prop}
    (hso : h.get? so = some { cls := .type "super", dict := none, data := .fields #[.ref D, .ref x, .ref C], slots := #[] }) (hno : Looks (model prog w) h (opaqueClassAbove (.ref C)) none)
    (hC : Looks (model prog w) h (mroOf (.ref C)) l₀) (hl : (l₀.dropWhile (· != .ref D)).drop 1 = l) (X : K.In h)
    (hf : alongIn K name l = some (some (.builtin "ValueError.__init__"))) (hxC : x ≠ C) (hn : (name == ("__class__" : Str)) = false) (hin : Looks (model prog w) h (isInstance (.ref x) (.type "ValueError")) true)
    (hq : Q (.done (.ret (.ref h.objs.size))) ⟨h.push (wv x), g, dr, t, os⟩) :
    wpAny (model prog w) A (Builtin.«super.__getattribute__» ⟨[.ref so, .str name tk], []⟩) Q E ⟨h, g, dr, t, os⟩ := by
  have hlk := ESX.slot_wd.lookup
  have ner : (Value.ref x == Value.ref C) = false := by simp [hxC]
  have hTf := ty_vi
  have hTi : Shared.TypeIs ⟨h, g, dr, t, os⟩ (.builtin "ValueError.__init__") "wrapper_descriptor" := ty_vi
  have dso : ({ cls := .type "super", dict := none, data := .fields #[.ref D, .ref x, .ref C], slots := #[] } : Obj).data = .fields #[.ref D, .ref x, .ref C] := rfl
  have q0 : (#[.ref D, .ref x, .ref C] : Array Value)[0]? = some (.ref D) := rfl
  have q1 : (#[.ref D, .ref x, .ref C] : Array Value)[1]? = some (.ref x) := rfl
  have q2 : (#[.ref D, .ref x, .ref C] : Array Value)[2]? = some (.ref C) := rfl
  unfold Builtin.«super.__getattribute__»
  repeat (first
    | (with_reducible refine wpAny_field hso dso q0 ?_) | (with_reducible refine wpAny_field hso dso q1 ?_) | (with_reducible refine wpAny_field hso dso q2 ?_)
    | (with_reducible refine ks_wpAny_notOpaque hno ?_)
    | (with_reducible refine Looks.at hC ?_; rw [hl])
    | (refine ks_forIn_along X (fun _ _ => rfl) rfl ?_ hf)
    | (with_reducible refine wpAny_call_entry ESX.slot_wd hTi ESX.entry_wd ?_ (ESX.args_wd _ _ _))
    | (with_reducible refine bind_vi hin ?_)
    | (with_reducible refine ⟨_, rfl, ?_⟩)
    | (simp only [hn, ner, Bool.or_false, Bool.false_eq_true, if_false])
    | wp_step
    | dsimp only)
  all_goals exact hq
theorem getMethod_superv {so D x C : Addr} {l₀ l : List Value} {K : Frag} {name : Str} {pl : Sem Bool} {Q : Value × List Value → Shared → Prop}
    (hso : h.get? so = some { cls := .type "super", dict := none, data := .fields #[.ref D, .ref x, .ref C], slots := #[] }) (hno : Looks (model prog w) h (opaqueClassAbove (.ref C)) none)
    (hC : Looks (model prog w) h (mroOf (.ref C)) l₀) (hl : (l₀.dropWhile (· != .ref D)).drop 1 = l) (X : K.In h)
    (hf : alongIn K name l = some (some (.builtin "ValueError.__init__"))) (hxC : x ≠ C) (hn : (name == ("__class__" : Str)) = false) (hin : Looks (model prog w) h (isInstance (.ref x) (.type "ValueError")) true)
    (hq : Q (.ref h.objs.size, []) ⟨h.push (wv x), g, dr, t + 1, os⟩) :
    wpAny (model prog w) A (getMethod (.ref so) name pl) Q E ⟨h, g, dr, t, os⟩ := by
  have hlk := F.ks_slot_super_ga.lookup
  have hT : ∀ t', (⟨h, g, dr, t', os⟩ : Shared).TypeIs (.ref so) "super" := fun _ => ⟨_, hso, rfl⟩
  unfold getMethod
  refine wpAny_bind (wpAny_specialOf (hT _) hlk ?_)
  show wpAny _ _ (if (Manifest.canonical "super.__getattribute__" != "object.__getattribute__") = true then _ else _) _ _ _
  rw [if_pos F.ks_canon_super_ga]
  unfold getAttr getAttrBy
  refine wpAny_bind (wpAny_bind (wpAny_mkText (wpAny_holding (wpAny_bind (wpAny_typeOf (hT _) (wpAny_bind (wpAny_of_eq hlk ?_)))))))
  show wpAny _ _ (getAttrByItsOwn (.ref so) (.str name t) (.type "super") (.builtin "super.__getattribute__") true false) _ _ _
  unfold getAttrByItsOwn hookBefore callGetattribute boundAndCalled
  refine wpAny_bind (wpAny_of_eq (show (if onTheHeap (.type "super") then typeLookup (.type "super") "__getattr__" else pure none) = pure none from rfl) (wpAny_bind (wpAny_attempt (wpAny_holding ?_))))
  show wpAny _ _ (bindSpecial (.builtin "super.__getattribute__") (.ref so) >>= _) _ _ _
  refine wpAny_bind (wpAny_of_eq (F.ks_slot_super_ga.bind _) ?_)
  refine wpAny_mono (Q := fun v s' => v = .ref h.objs.size ∧ s' = ⟨h.push (wv x), g, dr, t + 1, os⟩) (E := fun _ _ => False)
    (wpAny_call_entry F.ks_slot_super_ga (hT _) F.ks_entry_super_ga (super_gav hso hno hC hl X hf hxC hn hin ⟨_, rfl, rfl, rfl⟩) (F.ks_gaArgs_super _ _)) (fun v s' hv => ?_) fun _ _ z => z.elim
  obtain ⟨rfl, rfl⟩ := hv
  exact wpAny_pure (wpAny_pure hq)
end
section
open PySem.Calls
variable {prog : Program} {w : World} {M : Model} {A : Around} {E : Value → Shared → Prop} {s : Shared}
theorem callWith_wv {pos : Pos} {u x : Addr} {env : Env} {e : Expr} {rest : List Expr} {Q : Value → Shared → Prop}
    (h : wpAny M A (spliced (backTo pos (starEach (e :: rest) env))) (fun vs s₁ => s₁.heap.get? u = some (wv x) ∧ wpAny M A (call (.ref u) vs) Q E s₁) E s)
    (he : starEach (e :: rest) env = (false, eval e env) :: starEach rest env) (hplain : (backTo pos (starEach rest env)).any (·.1) = false) :
    wpAny M A (callWith pos (.ref u) [] (backTo pos (starEach (e :: rest) env)) []) Q E s := by
  rw [he] at h ⊢
  have hp : (backTo pos ((false, eval e env) :: starEach rest env)).any (·.1) = false := by
    show (false || (backTo pos (starEach rest env)).any (·.1)) = false
    rw [hplain]
    rfl
  have h2 : wpAny M A (evalArgs (.ref u) true (backTo pos ((false, eval e env) :: starEach rest env)) []) (fun a s₁ => s₁.heap.get? u = some (wv x) ∧ wpAny M A (call (.ref u) ([] ++ a.pos) a.kw) Q E s₁) E s := evalArgs_plain h
  unfold callWith
  refine wpAny_bind (wpAny_holding (wpAny_mono h2 (fun a s₁ h₁ => wpAny_bind (wpAny_standAt ?_)) fun _ _ x => x))
  obtain ⟨ho, hcall⟩ := h₁
  simp only [hp, List.any_nil, Bool.or_false]
  refine wpAny_bind (m := keeperOf (.ref u)) ?_
  unfold keeperOf
  refine wpAny_bind (wpAny_load ho ?_)
  simp only [wv, show (Value.type "method-wrapper" != Value.type "method") = true by decide, show (Value.type "method-wrapper" == Value.type "builtin_function_or_method" || Value.type "method-wrapper" == Value.type "method-wrapper") = true by decide, if_true]
  refine wpAny_pure ?_
  exact wpAny_bind (wpAny_mono hcall (fun r s₂ hr => wpAny_bind (wpAny_holding (wpAny_point (wpAny_pure hr)))) fun _ _ x => x)
end
section
variable {prog : Program} {w : World} {A : Around} {E : Value → Shared → Prop} {h : Heap} {g : Array GenState} {dr : Drawn} {t : Nat} {os : OsState}
variable {nm q : Str} {C N : Addr} {bs bm : List Value} {hdct : Bool} {sn : List Str} {sub : List Value} {ab : Bool} {col : Option Bool} {dd : Option Addr} {k0 k1 k2 k3 k5 : Option Value}
theorem call_wv {u e t0 : Addr} {rest : List Value} {Q : Value → Shared → Prop}
    (hC : h.get? C = some (excClassObj nm q C N bs bm hdct sn sub ab col dd k0 k1 k2 k3 k5 "ValueError.__new__")) (he : h.get? e = some (HandSPX.excO C t0)) (hu : h.get? u = some (wv e)) (hrest : rest.length ≤ sizeLine)
    (hq : ∀ h' t1, (∀ b o, b ≠ e → h.get? b = some o → h'.get? b = some o) → h'.get? e = some (HandSPX.excO C t1) → Q .none ⟨h', g, dr, t, os⟩) :
    wpAny (model prog w) A (call (.ref u) rest) Q E ⟨h, g, dr, t, os⟩ := by
  refine wpAny_call (codeAny_of_tree ?_)
  show wpAny _ A.in1 (callAny (.ref u) ⟨rest, []⟩) _ _ _
  simp only [callAny]
  refine wpAny_bind (wpAny_load hu ?_)
  simp only [wv, show (Value.type "method-wrapper" == Value.type "method" || Value.type "method-wrapper" == Value.type "builtin_function_or_method" || Value.type "method-wrapper" == Value.type "method-wrapper") = true by decide, if_true]
  refine W.KFB.if_so (by decide) ?_
  refine wpAny_bind (ESX.check_bound F.excBase_ValueError hC he rfl (wpAny_bind (wpAny_pure (wpAny_pure ?_))))
  refine ⟨Code.quiet_builtin _ (by decide +kernel), codeAny_builtin F.excBase_ValueError.initEntry ?_⟩
  rw [Around.under_plainId F.excBase_ValueError.init.plain _]
  wp_walk
  refine hq _ h.objs.size (fun b o hb ho => ?_) ?_
  · rw [Heap.get?_update_other _ _ (Ne.symm hb)]
    exact Heap.get?_push_of_some _ ho
  · rw [Heap.get?_update_self _ (Heap.get?_push_of_some _ he) rfl]
    rfl
end
end SE
structure SupE (P : Program) (K : PySem.W.Frag) (mg : Str → Option Value) (C D cc cda : Addr) : Prop where
  cell : ∃ cl cld csl, K.lookup cc = some ⟨cl, cld, .cell (some (.ref D)), csl⟩
  code : ∃ ccl cdd vs ccs file tf, K.lookup cda = some ⟨ccl, cdd, .fields vs, ccs⟩ ∧ vs[2]? = some (.str file tf) ∧ ((P.main.file : Str) == file) = true
  clD : ∃ cdD, PySem.W.clsIn K D = some cdD
  sub : PySem.W.mroIn K C (.ref D) = some true
  suv : PySem.W.mroIn K C (.type "ValueError") = some true
  sup : mg "super" = none
  top : (P.main.scope.names.lookup ("super" : Str)).isSome = false
  any : PySem.W.nsIn K cStatics "thirdparty.any" = some none
  fnd : PySem.W.ks_superIn K C D "__init__" = some (some (.builtin "ValueError.__init__"))
  oex : OexC K C
section
variable {CX : CXT} {P : Program} {w : World} {K : PySem.W.Frag} {mg : Str → Option Value} {base : Heap} {k : Nat} {f cc cda : Addr} {name qual : Str} {params : Arguments} {scope : Scope} {dV kV doc pm ct oc : Value} {an od : Option Addr}
    {osl : Array (Option Value)} {N ps : List Str} {sp : Sp} {e : PySem.Expr} {es : List PySem.Expr} {rest : List Stmt} {p0 p1 apos pos epos : Pos} {pl : Sem Bool}
theorem fn_superE (lk : K.lookup f = some ⟨oc, od, .func (PySem.W.ksFn name qual params (.Expr (.Call (.Attribute (.Call (.Name "super" p0) [] [] p1) "__init__" apos) (e :: es) [] pos) epos :: rest) scope dV kV doc pm an (.ref cda) ct cc), osl⟩)
    (hcd : PySem.W.codeIn K (.ref cda) qual = true) (S : ScS N ps scope)
    {ar : Arg} (hp0 : (params.posonlyargs ++ params.args).head? = some ar) (hps : ps.head? = some ar.arg) (har : scope.names.lookup ar.arg = some .local)
    (hks : scope.names.lookup ("super" : Str) = some .globalImplicit) (hkc : scope.names.lookup ("__class__" : Str) = some .free)
    (len : ∀ vs H Q E, sp vs H Q E → vs.length = ps.length)
    (hbody : ∀ (A : Around) (outer : List Env) (s : Shared) (H : Hp) (vs : List V) (Q : VK) (E : XK), Room k (A.deeper (PySem.W.ksEnv qual scope s.heap.objs.size f (.ref cda) cc)) → sp vs H Q E →
      ∃ (x C D : Addr) (vs' : List V) (ta : TA) (u : TS), vs = .ref x :: vs' ∧ H x = some (exo x C none) ∧ SupE P K mg C D cc cda ∧
        PA (cxS CX P w K mg base N qual scope f (.ref cda) cc A outer s H E) (e :: es) ta ∧
        PSs (cxS CX P w K mg base N qual scope f (.ref cda) cc A outer s H E) rest u ∧
        ta (start N vs) H (fun ws H1 => ws.length ≤ 1000 ∧ H1 x = some (exo x C none) ∧ u { nx := fun _ H' => Q .non H', rt := Q } (start N vs) H1))
    (hi : ∀ L, interactive (PySem.W.ksEnv qual scope L f (.ref cda) cc) = false) (hsw : ∀ L, swapsWith (.Call (.Attribute (.Call (.Name "super" p0) [] [] p1) "__init__" apos) (e :: es) [] pos) none epos.line (PySem.W.ksEnv qual scope L f (.ref cda) cc) = pure false)
    (he : ∀ L, eval (.Call (.Attribute (.Call (.Name "super" p0) [] [] p1) "__init__" apos) (e :: es) [] pos) (PySem.W.ksEnv qual scope L f (.ref cda) cc) = (do
      let ov ← attributeBase (.Call (.Name "super" p0) [] [] p1) "__init__" (PySem.W.ksEnv qual scope L f (.ref cda) cc) (eval (.Call (.Name "super" p0) [] [] p1) (PySem.W.ksEnv qual scope L f (.ref cda) cc))
      standAt apos.atName
      let (fn, first) ← holding [ov] (getMethod ov "__init__" pl)
      callWith pos fn first (backTo pos (starEach (e :: es) (PySem.W.ksEnv qual scope L f (.ref cda) cc))) []))
    (hst : ∀ L, starEach (e :: es) (PySem.W.ksEnv qual scope L f (.ref cda) cc) = (false, eval e (PySem.W.ksEnv qual scope L f (.ref cda) cc)) :: starEach es (PySem.W.ksEnv qual scope L f (.ref cda) cc))
    (hpl : ∀ L, (backTo pos (starEach es (PySem.W.ksEnv qual scope L f (.ref cda) cc))).any (·.1) = false) :
    FnOk P w K mg base CX (k + 1) f (PySem.W.ksFn name qual params (.Expr (.Call (.Attribute (.Call (.Name "super" p0) [] [] p1) "__init__" apos) (e :: es) [] pos) epos :: rest) scope dV kV doc pm an (.ref cda) ct cc) ps sp := by
  refine ⟨len, fun A outer s H args us vs Q E hr e0 hb r hsp => ?_⟩
  have hl := len _ _ _ _ hsp
  have KX : K.In s.heap := e0.mod.kin.keeps fun b o e => (e0.bs b o e).1
  have lim : s.heap.NoLimit := e0.mod.nolimit.keeps fun b o e => (e0.bs b o e).1
  obtain ⟨x, C, D, vs', ta, u, rfl, hx, T, hta, hrest, hq⟩ := hbody A outer s H vs Q E (hr.deeper _) hsp
  obtain ⟨cl, cld, csl, hcell⟩ := T.cell
  obtain ⟨ccl, cdd, cvs, ccs, file, tf, hcode, hvs, hfile⟩ := T.code
  obtain ⟨cdD, hD⟩ := T.clD
  refine PySem.ks_codeAny_call_defAt (binds := ps.zip us) hr.depth (KX _ _ lk) rfl lim (PySem.W.codeRec_of KX hcd) rfl hb S.nocell (fun y hy => S.par y.1 (List.of_mem_zip hy).1) (fun h1 hns hk => ?_) S.co S.gen S.kind
  have I : Inv (cxS CX P w K mg base N qual scope f (.ref cda) cc A outer s H E) [] (start N (.ref x :: vs')) H { s with heap := h1, toks := s.toks + (ps.zip us).length } :=
    inv_startS (vs := .ref x :: vs') S hr.hd e0 hl r hcell rfl hns hk
  have hX : K.In h1 := I.kIn
  obtain ⟨t1, ho⟩ := exo_at I.hok hx
  have J : PySem.W.InstAt h1 x { cls := .ref C, dict := none, data := .fields #[.ref t1, .none, .none, .none, .bool false, .none] } C none := ⟨ho, rfl, rfl, trivial⟩
  obtain ⟨oD, hD1, hD2⟩ : ∃ oD, h1.get? D = some oD ∧ oD.data = .cls cdD := by
    unfold PySem.W.clsIn at hD
    split at hD
    · rename_i c d cd' sl ho
      cases hD
      exact ⟨_, hX _ _ ho, rfl⟩
    · cases hD
  refine PySem.ks_wpAt_execs_cons (PySem.ks_wpAt_Expr_any (PySem.ks_wpAt_MethodCall (pl := pl) ?_ (he _)) (hi _) (hsw _))
  refine PySem.ks_wpAt_super_base (env := PySem.W.ksEnv qual scope s.heap.objs.size f (.ref cda) cc) hks hkc (by decide) rfl (hX _ _ lk) rfl hp0 rfl (hX _ _ hcode) rfl hvs hfile T.top ?_
  obtain ⟨mb, hb1, hb2⟩ := I.mod.blt
  refine PySem.W.ks_loadName_global S.kind hks (Calls.loadGlobal_builtin (env := PySem.W.ksEnv qual scope s.heap.objs.size f (.ref cda) cc) (I.mod.glob.keeps I.bk) T.sup (hb1.keeps I.bk) ((hb2 _ (by decide +kernel)).trans (show bootBuiltins "super" = some (.type "super") by first | rfl | kernel_rfl)) ⟨rfl, ?_⟩)
  refine wpAny_loadName_free S.kind hkc (by show List.lookup _ [_] = _; simp [List.lookup]) ⟨_, hX _ _ hcell, rfl⟩ ?_
  have hself : (ps.zip us).reverse.lookup ar.arg = some (.ref x) := by
    match ps, us, hps, r with
    | p :: ps', u' :: us', hp', .cons ru _ =>
      have hp'' : p = ar.arg := by simpa using hp'
      subst hp''
      cases (show u' = Value.ref x from ru)
      have ndP : (ar.arg :: ps').Nodup := by
        have := S.pre
        rw [← this]
        exact S.nd.sublist (List.take_sublist _ _)
      exact rev_lookup (i := 0) ndP rfl rfl
  refine wpAny_loadName_local S.kind har hns hself ?_
  refine PySem.ks_wpAny_isType_cls hD1 hD2 ⟨rfl, ?_⟩
  refine PySem.ks_wpAny_call_super hD1 hD2 J.at_ J.cls (fun c e => nomatch e) (PySem.W.looks_mroIn hX T.sub) (fun h' hso k' => ?_)
  have I1 : Inv (cxS CX P w K mg base N qual scope f (.ref cda) cc A outer s H E) [(h1.objs.size, PySem.W.ks_superObj D x C)] (start N (.ref x :: vs')) H { s with heap := h', toks := s.toks + (ps.zip us).length } :=
    ClX.pin_new (s := { s with heap := h1, toks := s.toks + (ps.zip us).length }) (t' := s.toks + (ps.zip us).length) I k' (Nat.le_refl _) hso (fun v z => nomatch z)
  have hX' : K.In h' := I1.kIn
  have J' : PySem.W.InstAt h' x { cls := .ref C, dict := none, data := .fields #[.ref t1, .none, .none, .none, .bool false, .none] } C none := ⟨k' _ _ ho, rfl, rfl, trivial⟩
  have fnd := T.fnd
  cases hc : PySem.W.clsIn K C with
  | none => unfold PySem.W.ks_superIn at fnd; rw [hc] at fnd; cases fnd
  | some cdC =>
    unfold PySem.W.ks_superIn at fnd
    rw [hc] at fnd
    refine SE.getMethod_superv (h := h') hso (PySem.W.looks_opaque hX' T.any) (l₀ := cdC.mro) ?_ rfl hX' fnd (PySem.W.ks_ne hX J hc) (by decide) (J'.type.andThen (PySem.W.looks_mroIn hX' T.suv)) ?_
    · exact fun A Q E s k q => wpAny_bind ((PySem.W.looks_clsIn hX' hc) A _ E s k (wpAny_pure q))
    · have I2 := ClX.pin_new (s := { s with heap := h', toks := s.toks + (ps.zip us).length }) (o := SE.wv x) (t' := s.toks + (ps.zip us).length + 1) I1 (fun _ _ z => Heap.get?_push_of_some _ z) (Nat.le_refl _) (Heap.get?_push_size h' rfl) (fun v z => nomatch z)
      refine SE.callWith_wv (x := x) (thn (hta.run pos _ _ _ H _ I2 hq) fun us2 s3 ⟨ws, H2, I3, rv, hl2, hx2, q2⟩ => ⟨ClX.pin_at I3, ?_⟩) (hst _) (hpl _)
      obtain ⟨nm, q, N', bs, bm, sn, sub, ab, col, dd, k0, k1, k2, k3, k5, hCo, hbm⟩ := T.oex.cls
      obtain ⟨t2, ho2⟩ := exo_at I3.hok hx2
      have hu2 : s3.heap.get? h'.objs.size = some (SE.wv x) := ClX.pin_at I3
      have kC := I3.kIn
      obtain ⟨hp3, g3, d3, tk3, os3⟩ := s3
      refine SE.call_wv (kC _ _ hCo) ho2 hu2 (by rw [← Paired.length rv, sizeLine_eq]; omega) fun h4 t4 k4 hx4 => ?_
      have I4 := (ClX.unpin (ClX.unpin I3)).write (t' := tk3) (x := x) (e := x) (o := exo x C none) (by rw [hx2]; exact True.intro) (.inl rfl) k4 ⟨_, hx4⟩ (exo_ok hx4)
      have eu : upd H2 x (exo x C none) = H2 := by
        funext b
        by_cases hb : b = x
        · rw [hb, upd_same, hx2]
        · rw [upd_ne hb]
      rw [eu] at I4
      refine wpAt_of_wpAny (wpAny_mono (hrest.run [] _ _ H2 _ I4 q2) (fun fl s' hs => ?_) fun e s' hs => hs)
      have fin : ∀ {σ' : L2.St} {H' : Hp} {v : V} {u : Value}, Inv (cxS CX P w K mg base N qual scope f (.ref cda) cc A outer s H E) [] σ' H' s' → RelV v u → Q v H' → CE outer P w H s Q u s' :=
        fun {σ' H' v u} J rv q => ⟨v, H', J.os, J.bare, J.base, J.hok, rv, q⟩
      cases fl with
      | ret u =>
        obtain ⟨v, σ', H', J, rv, q⟩ := hs
        exact fin J rv q
      | next =>
        obtain ⟨σ', H', J, q⟩ := hs
        exact fin (v := V.non) (u := Value.none) J rfl q
      | brk =>
        obtain ⟨_, _, _, q⟩ := hs
        exact False.elim q
      | cont =>
        obtain ⟨_, _, _, q⟩ := hs
        exact False.elim q
end
end Ls
end
section
set_option Elab.async false
set_option linter.all false
set_option maxRecDepth 100000
set_option maxHeartbeats 4000000
namespace Ls
open PySem PySem.Spec PyProof.Rows L2
structure FnG (P : Program) (w : World) (K : PySem.W.Frag) (mg : Str → Option Value) (base : Heap) (CX : CXT) (k : Nat) (f : Addr) (fd : FuncData) (ps : List Str) (sp : Sp) : Prop where
  len : ∀ vs H Q E, sp vs H Q E → vs.length = ps.length
  run : ∀ (A : Around) (outer : List Env) (s : Shared) (H : Hp) (args : Args) (us : List Value) (vs : List V) (Q : VK) (E : XK), A.guards = some [] → Room k A → Env0 P w K mg base A outer s H → BindsTo s fd args (ps.zip us) → Vals vs us → sp vs H Q E →
    codeAny (model P w) A (.call (.ref f) args) (CR CX outer P w H s Q E) s
section
variable {P : Program} {w : World} {K : PySem.W.Frag} {mg : Str → Option Value} {base : Heap}
theorem FnG.of {CX : CXT} {k : Nat} {f : Addr} {fd : FuncData} {ps : List Str} {sp : Sp} (F : FnOk P w K mg base CX k f fd ps sp) : FnG P w K mg base CX k f fd ps sp := ⟨F.len, fun A outer s H args us vs Q E _ => F.run A outer s H args us vs Q E⟩
theorem okG {x qual : Str} {st : Stmt} {f : Addr} {fd : FuncData} {N ps : List Str} {k : Nat} {sp : Sp} (F : Fun K x qual st f fd) (S : FnScope N ps (defScope st)) (len : ∀ vs H Q E, sp vs H Q E → vs.length = ps.length)
    (hbody : ∀ (cdv : Value) (A : Around) (outer : List Env) (s : Shared) (H : Hp) (vs : List V) (Q : VK) (E : XK), fd.code = cdv → A.guards = some [] → Room k (A.deeper (envOfC qual (defScope st) s.heap.objs.size f cdv)) → sp vs H Q E →
      ∃ t, PSs (cxOf CX0 P w K mg base N qual (defScope st) f cdv A outer s H E).nox (defBody st) t ∧ t { nx := fun _ H' => Q .non H', rt := Q } (start N vs) H) : FnG P w K mg base CX0 (k + 1) f fd ps sp := by
  obtain ⟨oc, od, kV, doc, pm, an, cdv, ct, osl, rfl, lk, hcd⟩ := F.ex
  refine ⟨len, fun A outer s H args us vs Q E hg hr e0 hb r hs => ?_⟩
  refine LamX.run_ofS lk hcd S hr e0 hb r (len _ _ _ _ hs) fun hr' => ?_
  obtain ⟨t, h, q⟩ := hbody cdv A outer s H vs Q E rfl hg hr' hs
  exact ⟨t, h.nox, q⟩
end
section
variable (P : Program) (w : World) (K : PySem.W.Frag) (mg : Str → Option Value) (base : Heap) (CX : CXT) (k : Nat)
structure CalG (x : Str) (sp : Sp) : Prop where
  ex : ∃ f fd ps, mg x = some (.ref f) ∧ PySem.W.keepIn K (.ref f) = true ∧ Binds K fd ps [] ∧ FnG P w K mg base CX k f fd ps sp
end
section
variable {X : Cx} {CX : CXT} {k : Nat} {sp : Sp} {E : XK} {x : Str} {p pos : Pos} {e : PySem.Expr} {es : List PySem.Expr} {t : TA}
theorem pe_calG (hgd : X.A.guards = some []) (c : CalG X.prog X.w X.K X.mg X.base CX k x sp) (hr : Room k X.A) (hg : Gl X x) (hx : Passes CX X E) (ha : PA X (e :: es) t) (hd : (x == ("__debug__" : Str)) = false := by decide)
    (he : starEach (e :: es) X.env = (false, eval e X.env) :: starEach es X.env := by rfl) (hpl : (backTo pos (starEach es X.env)).any (·.1) = false := by rfl) :
    PE X (.Call (.Name x p) (e :: es) [] pos) (tCl sp E t) := by
  obtain ⟨f, fd, ps, hm, hk, hb, F⟩ := c.ex
  refine ⟨fun pins s σ H Q I h => ?_⟩
  refine wpAny_Call_Name_kw (ld_glob I hg hm ?_ hd)
  refine PySem.W.callWith_K (h₀ := X.base) I.ok.mod.kin hk (thn (ha.run pos pins s σ H _ I h) fun us s1 ⟨vs, H1, I1, r, q⟩ => ⟨I1.kIn, ?_⟩) he hpl
  have hl : us.length = ps.length := by
    rw [← r.length]
    exact F.len _ _ _ _ q
  have bd := hb s1 us I1.kIn (by rw [List.append_nil]; exact hl)
  rw [List.append_nil] at bd
  refine wpAny_call (codeAny_mono (F.run X.A X.stack s1 H1 ⟨us, []⟩ us vs Q E hgd hr I1.env0 bd r q) fun res s' hq => ?_)
  match res, hq with
  | .error e, hq => exact hx pins σ H1 s1 e s' I1 hq
  | .ok (.ret u), hq => exact I1.after hq
end
def tabH (T : List Addr) : Hp := fun b => if b ∈ T then some (.tbl #[]) else none
theorem tab_in {T : List Addr} {b : Addr} (h : b ∈ T) : tabH T b = some (.tbl #[]) := if_pos h
theorem tab_out {T : List Addr} {b : Addr} (h : b ∉ T) : tabH T b = none := if_neg h
theorem top_heap {P : Program} {w : World} {K : PySem.W.Frag} {a : Addr} {T : List Addr} {s : Shared} {vs : List Value} {ns : List Int} (KX : K.In s.heap) (hT : ∀ b ∈ T, s.heap.get? b = some { cls := .none, data := .fields #[] })
    (ha : s.heap.get? a = some { cls := .type "list", data := .seq vs.toArray }) (hi : IntsAre vs ns) (hl : ns.length ≤ sizeLine) :
    ∃ H : Hp, (∀ b ∈ T, H b = some (.tbl #[])) ∧ SqL K H a (ns.map V.int) ∧ HOk P w H s.heap ∧
      ∀ b u, H b = some u → (b ∈ T ∧ u = .tbl #[]) ∨ (b = a ∧ K.lookup a = none ∧ ∃ o xs, u = .frz o (.lst xs)) := by
  have rv := vals_ints hi
  have aT : a ∉ T := fun z => by
    have q := hT a z
    rw [ha] at q
    cases congrArg Obj.data (Option.some.inj q)
  cases hk : K.lookup a with
  | some o =>
    have e := KX a o hk
    rw [ha] at e
    cases e
    refine ⟨tabH T, fun b hb => tab_in hb, .inr ⟨_, vs.toArray, _, hk, rfl, rfl, rfl, by rw [List.size_toArray, hi.length]; exact hl, by simpa using rv⟩, fun b u z => ?_, fun b u z => ?_⟩
    · by_cases hb : b ∈ T
      · rw [tab_in hb] at z
        cases z
        exact hT b hb
      · rw [tab_out hb] at z
        cases z
    · by_cases hb : b ∈ T
      · rw [tab_in hb] at z
        exact .inl ⟨hb, (Option.some.inj z).symm⟩
      · rw [tab_out hb] at z
        cases z
  | none =>
    refine ⟨upd (tabH T) a (.frz { cls := .type "list", data := .seq vs.toArray } (.lst (ns.map V.int))), fun b hb => ?_, .inl (.inr ⟨_, upd_same⟩), fun b u z => ?_, fun b u z => ?_⟩
    · have nb : b ≠ a := fun e => aT (by rw [← e]; exact hb)
      rw [upd_ne nb]
      exact tab_in hb
    · by_cases hb : b = a
      · subst hb
        rw [upd_same] at z
        cases z
        exact ⟨ha, by rw [List.length_map]; exact hl, vs, _, rv, ha⟩
      · rw [upd_ne hb] at z
        by_cases hb : b ∈ T
        · rw [tab_in hb] at z
          cases z
          exact hT b hb
        · rw [tab_out hb] at z
          cases z
    · by_cases hb : b = a
      · subst hb
        rw [upd_same] at z
        exact .inr ⟨rfl, rfl, _, _, (Option.some.inj z).symm⟩
      · rw [upd_ne hb] at z
        by_cases hb : b ∈ T
        · rw [tab_in hb] at z
          exact .inl ⟨hb, (Option.some.inj z).symm⟩
        · rw [tab_out hb] at z
          cases z
theorem top_call {P : Program} {w : World} {K : PySem.W.Frag} {mg mb : Str → Option Value} {CX : CXT} {k : Nat} {fa a : Addr} {cs : List (Addr × Addr)} {fd : FuncData} {x : Str} {sp : Sp} {s : Shared} {vs : List Value} {ns : List Int}
    (KX : K.In s.heap) (gl : s.heap.Ns mainGlobals mg) (bl : s.heap.Ns builtinsNs mb) (bb : ∀ x : Str, x ≠ "__name__" → mb x = bootBuiltins x) (nl : s.heap.NoLimit) (gn : s.gens = #[])
    (hT : ∀ p ∈ cs, s.heap.get? p.2 = some { cls := .none, data := .fields #[] }) (nT : ∀ p ∈ cs, K.lookup p.2 = none) (C : ∀ p ∈ cs, PySem.W.CodeHd s.heap p.1 p.2)
    (hbm : ∃ (bm : Addr) (ob : Obj), mg "__builtins__" = some (.ref bm) ∧ bm ≠ builtinsNs ∧ s.heap.get? bm = some ob ∧ ob.cls = .type "module" ∧ ob.dict = some builtinsNs ∧ ob.data = .plain)
    (ha : s.heap.get? a = some { cls := .type "list", data := .seq vs.toArray }) (hi : IntsAre vs ns) (hl : ns.length ≤ sizeLine) (hr : Room k callerA)
    (F : ∀ base : Heap, K.In base → base.Ns mainGlobals mg → (∀ p ∈ cs, LamX.TabB base mg p.1 p.2) → (base.get? sysModules).isSome = true → FnG P w K mg base CX k fa fd [x] sp) (hsy : ∃ mm, s.heap.Ns sysModules mm) (hbind : ∀ (s : Shared) (u : Value), BindsTo s fd ⟨[u], []⟩ [(x, u)])
    (hsp : ∀ H : Hp, (∀ p ∈ cs, H p.2 = some (.tbl #[])) → SqL K H a (ns.map V.int) → sp [.ref a] H (fun v _ => v = .bl true) fun _ _ _ => False)
    (hCX : ∀ H e s', CX [] H s (fun _ _ _ => False) e s' → False) :
    codeAny (model P w) callerA (.call (.ref fa) ⟨[.ref a], []⟩) (fun r s' => r = .ok (.ret (.bool true)) ∧ OldK s.heap s'.heap ∧ s'.os = s.os ∧ AllBare s'.gens) s := by
  have hT' : ∀ b ∈ cs.map (·.2), s.heap.get? b = some { cls := .none, data := .fields #[] } := fun b hb => by
    obtain ⟨p, hp, rfl⟩ := List.mem_map.mp hb
    exact hT p hp
  obtain ⟨H, H1, H2, H3, H4⟩ := top_heap (P := P) (w := w) KX hT' ha hi hl
  have un : ∀ {b : Addr} {o : Obj}, s.heap.get? b = some o → (∀ l n, o.data ≠ .seq l n) → o.data ≠ .fields #[] → H b = none := fun {b o} e n1 n2 => by
    cases q : H b with
    | none => rfl
    | some u =>
      rcases H4 b u q with ⟨hb, _⟩ | ⟨hb, _⟩
      · rw [hT' b hb] at e
        cases e
        exact absurd rfl n2
      · rw [hb, ha] at e
        cases e
        exact absurd rfl (n1 _ _)
  have ns' : ∀ {b : Addr} {m : Str → Option Value}, s.heap.Ns b m → (hidT s.heap H).Ns b m := fun {b m} ⟨o, es, ep, e, d, r⟩ =>
    ⟨o, es, ep, hidT_get e (un e (fun l n z => by rw [d] at z; cases z) fun z => by rw [d] at z; cases z), d, r⟩
  have kb : K.In (hidT s.heap H) := fun b o e => hidT_get (KX b o e) (by
    cases q : H b with
    | none => rfl
    | some u =>
      rcases H4 b u q with ⟨hb, _⟩ | ⟨hb, hn, _⟩
      · obtain ⟨p, hp, rfl⟩ := List.mem_map.mp hb
        rw [nT p hp] at e
        cases e
      · rw [hb, hn] at e
        cases e)
  have TB : ∀ p ∈ cs, LamX.TabB (hidT s.heap H) mg p.1 p.2 := fun p hp => by
    refine ⟨?_, ?_, fun z => ?_⟩
    · obtain ⟨o, us, file, tf, flags, tg, inF, text, tt, e1, r1, r2, r3, rest⟩ := C p hp
      refine ⟨o, us, file, tf, flags, tg, inF, text, tt, hidT_get e1 (un e1 (fun l n z => by rw [r2] at z; cases z) fun z => ?_), r1, r2, r3, rest⟩
      rw [r2] at z
      cases z
      simp at r3
    · obtain ⟨bm, ob, b1, b2, b3, b4, b5, b6⟩ := hbm
      refine ⟨bm, ob, b1, b2, fun q => ?_, fun q => ?_, hidT_get b3 (un b3 (fun l n z => by rw [b6] at z; cases z) fun z => by rw [b6] at z; cases z), b4, b5, b6⟩
      · obtain ⟨o, es, ep, e, d, _⟩ := gl
        rw [q, e] at b3
        cases b3
        rw [d] at b6
        cases b6
      · rw [q, hT p hp] at b3
        cases b3
        cases b6
    · obtain ⟨o, es, ep, e, d, _⟩ := gl
      rw [z, hT p hp] at e
      cases e
      cases d
  have sy : ((hidT s.heap H).get? sysModules).isSome = true := by
    obtain ⟨mm, z⟩ := hsy
    obtain ⟨o, _, _, e, _⟩ := ns' z
    rw [e]
    rfl
  have md : L2.Mod K mg (hidT s.heap H) := ⟨kb, ns' gl, ⟨mb, ns' bl, bb⟩, by
    obtain ⟨mc, z1, z2⟩ := nl
    exact ⟨mc, ns' z1, z2⟩⟩
  have e0 : Env0 P w K mg (hidT s.heap H) callerA [] s H := ⟨rfl, md, fun b o e => of_hidT e, Nat.le_of_eq (hidT_size _ _), trivial, fun b hb => absurd (show b ∈ ([] : List Addr) from hb) (by simp), H3, .of_eq gn⟩
  refine codeAny_mono ((F _ kb (ns' gl) TB sy).run callerA [] s H ⟨[.ref a], []⟩ [.ref a] [.ref a] _ _ rfl hr e0 (hbind s (.ref a)) (.cons rfl .nil) (hsp H (fun p hp => H1 _ (List.mem_map.mpr ⟨p, hp, rfl⟩)) H2)) fun r s' h => ?_
  match r, h with
  | .error e, h => exact (hCX H e s' h).elim
  | .ok (.ret u), h =>
    obtain ⟨v, H', os, bare, U, hok', rv, q⟩ := h
    cases (show v = .bl true from q)
    cases (show u = Value.bool true from rv)
    have stays : ∀ b o, s.heap.get? b = some o → s'.heap.get? b = some o ∨ (b ∈ cs.map (·.2) ∧ ∃ more : Array Value, s'.heap.get? b = some { cls := .none, data := .fields more }) := fun b o e => by
      cases q : H b with
      | none => exact .inl (U.keep b o e q (fun z => absurd (show b ∈ ([] : List Addr) from z) (by simp)) (by simp))
      | some u =>
        rcases H4 b u q with ⟨hb, hu⟩ | ⟨hb, _, ob, xs, hu⟩
        · obtain ⟨more, z⟩ := U.tbls b #[] (by rw [q, hu])
          exact .inr ⟨hb, _, hok' b _ z⟩
        · rw [hu] at q
          obtain ⟨z1, _⟩ := H3 b _ q
          obtain ⟨z2, _⟩ := hok' b _ (U.frzs b ob _ q)
          rw [e] at z1
          cases z1
          exact .inl z2
    refine ⟨rfl, ⟨fun b o e => ?_, fun b o e => ?_⟩, os, bare⟩
    · rcases stays b o e with z | ⟨hb, more, z⟩
      · exact .inl z
      · rw [hT' b hb] at e
        cases e
        obtain ⟨p, hp, rfl⟩ := List.mem_map.mp hb
        exact .inr (.inl ⟨((C p hp).tab (hT p hp)).isCodeTable, rfl, #[], more, rfl, by rw [Array.empty_append]; exact z⟩)
    · rcases stays b o e with z | ⟨hb, more, z⟩
      · exact ⟨o, z⟩
      · exact ⟨_, z⟩
def LawG (l : PySem.W.OpenLaw) (w : World) (K : PySem.W.Frag) (CX : CXT) (k n : Nat) (x : Str) (mg : Str → Option Value) (fa : Addr) (h : Heap) : Prop :=
  ∃ (fd : FuncData) (cs : List (Addr × Addr)) (sp : Sp), (∀ p ∈ cs, h.get? p.2 = some { cls := .none, data := .fields #[] }) ∧ (∀ p ∈ cs, K.lookup p.2 = none) ∧ (∀ p ∈ cs, PySem.W.CodeHd h p.1 p.2) ∧ (∀ (s : Shared) (u : Value), BindsTo s fd ⟨[u], []⟩ [(x, u)]) ∧
    (∀ (H : Hp) (a : Addr) (ns : List Int), ns.length ≤ n → (∀ z ∈ ns, Builtin.Int.intBits z ≤ 1048576) → (∀ p ∈ cs, H p.2 = some (.tbl #[])) → SqL K H a (ns.map V.int) → sp [.ref a] H (fun v _ => v = .bl true) fun _ _ _ => False) ∧
    ∀ base : Heap, K.In base → base.Ns mainGlobals mg → (∀ p ∈ cs, LamX.TabB base mg p.1 p.2) → (base.get? sysModules).isSome = true → FnG l.prog w K mg base CX k fa fd [x] sp
theorem tab_of {q : Program} {loose : List Str} {mean : ExcName → Option Value} {mg mb : Str → Option Value} {h : Heap} {K : PySem.W.Frag} {x : Str} {fx : Addr} (T : Top q loose mean mg mb h) (KX : K.In h) (hx : ((recsOf q).any fun e => e.name == x) = true) (hm : mg x = some (.ref fx)) : LamX.OwnTab K fx h := by
  intro c P o fd e dd vs sl k1 k2 k3 k4 k5
  obtain ⟨r, hr, hn⟩ := List.any_eq_true.mp hx
  obtain ⟨a', o', fd', c', P', h1, h2, h3, h4, h5, ⟨oc, vc, e1, _, e3, e4⟩, hP⟩ := T.tab r hr
  rw [beq_iff_eq.mp hn, hm] at h1
  cases h1
  rw [KX _ _ k1] at h2
  cases h2
  rw [k2] at h3
  cases h3
  rw [k3] at h4
  cases h4
  rw [KX _ _ k4] at e1
  cases e1
  cases e3
  rw [k5] at e4
  cases e4
  exact hP
theorem walk_G {l : PySem.W.OpenLaw} {n k : Nat} {q : Program} {loose : List Str} {XP : (Str → Option Value) → Heap → Prop} {YP : World → Heap → Prop} {d : DefRec} {K : Params → PySem.W.Frag} {CX : World → CXT} {x : Str}
    (hn : l.most = some n) (hn2 : n ≤ sizeLine) (hdf : d.params.defaults = []) (hr : Room k callerA) (him : importsNone q = true) (hY : ∀ (w : World) (h : Heap), YP w h → (K w.params).In h)
    (F : ∀ (w : World) (mg : Str → Option Value) (fa : Addr) (h : Heap), YP w h → (K w.params).In h → h.Ns mainGlobals mg → mg d.name = some (.ref fa) →
      (∀ (x : Str) (fx : Addr), ((recsOf q).any fun e => e.name == x) = true → mg x = some (.ref fx) → LamX.OwnTab (K w.params) fx h) → LawG l w (K w.params) (CX w) k n x mg fa h)
    (hCX : ∀ (w : World) (H : Hp) (s : Shared) (e : Value) (s' : Shared), CX w [] H s (fun _ _ _ => False) e s' → False) :
    PySem.W.WalkO q loose XP YP l.row.toRowW d [] (fun f vs => PySem.call f vs) := by
  refine Att.attach_callB hn hdf fun w s₀ s₁ mg mb fa o pm cd doc a vs ns G Y ho hd hcd hmg hobj hints hlen hbits hg => ?_
  have KX := hY w _ Y
  obtain ⟨fd, cs, sp, hT, nT, C, hb, hsp, hF⟩ := F w mg fa _ Y KX G.T.g hmg fun x fx z1 z2 => tab_of G.T KX z1 z2
  obtain ⟨mm, z, _⟩ := (G.T.seer him).mods
  exact top_call KX G.T.g G.T.b G.T.builtins G.T.nolimit hg hT nT C G.T.bmain hobj hints (Nat.le_trans hlen hn2) hr hF ⟨mm, z⟩ hb (fun H hH hS => hsp H a ns hlen hbits hH hS) fun H e s' => hCX w H s₁ e s'
end Ls
end
section
set_option Elab.async false
set_option linter.all false
set_option maxRecDepth 100000
set_option maxHeartbeats 4000000
namespace Ls
open PySem PySem.Spec PyProof.Rows L2
mutual
inductive TV (H : Hp) : V → PyData → Prop
  | non : TV H .non .none
  | bl (b : Bool) : TV H (.bl b) (.bool b)
  | int (i : Int) : TV H (.int i) (.int i)
  | str (x : Str) : TV H (.str x) (.str x)
  | lst {a : Addr} {xs : List V} {ds : List PyData} (e : H a = some (.lst xs)) (h : TVs H xs ds) : TV H (.ref a) (.list ds)
  | tup {a : Addr} {xs : List V} {ds : List PyData} (e : H a = some (.tup xs)) (h : TVs H xs ds) : TV H (.ref a) (.tuple ds)
  | dct {a : Addr} {kvs : List (Key × V)} {ds : List (PyData × PyData)} (e : H a = some (.dK kvs)) (hk : TVs H (kvs.map fun p => kV p.1) (ds.map (·.1))) (hv : TVs H (kvs.map (·.2)) (ds.map (·.2))) : TV H (.ref a) (.dict ds)
inductive TVs (H : Hp) : List V → List PyData → Prop
  | nil : TVs H [] []
  | cons {v : V} {vs : List V} {d : PyData} {ds : List PyData} (h : TV H v d) (hs : TVs H vs ds) : TVs H (v :: vs) (d :: ds)
end
mutual
theorem TV.ext {H H' : Hp} (e : Ext H H') : ∀ {v : V} {d : PyData}, TV H v d → TV H' v d
  | _, _, .non => .non
  | _, _, .bl b => .bl b
  | _, _, .int i => .int i
  | _, _, .str x => .str x
  | _, _, .lst q h => .lst (e _ _ q) (h.ext e)
  | _, _, .tup q h => .tup (e _ _ q) (h.ext e)
  | _, _, .dct q h1 h2 => .dct (e _ _ q) (h1.ext e) (h2.ext e)
theorem TVs.ext {H H' : Hp} (e : Ext H H') : ∀ {vs : List V} {ds : List PyData}, TVs H vs ds → TVs H' vs ds
  | _, _, .nil => .nil
  | _, _, .cons h hs => .cons (h.ext e) (hs.ext e)
end
section
variable {X : Cx} {pins : List (Addr × Obj)} {σ : L2.St} {H : Hp} {s : Shared}
theorem pairs_keys {P : Program} {w : World} : ∀ {es : List DictEntry} {vs : List (Key × Value)} {kvs : List (Key × V)}, Pairs (mixKind P w) es vs → KV kvs vs → Vals (kvs.map fun p => kV p.1) (es.map (·.key)) ∧ Vals (kvs.map (·.2)) (es.map (·.val))
  | _, _, _, .nil, .nil => ⟨.nil, .nil⟩
  | _, _, _, .cons (kv := kv) h1 h2 h, .cons (a := q) ⟨e1, e2⟩ r => by
    obtain ⟨z1, z2⟩ := pairs_keys h r
    refine ⟨.cons ?_ z1, .cons (by dsimp only; rw [h2]; exact e2) z2⟩
    dsimp only
    rw [e1]
    rcases keyIs_shape h1 with ⟨i, t, ek, ev⟩ | ⟨x, t, ek, ev⟩
    · rw [ek, ev]
      exact ⟨t, rfl⟩
    · rw [ek, ev]
      exact ⟨t, rfl⟩
mutual
theorem reads_of (I : Inv X pins σ H s) (hs : H sysModules = none) : ∀ {v : V} {d : PyData} {u : Value}, TV H v d → RelV v u → ∃ as, Reads s.heap u d as ∧ sysModules ∉ as
  | _, _, _, .non, r => by
    cases r
    exact ⟨[], .none, by simp⟩
  | _, _, _, .bl b, r => by
    cases r
    exact ⟨[], .bool b, by simp⟩
  | _, _, _, .int i, r => by
    obtain ⟨t, rfl⟩ := r
    exact ⟨[], .int i t, by simp⟩
  | _, _, _, .str x, r => by
    obtain ⟨t, rfl⟩ := r
    exact ⟨[], .str x t, by simp⟩
  | .ref a, _, _, .lst e h, r => by
    cases r
    obtain ⟨_, its, n, rv, ho⟩ := (show ObjOk X.prog X.w H s.heap a (.lst _) from I.hok a _ e)
    obtain ⟨as, h1, h2⟩ := readsAll_of I hs h rv
    refine ⟨a :: as, .list ho rfl rfl (by simpa using h1), fun z => ?_⟩
    rcases List.mem_cons.mp z with z | z
    · rw [z, e] at hs
      cases hs
    · exact h2 z
  | .ref a, _, _, .tup e h, r => by
    cases r
    obtain ⟨_, its, rv, o, ho, hc, n, hd⟩ := (show ObjOk X.prog X.w H s.heap a (.tup _) from I.hok a _ e)
    obtain ⟨as, h1, h2⟩ := readsAll_of I hs h rv
    exact ⟨as, .tuple ho hc hd (by simpa using h1), h2⟩
  | .ref a, _, _, .dct e h1 h2, r => by
    cases r
    obtain ⟨_, _, vs, rk, o, es, ep, ho, hx, hd, _, hp, _⟩ := dk_of I.hok e
    obtain ⟨k1, k2⟩ := pairs_keys hp rk
    obtain ⟨as, a1, a2⟩ := readsAll_of I hs h1 k1
    obtain ⟨bs, b1, b2⟩ := readsAll_of I hs h2 k2
    refine ⟨a :: as ++ bs, .dict ho hx.1 hd a1 b1, fun z => ?_⟩
    rcases List.mem_append.mp z with z | z
    · rcases List.mem_cons.mp z with z | z
      · rw [z, e] at hs
        cases hs
      · exact a2 z
    · exact b2 z
theorem readsAll_of (I : Inv X pins σ H s) (hs : H sysModules = none) : ∀ {vs : List V} {ds : List PyData} {us : List Value}, TVs H vs ds → Vals vs us → ∃ as, ReadsAll s.heap us ds as ∧ sysModules ∉ as
  | _, _, _, .nil, .nil => ⟨[], .nil, by simp⟩
  | _, _, _, .cons h t, .cons r rs => by
    obtain ⟨as, a1, a2⟩ := reads_of I hs h r
    obtain ⟨bs, b1, b2⟩ := readsAll_of I hs t rs
    exact ⟨as ++ bs, .cons a1 b1, fun z => (List.mem_append.mp z).elim a2 b2⟩
end
end
def rRepr : List V → Hp → VK → Prop := fun xs H Q => ∃ (v : V) (d : PyData), xs = [v] ∧ TV H v d ∧ d.showable = true ∧ d.depth ≤ 60 ∧ d.shown.length ≤ sizeLine ∧ Q (.str d.shown) H
theorem call_repr {X : Cx} {k : Nat} (hg : X.A.guards = some []) (hr : Room k X.A) (hb : (X.base.get? sysModules).isSome = true) : CallR X (.builtin "repr") rRepr := by
  intro pins s σ H xs us Q I r h
  obtain ⟨v, d, rfl, h, hs, hd, hz, q⟩ := h
  obtain ⟨u, rfl, rv⟩ := vals1 r
  have h0 : H sysModules = none := by
    obtain ⟨o, e⟩ := Option.isSome_iff_exists.mp hb
    exact (I.bs _ _ e).2
  cases h with
  | non =>
    cases rv
    exact PySem.P.repr_of_none ⟨.str _, H, I.tok _, ⟨_, rfl⟩, q⟩
  | bl b =>
    cases rv
    exact PySem.P.repr_of_bool ⟨.str _, H, I.tok _, ⟨_, rfl⟩, q⟩
  | int i =>
    obtain ⟨t, rfl⟩ := rv
    exact PySem.P.repr_of_int (of_decide_eq_true hs) ⟨.str _, H, I.tok _, ⟨_, rfl⟩, q⟩
  | str x =>
    obtain ⟨t, rfl⟩ := rv
    exact PySem.P.repr_of_str ⟨.str _, H, I.tok _, ⟨_, rfl⟩, q⟩ hz
  | lst e h =>
    obtain ⟨as, R, n⟩ := reads_of I h0 (.lst e h) rv
    cases rv
    exact repr_of_reads' R hs (fun _ => n) hg (by have := hr.units; omega) (fun _ _ z => z) (fun h' u tk k => ⟨.str _, H, I.kept (t' := tk) k, ⟨_, rfl⟩, q⟩) hz
  | tup e h =>
    obtain ⟨as, R, n⟩ := reads_of I h0 (.tup e h) rv
    cases rv
    exact repr_of_reads' R hs (fun _ => n) hg (by have := hr.units; omega) (fun _ _ z => z) (fun h' u tk k => ⟨.str _, H, I.kept (t' := tk) k, ⟨_, rfl⟩, q⟩) hz
  | dct e h1 h2 =>
    obtain ⟨as, R, n⟩ := reads_of I h0 (.dct e h1 h2) rv
    cases rv
    exact repr_of_reads' R hs (fun _ => n) hg (by have := hr.units; omega) (fun _ _ z => z) (fun h' u tk k => ⟨.str _, H, I.kept (t' := tk) k, ⟨_, rfl⟩, q⟩) hz
end Ls
end
section
set_option Elab.async false
set_option linter.all false
set_option maxRecDepth 100000
set_option maxHeartbeats 4000000
namespace Ls
open PySem PySem.Spec PyProof.Rows L2 LamX
section
variable {X : Cx} {pins : List (Addr × Obj)} {σ : L2.St} {H : Hp} {s : Shared}
end
section
variable {X : Cx}
end
end Ls
end
section
set_option Elab.async false
set_option linter.all false
set_option maxRecDepth 100000
set_option maxHeartbeats 4000000
namespace Ls
open PySem PySem.Spec PyProof.Rows L2
theorem atI_at {α : Type} {xs : List α} {i : Int} {j : Nat} {v : α} (e : i = (j : Int)) (h : xs[j]? = some v) : atI xs i = some v := by
  rw [e]
  exact atI_nat h
theorem Paired.at_ {α β : Type} {F : α → β → Prop} : ∀ {l₁ : List α} {l₂ : List β} {i : Nat} {a : α}, Paired F l₁ l₂ → l₁[i]? = some a → ∃ b, l₂[i]? = some b ∧ F a b
  | _, _, _, _, .nil, h => by simp at h
  | _, _, 0, _, .cons r _, h => by simp at h; subst h; exact ⟨_, rfl, r⟩
  | _, _, i + 1, a, .cons _ t, h => by
    obtain ⟨b, h1, h2⟩ := Paired.at_ (i := i) (a := a) t (by simpa using h)
    exact ⟨b, by simpa using h1, h2⟩
theorem ext_free {H H' : Hp} (e : Ext H H') {a : Addr} (h : H' a = none) : H a = none := by
  cases q : H a with
  | none => rfl
  | some o => rw [e a o q] at h; cases h
def vis (S : List Addr) (H : Hp) : Hp := fun b => if b ∈ S then none else match H b with | some (.tbl _) => none | o => o
theorem vis_some {S : List Addr} {H : Hp} {b : Addr} {o : HO} (h : vis S H b = some o) : b ∉ S ∧ H b = some o ∧ ∀ ps, o ≠ .tbl ps := by
  unfold vis at h
  by_cases e : b ∈ S
  · rw [if_pos e] at h
    cases h
  · rw [if_neg e] at h
    cases q : H b with
    | none => rw [q] at h; cases h
    | some u =>
      rw [q] at h
      cases u <;> first | (cases h; done) | (cases h; exact ⟨e, rfl, fun ps z => nomatch z⟩)
theorem vis_at {S : List Addr} {H : Hp} {b : Addr} {o : HO} (h : b ∉ S) (q : H b = some o) (n : ∀ ps, o ≠ .tbl ps) : vis S H b = some o := by
  unfold vis
  rw [if_neg h, q]
  cases o <;> first | rfl | exact absurd rfl (n _)
theorem vis_ext {S : List Addr} {H : Hp} : Ext (vis S H) H := fun a o e => (vis_some e).2.1
theorem vis_mono {S : List Addr} {H H' : Hp} (e : Ext H H') : Ext (vis S H) (vis S H') := fun a o h => by
  obtain ⟨h1, h2, h3⟩ := vis_some h
  exact vis_at h1 (e a o h2) h3
theorem vis_extN {S : List Addr} {H H' : Hp} (k : LamX.ExtN H H') : Ext (vis S H) (vis S H') := fun a o e => by
  obtain ⟨h1, h2, h3⟩ := vis_some e
  exact vis_at h1 (k a o h2 h3) h3
def spX (C : Addr) (fs : List Str) : Sp := fun vs H Q _ => ∃ (a : Addr) (ys : List V), vs = .ref a :: ys ∧ ys.length = fs.length ∧ H a = some (exo a C none) ∧
  ∀ (dx : Addr) (H' : Hp), H dx = none → dx ≠ a → H' a = some (exo a C (some dx)) → H' dx = some (exd dx (fs.zip ys).reverse) → (∀ b, b ≠ a → b ≠ dx → H' b = H b) → Q .non H'
section
variable (P : Program) (w : World) (K : PySem.W.Frag) (mg : Str → Option Value) (base : Heap)
structure Xer (C : Addr) (x : Str) (fs : List Str) : Prop where
  m : mg x = some (.ref C)
  oex : OexC K C
  ex : ∃ fI fd ps, PySem.W.findIn K (.ref C) "__init__" = some (some (.ref fI)) ∧ PySem.W.typeIn K (.ref fI) = some (.type "function") ∧ FnOk P w K mg base CX0 1 fI fd ps (spX C fs) ∧ Binds K fd ps []
end
theorem pa_weak {X : Cx} {es : List PySem.Expr} {ta : TA} (h : PA X es ta) : PA X es (fun σ H Q => ∃ Q0 : List V → Hp → Prop, ta σ H Q0 ∧ ∀ ys H1, Q0 ys H1 → Q ys H1) :=
  ⟨fun pos pins s σ H Q I ⟨Q0, h0, k⟩ => thn (h.run pos pins s σ H Q0 I h0) fun us s1 ⟨vs, H1, I1, r, q⟩ => ⟨vs, H1, I1, r, k _ _ q⟩⟩
section
variable {X : Cx} {C : Addr} {x : Str} {fs : List Str} {p pos : Pos} {e : PySem.Expr} {es : List PySem.Expr} {ta : TA}
theorem pmk_err (c : Xer X.prog X.w X.K X.mg X.base C x fs) (hr : Room 2 X.A) (hg : Gl X x) (ha : PA X (e :: es) ta)
    (hdb : (x == ("__debug__" : Str)) = false := by decide) (he : starEach (e :: es) X.env = (false, eval e X.env) :: starEach es X.env := by rfl) (hpl : (backTo pos (starEach es X.env)).any (·.1) = false := by rfl) :
    PMk X (.Call (.Name x p) (e :: es) [] pos) (fun σ H Q => ta σ H fun ys H1 => ys.length = fs.length ∧ ys.length ≤ 1000 ∧ ∀ d, H1 d = none → Q (.ref C) (some d) (upd H1 d (.xd (fs.zip ys).reverse))) := by
  obtain ⟨fI, fd, ps, iC, tI, F, hb⟩ := c.ex
  have h := pmk_oex (dvs := []) (ds := []) (p := p) (pos := pos) c.oex iC tI F hr hb .nil pass0 hg c.m (pa_weak ha) hdb he hpl
  intro pins s σ H Q I hq
  refine h pins s σ H Q I ?_
  refine ⟨_, hq, fun ys H1 ⟨hl, hz, k⟩ => ?_⟩
  refine ⟨hz, fun a na => ⟨a, ys ++ [], by simp, by simpa using hl, upd_same, fun dx H2 n1 n2 h1 h2 h3 => ⟨rfl, dx, _, h1, h2, ?_, ?_⟩⟩⟩
  · rw [upd_ne n2] at n1
    exact n1
  · rw [upd_ne n2] at n1
    have eH : upd (del H2 a) dx (.xd (fs.zip (ys ++ [])).reverse) = upd H1 dx (.xd (fs.zip ys).reverse) := by
      rw [List.append_nil]
      funext b
      by_cases hb : b = dx
      · rw [hb, upd_same, upd_same]
      · rw [upd_ne hb, upd_ne hb]
        by_cases ha : b = a
        · rw [ha, del_same, na]
        · rw [del_ne ha, h3 b ha hb, upd_ne ha]
    rw [eH]
    exact k dx n1
end
section
variable {P : Program} {w : World} {K : PySem.W.Frag} {mg : Str → Option Value} {base : Heap} {N : List Str} {qual : Str} {scope : Scope} {f cc : Addr} {cd : Value} {A : Around} {outer : List Env} {s : Shared} {H : Hp} {E : XK}
theorem tkC : Takes (cxOf (L2.CX P w) P w K mg base N qual scope f cd A outer s H E) (fun cls d _ H => E cls d H) := takes_of rfl rfl rfl rfl
theorem passC : Passes (L2.CX P w) (cxOf (L2.CX P w) P w K mg base N qual scope f cd A outer s H E) E := passes_call tkC fun _ _ _ _ h => h
theorem passN {X : Cx} : Passes (L2.CX P w) X (fun _ _ _ => False) := fun _ _ _ _ _ _ _ h => by
  obtain ⟨_, _, _, _, _, _, _, _, _, _, _, _, z⟩ := h
  exact z.elim
end
def tyN : PyData → String
  | .none => "NoneType"
  | .bool _ => "bool"
  | .int _ => "int"
  | .str _ => "str"
  | .list _ => "list"
  | .tuple _ => "tuple"
  | .dict _ => "dict"
theorem tyX_of {K : PySem.W.Frag} {H : Hp} {v : V} {d : PyData} (h : TV H v d) : TyX K H v (.type (tyN d)) := by
  cases h with
  | non => exact .base .non
  | bl b => exact .base (.bl b)
  | int i => exact .base (.int i)
  | str x => exact .base (.str x)
  | lst e _ => exact .base (.lst e)
  | tup e _ => exact .base (.tup e)
  | dct e _ _ => exact .base (.dK e)
structure FunS (K : PySem.W.Frag) (x qual : Str) (st : Stmt) (f : Addr) (fd : FuncData) (cda cc : Addr) : Prop where
  ex : ∃ (oc : Value) (od : Option Addr) (kV doc pm : Value) (an : Option Addr) (ct : Value) (osl : Array (Option Value)),
    fd = PySem.W.ksFn x qual (defArgs st) (defBody st) (defScope st) .none kV doc pm an (.ref cda) ct cc ∧ K.lookup f = some ⟨oc, od, .func fd, osl⟩ ∧ PySem.W.codeIn K (.ref cda) qual = true
  kp : PySem.W.keepIn K (.ref f) = true
section
variable {J : It} {n : Nat} {G : Hp → Prop} {Y : Nat → Hp → V → Hp → Prop} {g : TG} {te : TE} {vs : List Nat} {σ : L2.St} {H1 : Hp} {D : Addr} {Qd : Hp → Prop}
end
section
variable (P : Program) (w : World) (K : PySem.W.Frag) (mg : Str → Option Value) (base : Heap) (CX : CXT) (k : Nat)
end
section
variable {X : Cx} {CX : CXT} {k : Nat} {C : Addr} {sp : Sp} {E : XK} {m a : Str} {pos apos : Pos} {o : PySem.Expr} {kws : List Keyword} {ta : TE} {tk : TA} {pl : Sem Bool}
end
mutual
theorem tv_vis {H : Hp} : ∀ {v : V} {d : PyData}, TV H v d → TV (vis [] H) v d
  | _, _, .non => .non
  | _, _, .bl b => .bl b
  | _, _, .int i => .int i
  | _, _, .str x => .str x
  | _, _, .lst q h => .lst (vis_at (by simp) q fun _ z => by cases z) (tvs_vis h)
  | _, _, .tup q h => .tup (vis_at (by simp) q fun _ z => by cases z) (tvs_vis h)
  | _, _, .dct q h1 h2 => .dct (vis_at (by simp) q fun _ z => by cases z) (tvs_vis h1) (tvs_vis h2)
theorem tvs_vis {H : Hp} : ∀ {vs : List V} {ds : List PyData}, TVs H vs ds → TVs (vis [] H) vs ds
  | _, _, .nil => .nil
  | _, _, .cons h hs => .cons (tv_vis h) (tvs_vis hs)
end
end Ls
end
section
set_option Elab.async false
set_option linter.all false
set_option maxRecDepth 100000
set_option maxHeartbeats 4000000
namespace Ls
open PySem PySem.Spec PyProof.Rows L2
namespace OW
open PySem.W
section
variable {prog : Program} {w : World} {A : Around} {E : Value → Shared → Prop} {s : Shared} {K : Frag} {x C f : Addr} {ox : Obj} {od : Option Obj} {b tb : Value}
theorem ifBound_B {M : Model} {id : String} {name : Str} {args : List Value} {Q : Option Value → Shared → Prop} (X : K.In s.heap) (I : InstAt s.heap x ox C od) (hs : findIn K (.ref C) name = some (some (.builtin id))) (hb : bindSpecial (.builtin id) (.ref x) = pure (.builtin id, [.ref x]))
    (h : wpAny M A (call (.builtin id) (.ref x :: args)) (fun v => Q (some v)) E s) : wpAny M A (callSpecialIfBound? (.ref x) name args) Q E s := by
  simp only [callSpecialIfBound?, bindSpecialIfBound?]
  refine wpAny_holding (wpAny_bind (wpAny_bind (wpAny_bind (I.type.here ((looks_findIn X hs).here ?_)))))
  refine wpAny_bind (wpAny_askSetting (wpAny_ite ?_))
  have last : wpAny M A (call (.builtin id) ([.ref x] ++ args) >>= fun v => pure (some v)) Q E s := wpAny_bind (wpAny_mono h (fun v s' h' => wpAny_pure h') fun _ _ h' => h')
  split
  · exact wpAny_bind (wpAny_of_eq hb (wpAny_pure (by exact last)))
  · exact wpAny_tryCatch (wpAny_bind (wpAny_of_eq hb (wpAny_pure (by exact last))))
theorem ne_body {Q : Fin → Shared → Prop} (hu : A.units < cLine) (X : K.In s.heap) (I : InstAt s.heap x ox C od) (hs : findIn K (.ref C) "__eq__" = some (some (.ref f))) (hf : isFn K (.ref f) = true)
    (h : wpAny (model prog w) A (call (.ref f) [.ref x, b]) (fun v s' => ∃ r, v = .bool r ∧ Q (.done (.ret (.bool (!r)))) s') E s) : wpAny (model prog w) A (Builtin.«object.__ne__» ⟨[.ref x, b], []⟩) Q E s := by
  unfold Builtin.«object.__ne__»
  refine wpAny_bind (wpAny_of_eq (a := ((Value.ref x : Value), [b])) (by first | rfl | (simp only [slotArgs]; rfl)) ?_)
  refine wpAny_bind (wpAny_cRoomFor hu ?_)
  refine wpAny_bind (ifBound_K X I hs hf (wpAny_mono h (fun v s' hv => ?_) fun _ _ e => e))
  obtain ⟨r, rfl, q⟩ := hv
  exact wpAny_bind (wpAny_truthy_bool (wpAny_pure q))
theorem rich_ne {L : Addr} {h₀ : Heap} {m : Str → Option Value} {Q : Value → Shared → Prop} (hu : A.units + 1 < cLine) (F : Fr h₀ L s.heap m) (X₀ : K.In h₀) (I : InstAt s.heap x ox C od) (ht : Looks (model prog w) s.heap (typeOf b) tb) (hn : notFirst K C tb = true)
    (hs : findIn K (.ref C) "__eq__" = some (some (.ref f))) (hf : isFn K (.ref f) = true) (hne : findIn K (.ref C) "__ne__" = some (some (.builtin "object.__ne__"))) (hm : mroIn K C (.type "object") = some true)
    (h : wpAny (model prog w) A.in1 (call (.ref f) [.ref x, b]) (fun v s' => ∃ r, v = .bool r ∧ Q (.bool (!r)) s') E s) : wpAny (model prog w) A (richCompare .NotEq (.ref x) b) Q E s := by
  have X := X₀.keeps F.keep
  have sub : Looks (model prog w) s.heap (isInstance (.ref x) (.type "object")) true := I.type.andThen (looks_mroIn X hm)
  have bd : bindSpecial (.builtin "object.__ne__") (.ref x) = pure (.builtin "object.__ne__", [.ref x]) := PySem.F.cmp_object.ne.bind _
  have one : wpAny (model prog w) A (tryCompare (.ref x) "__ne__" b) (fun r s' => ∃ v, r = some (.bool v) ∧ Q (.bool v) s') E s := by
    unfold tryCompare
    refine wpAny_bind (ifBound_B X I hne bd ?_)
    obtain ⟨hp, g, d, t, os⟩ := s
    refine wpAny_call (codeAny_call_builtin PySem.F.cmp_object.ne.plain PySem.F.cmpEntry_ne (@check_slot (model prog w) _ _ ⟨hp, g, d, t, os⟩ "object.__ne__" "object" "__ne__" (.ref x) [b] [] _ PySem.F.cmpKind_ne PySem.F.cmpSplit_ne sub (PySem.F.cmpArgs_ne _ _) ?_))
    refine ne_body (A := A.in1) hu X I hs hf (wpAny_mono h (fun v s' hv => ?_) fun _ _ e => e)
    obtain ⟨r, rfl, q⟩ := hv
    exact ⟨r, rfl, wpAny_pure ⟨_, rfl, q⟩⟩
  unfold richCompare
  simp only [oneThing_ref]
  refine wpAny_holding (wpAny_bind (wpAny_cRoomFor (by omega) (wpAny_bind (I.type.here (wpAny_bind (ht.here ?_))))))
  split
  · rename_i q
    have e : subIn K tb (.ref C) = some false := by
      rcases Bool.or_eq_true_iff.mp hn with e | e
      · rw [beq_iff_eq.mp e] at q
        simp at q
      · exact beq_iff_eq.mp e
    refine wpAny_bind ((looks_subIn X e).here ?_)
    simp only [Bool.false_eq_true, if_false]
    refine wpAny_bind (wpAny_mono one (fun r s' z => ?_) fun _ _ e => e)
    obtain ⟨v, rfl, hq⟩ := z
    exact wpAny_pure hq
  · refine wpAny_bind (wpAny_pure ?_)
    simp only [Bool.false_eq_true, if_false]
    refine wpAny_bind (wpAny_mono one (fun r s' z => ?_) fun _ _ e => e)
    obtain ⟨v, rfl, hq⟩ := z
    exact wpAny_pure hq
end
end OW
def rEqO (K : PySem.W.Frag) (f : Addr) (sp : Sp) (E : XK) : R2 := fun x y H Q => ∃ (a C dx : Addr) (fs : List (Str × V)) (tb : Value), x = .ref a ∧ H a = some (.ins C dx fs) ∧ PySem.W.findIn K (.ref C) "__eq__" = some (some (.ref f)) ∧ TyX K H y tb ∧ PySem.W.notFirst K C tb = true ∧
  sp [x, y] H (fun v H' => ∃ r, v = .bl r ∧ Q (.bl r) H') E
def rNeO (K : PySem.W.Frag) (f : Addr) (sp : Sp) (E : XK) : R2 := fun x y H Q => ∃ (a C dx : Addr) (fs : List (Str × V)) (tb : Value), x = .ref a ∧ H a = some (.ins C dx fs) ∧ PySem.W.findIn K (.ref C) "__eq__" = some (some (.ref f)) ∧ PySem.W.findIn K (.ref C) "__ne__" = some (some (.builtin "object.__ne__")) ∧ PySem.W.mroIn K C (.type "object") = some true ∧
  TyX K H y tb ∧ PySem.W.notFirst K C tb = true ∧ sp [x, y] H (fun v H' => ∃ r, v = .bl r ∧ Q (.bl (!r)) H') E
section
variable {X : Cx} {CX : CXT} {n : Nat} {f : Addr} {sp : Sp} {E : XK}
theorem op_eqO (F : FnR X.prog X.w X.K X.mg X.base CX n f sp) (hf : PySem.W.isFn X.K (.ref f) = true) (hr : Room n X.A) (hx : Passes CX X E) : OpR X (compareOp .Eq) (rEqO X.K f sp E) := by
  intro pins s σ H x y v u Q I rx ry h
  obtain ⟨a, C, dx, fs, tb, rfl, ha, hs, ty, hn, q⟩ := h
  cases (show v = Value.ref a from rx)
  obtain ⟨mA, J, _⟩ := ins_get I.hok ha
  obtain ⟨od, J, _⟩ := J.look
  obtain ⟨m, hF⟩ := I.fr
  obtain ⟨P, Z, p, _⟩ := kit_of I ry ty
  show wpAny (model X.prog X.w) X.A (richCompare .Eq (.ref a) u) (EP X pins σ Q) X.xe s
  refine PySem.W.cmp_K (op := .Eq) hr.units0 hF I.ok.mod.kin J (Z.ty _ _ I.kIn p) hn hs hf ?_
  have r2 : Vals [V.ref a, y] [Value.ref a, u] := .cons rfl (.cons ry .nil)
  refine thn (wpAny_call (run_fnR F hr hx I r2 q)) fun w' s' ⟨z, H', I', rz, r, ez, q'⟩ => ?_
  subst ez
  cases rz
  exact ⟨.bl r, H', I', rfl, q'⟩
theorem op_neO (F : FnR X.prog X.w X.K X.mg X.base CX n f sp) (hf : PySem.W.isFn X.K (.ref f) = true) (hr : Room (n + 1) X.A) (hx : ∀ (pins : List (Addr × Obj)) (σ : L2.St) (H : Hp) (s : Shared) (e : Value) (s' : Shared), Inv X pins σ H s → CX X.stack H s E e s' → X.xe e s') : OpR X (compareOp .NotEq) (rNeO X.K f sp E) := by
  intro pins s σ H x y v u Q I rx ry h
  obtain ⟨a, C, dx, fs, tb, rfl, ha, hs, hne, hm, ty, hn, q⟩ := h
  cases (show v = Value.ref a from rx)
  obtain ⟨mA, J, _⟩ := ins_get I.hok ha
  obtain ⟨od, J, _⟩ := J.look
  obtain ⟨m, hF⟩ := I.fr
  obtain ⟨P, Z, p, _⟩ := kit_of I ry ty
  show wpAny (model X.prog X.w) X.A (richCompare .NotEq (.ref a) u) (EP X pins σ Q) X.xe s
  refine OW.rich_ne (by have := hr.units; omega) hF I.ok.mod.kin J (Z.ty _ _ I.kIn p) hn hs hf hne hm ?_
  refine wpAny_call (codeAny_mono (F X.A.in1 X.stack s H [.ref a, u] [.ref a, y] _ E hr.in1 I.env0.in1 (.cons rfl (.cons ry .nil)) q) fun r s' hq => ?_)
  match r, hq with
  | .error e, hq => exact hx pins σ H s e s' I hq
  | .ok (.ret w'), hq =>
    obtain ⟨z, H', I', rz, r, ez, q'⟩ := I.after hq
    subst ez
    cases rz
    exact ⟨r, rfl, .bl (!r), H', I', rfl, q'⟩
end
section
variable {X : Cx} {P : Program} {w : World} {K : PySem.W.Frag} {mg : Str → Option Value} {base : Heap} {CX : CXT} {n : Nat} {f : Addr} {sp : Sp} {E : XK} {A : Around}
theorem op_eqOK (F : FnR P w K mg base CX n f sp) (hf : PySem.W.isFn K (.ref f) = true) (hr : Room n A) (hP : X.prog = P) (hw : X.w = w) (hK : X.K = K) (hmg : X.mg = mg) (hb : X.base = base) (hA : X.A = A) (hx : Passes CX X E) : OpR X (compareOp .Eq) (rEqO K f sp E) := by
  subst hP hw hK hmg hb hA
  exact op_eqO F hf hr hx
theorem ix_listK (hK : X.K = K) : IxR X (rIxL K) := by
  subst hK
  exact ix_list
end
end Ls
end
section
set_option Elab.async false
set_option linter.all false
set_option maxRecDepth 100000
set_option maxHeartbeats 4000000
namespace Ls
open PySem PySem.Spec PyProof.Rows L2
open TL
section
variable {x y : Str} {s : Nat}
end
def OkS (n : Nat) (z : Str) : Prop := z.length ≤ n ∧ ∀ c ∈ tl z, c < 256
theorem OkS.mono {n m : Nat} {z : Str} (h : OkS n z) (l : n ≤ m) : OkS m z := ⟨Nat.le_trans h.1 l, h.2⟩
theorem OkS.append {n m : Nat} {a b : Str} (h : OkS n a) (k : OkS m b) : OkS (n + m) (a ++ b) := ⟨by
  rw [Str.length_append]
  exact Nat.add_le_add h.1 k.1, fun c hc => by
  rw [tl_append] at hc
  rcases List.mem_append.mp hc with hc | hc
  · exact h.2 c hc
  · exact k.2 c hc⟩
structure Shw (n : Nat) (d : PyData) : Prop where
  sh : d.showable = true
  dp : d.depth ≤ 20
  ln : d.shown.length ≤ n
theorem Shw.str {n : Nat} {z : Str} (h : OkS n z) : Shw (10 * n + 2) (.str z) := ⟨rfl, Nat.zero_le _, by
  have := StrLaws.reprText_len z fun c hc => Nat.lt_trans (h.2 c hc) (by decide)
  show (reprText z).length ≤ _
  have := h.1
  omega⟩
theorem Shw.mono {n m : Nat} {d : PyData} (h : Shw n d) (l : n ≤ m) : Shw m d := ⟨h.sh, h.dp, Nat.le_trans h.ln l⟩
theorem Shw.tup2 {n m : Nat} {a b : PyData} (ha : Shw n a) (hb : Shw m b) (hd : a.depth < 20) (hd2 : b.depth < 20) : Shw (n + m + 7) (.tuple [a, b]) := ⟨by
  show (a.showable && (b.showable && true)) = true
  rw [ha.sh, hb.sh]
  rfl, by
  show max a.depth (max b.depth 0) + 1 ≤ 20
  omega, by
  have := tupleText_len_le [a.shown, b.shown]
  have := ha.ln
  have := hb.ln
  show (tupleText [a.shown, b.shown]).length ≤ _
  simp at *
  omega⟩
theorem TVs.len {H : Hp} : ∀ {xs : List V} {ds : List PyData}, TVs H xs ds → xs.length = ds.length
  | _, _, .nil => rfl
  | _, _, .cons _ t => by simp [TVs.len t]
theorem TVs.at_ {H : Hp} : ∀ {xs : List V} {ds : List PyData} {i : Nat} {v : V}, TVs H xs ds → xs[i]? = some v → ∃ d, ds[i]? = some d ∧ TV H v d
  | _, _, _, _, .nil, h => by simp at h
  | _, _, 0, _, .cons r _, h => by simp at h; subst h; exact ⟨_, rfl, r⟩
  | _, _, i + 1, v, .cons _ t, h => by
    obtain ⟨d, h1, h2⟩ := TVs.at_ (i := i) (v := v) t (by simpa using h)
    exact ⟨d, by simpa using h1, h2⟩
end Ls
end
section
set_option Elab.async false
set_option linter.all false
set_option maxRecDepth 100000
set_option maxHeartbeats 4000000
namespace Ls
open PySem PySem.Spec PyProof.Rows L2
open TL
end Ls
end
section
set_option Elab.async false
set_option linter.all false
set_option maxRecDepth 100000
set_option maxHeartbeats 4000000
namespace Ls
open PySem PySem.Spec PyProof.Rows L2
section
variable {X : Cx} {CX : CXT} {k : Nat} {C : Addr} {m x : Str} {sp : Sp} {E : XK} {o e : PySem.Expr} {es : List PySem.Expr} {ta te : TE} {t : TA} {p apos pos sp_ : Pos} {pl : Sem Bool}
end
section
variable {P : Program} {w : World} {K : PySem.W.Frag} {mg : Str → Option Value} {base : Heap}
end
end Ls
namespace Ls
open PySem PySem.Spec PyProof.Rows L2
section
variable {X : Cx} {K : PySem.W.Frag} {o e : PySem.Expr} {to : TE} {t : TA} {apos cpos : Pos}
end
end Ls
end
section
set_option Elab.async false
set_option linter.all false
set_option maxRecDepth 100000
set_option maxHeartbeats 4000000
namespace Ls
open PySem PySem.Spec PyProof.Rows L2
structure Prp (P : Program) (w : World) (K : PySem.W.Frag) (mg : Str → Option Value) (base : Heap) (CX : CXT) (k : Nat) (S : Addr → Prop) (f : Str) (sp : Sp) : Prop where
  ex : ∃ (p g : Addr) (fd : FuncData), (∀ C, S C → Cls K C ∧ PropOf K C f p g) ∧ FnOk P w K mg base CX k g fd ["self"] sp ∧ Binds K fd ["self"] []
def tPrp (S : Addr → Prop) (sp : Sp) (E : XK) (ta : TE) : TE := fun σ H Q => ta σ H fun x H1 => ∃ a C dx fs, x = .ref a ∧ H1 a = some (.ins C dx fs) ∧ S C ∧ sp [.ref a] H1 Q E
section
variable {X : Cx} {CX : CXT} {k : Nat} {S : Addr → Prop} {f : Str} {sp : Sp} {E : XK} {e : PySem.Expr} {pos : Pos} {ta : TE}
theorem pe_prp (c : Prp X.prog X.w X.K X.mg X.base CX k S f sp) (hr : Room (k + 1) X.A) (hx : Passes CX X.nox E) (he : PE X e ta) (hab : attributeBase e f X.env (eval e X.env) = eval e X.env := by rfl) : PE X (.Attribute e f pos) (tPrp S sp E ta) := by
  obtain ⟨p, g, fd, hc, F, hb⟩ := c.ex
  refine ⟨fun pins s σ H Q I h => ?_⟩
  refine attr_of hab (thn (he.run pins s σ H _ I h) fun u s1 ⟨x, H1, I1, rx, a, C, dx, fs, ex, ea, hS, q⟩ => ?_)
  subst ex
  obtain rfl : u = Value.ref a := rx
  exact getprop_ok I1 ea (hc C hS).1 (hc C hS).2 F hr hb .nil hx q
end
section
variable {X : Cx} {K : PySem.W.Frag} {o e : PySem.Expr} {to : TE} {t : TA} {apos cpos : Pos}
end
end Ls
end
section
set_option Elab.async false
set_option linter.all false
set_option maxRecDepth 100000
set_option maxHeartbeats 4000000
namespace Ls
open PySem PySem.Spec PyProof.Rows L2 TL
theorem show_all : ∀ {ds : List PyData}, (∀ d ∈ ds, d.showable = true) → PyData.showableAll ds = true
  | [], _ => rfl
  | d :: r, h => by
    show (d.showable && PyData.showableAll r) = true
    rw [h d (by simp), show_all fun x hx => h x (List.mem_cons_of_mem _ hx)]
    rfl
theorem depth_all {k : Nat} : ∀ {ds : List PyData}, (∀ d ∈ ds, d.depth ≤ k) → PyData.depthAll ds ≤ k
  | [], _ => Nat.zero_le _
  | d :: r, h => by
    show max d.depth (PyData.depthAll r) ≤ k
    have h1 := h d (by simp)
    have h2 := depth_all (ds := r) fun x hx => h x (List.mem_cons_of_mem _ hx)
    omega
theorem shown_all {n : Nat} : ∀ {ds : List PyData}, (∀ d ∈ ds, d.shown.length ≤ n) → ((PyData.shownAll ds).map (·.length)).sum ≤ ds.length * n ∧ (PyData.shownAll ds).length = ds.length
  | [], _ => ⟨Nat.zero_le _, rfl⟩
  | d :: r, h => by
    obtain ⟨h1, h2⟩ := shown_all (ds := r) fun x hx => h x (List.mem_cons_of_mem _ hx)
    have h0 := h d (by simp)
    show ((d.shown :: PyData.shownAll r).map (·.length)).sum ≤ (r.length + 1) * n ∧ (PyData.shownAll r).length + 1 = r.length + 1
    rw [List.map_cons, List.sum_cons, Nat.add_mul, Nat.one_mul, h2]
    exact ⟨by omega, rfl⟩
theorem Shw.listN {n k : Nat} {ds : List PyData} (h : ∀ d ∈ ds, Shw n d) (hd : ∀ d ∈ ds, d.depth ≤ k) (hk : k < 20) : Shw (ds.length * n + 2 * ds.length + 3) (.list ds) := ⟨show_all fun d hx => (h d hx).sh, by
  have := depth_all hd
  show PyData.depthAll ds + 1 ≤ 20
  omega, by
  obtain ⟨h1, h2⟩ := shown_all fun d hx => (h d hx).ln
  have := listText_len_le (PyData.shownAll ds)
  show (listText (PyData.shownAll ds)).length ≤ _
  omega⟩
theorem Shw.tupN {n k : Nat} {ds : List PyData} (h : ∀ d ∈ ds, Shw n d) (hd : ∀ d ∈ ds, d.depth ≤ k) (hk : k < 20) : Shw (ds.length * n + 2 * ds.length + 3) (.tuple ds) := ⟨show_all fun d hx => (h d hx).sh, by
  have := depth_all hd
  show PyData.depthAll ds + 1 ≤ 20
  omega, by
  obtain ⟨h1, h2⟩ := shown_all fun d hx => (h d hx).ln
  have := tupleText_len_le (PyData.shownAll ds)
  show (tupleText (PyData.shownAll ds)).length ≤ _
  omega⟩
theorem depth_tup {k : Nat} {ds : List PyData} (h : ∀ d ∈ ds, d.depth ≤ k) : (PyData.tuple ds).depth ≤ k + 1 := by
  have := depth_all h
  show PyData.depthAll ds + 1 ≤ k + 1
  omega
end Ls
end
section
set_option Elab.async false
set_option linter.all false
set_option maxRecDepth 100000
set_option maxHeartbeats 4000000
namespace Ls
open PySem PySem.Spec PyProof.Rows L2 TL
end Ls
end
section
set_option Elab.async false
set_option linter.all false
set_option maxRecDepth 100000
set_option maxHeartbeats 4000000
namespace Ls
open PySem PySem.Spec PyProof.Rows L2 TL
theorem Shw.int10 {a : Int} {k : Nat} (hk : 0 < k) (h : a.natAbs < 10 ^ k) (h2 : k ≤ 450) : Shw (k + 1) (.int a) := ⟨by
  show decide (a.natAbs.log2 < 1920) = true
  refine decide_eq_true ?_
  by_cases e : a.natAbs = 0
  · rw [e]
    decide
  · rw [Nat.log2_lt e]
    refine Nat.lt_trans h (Nat.lt_of_le_of_lt (Nat.pow_le_pow_right (by decide) h2) ?_)
    decide +kernel, Nat.zero_le _, by
  show (Str.ofString (toString a)).length ≤ _
  rw [PySem.ofString_length]
  exact int_text_length_le10 hk h⟩
end Ls
end
section
set_option Elab.async false
set_option linter.all false
set_option maxRecDepth 100000
set_option maxHeartbeats 4000000
namespace Ls
open PySem PySem.Spec PyProof.Rows L2
section
variable {X : Cx} {CX : CXT} {k : Nat} {C : Addr} {sp : Sp} {E : XK} {x a : Str} {p pos : Pos} {kws : List Keyword} {tk : TA}
end
end Ls
end
section
set_option Elab.async false
set_option linter.all false
set_option maxRecDepth 100000
set_option maxHeartbeats 4000000
namespace PySem
open Sem (wp)
section
variable {prog : Program} {w : World} {A : Around} {E : Value → Shared → Prop} {s : Shared}
end
end PySem
namespace Ls
open PySem PySem.Spec PyProof.Rows L2
end Ls
end
section
set_option Elab.async false
set_option linter.all false
set_option maxRecDepth 100000
set_option maxHeartbeats 4000000
namespace Ls
open PySem PySem.Spec PyProof.Rows L2 LamX
section
variable {X : Cx} {pins : List (Addr × Obj)} {σ : L2.St} {H : Hp} {s : Shared}
end
end Ls
end
section
set_option Elab.async false
set_option autoImplicit false
set_option linter.all false
set_option maxRecDepth 100000
set_option maxHeartbeats 4000000
namespace Ls
open PySem PySem.Spec PyProof.Rows L2
theorem sIx_pos {n d : Nat} {i : Int} (h : 0 ≤ i) : HT.sIx n d (some i) = min i.toNat n := by
  show (if i < 0 then (i + (n : Int)).toNat else min i.toNat n) = _
  rw [if_neg (by omega)]
theorem cutV_to (xs : List V) {i : Int} (h : 0 ≤ i) : cutV xs none (some i) = xs.take i.toNat := by
  unfold cutV
  rw [sIx_pos h, HT.sIx_none, List.drop_zero, Nat.sub_zero]
  rcases Nat.le_total i.toNat xs.length with h1 | h1
  · rw [Nat.min_eq_left h1]
  · rw [Nat.min_eq_right h1, List.take_of_length_le (Nat.le_refl _), List.take_of_length_le h1]
theorem cutV_from (xs : List V) {i : Int} (h : 0 ≤ i) : cutV xs (some i) none = xs.drop i.toNat := by
  unfold cutV
  rw [sIx_pos h, HT.sIx_none]
  rcases Nat.le_total i.toNat xs.length with h1 | h1
  · rw [Nat.min_eq_left h1]
    exact List.take_of_length_le (by rw [List.length_drop]; omega)
  · rw [Nat.min_eq_right h1, List.drop_of_length_le (Nat.le_refl _), List.drop_of_length_le h1]
    simp
end Ls
end
section
set_option Elab.async false
set_option autoImplicit false
set_option linter.all false
set_option maxRecDepth 100000
set_option maxHeartbeats 4000000
namespace Ls
open PySem PySem.Spec PyProof.Rows L2
theorem TVs.app {H : Hp} : ∀ {xs ys : List V} {ds es : List PyData}, TVs H xs ds → TVs H ys es → TVs H (xs ++ ys) (ds ++ es)
  | _, _, _, _, .nil, k => k
  | _, _, _, _, .cons h hs, k => .cons h (TVs.app hs k)
theorem TVs.from {H : Hp} : ∀ {xs : List V} {ds : List PyData} (i : Nat), TVs H xs ds → TVs H (xs.drop i) (ds.drop i)
  | _, _, _, .nil => by simp only [List.drop_nil]; exact .nil
  | _, _, 0, .cons h hs => .cons h hs
  | _, _, i + 1, .cons h hs => TVs.from i hs
theorem TVs.mem {H : Hp} : ∀ {xs : List V} {ds : List PyData} {v : V}, TVs H xs ds → v ∈ xs → ∃ d, d ∈ ds ∧ TV H v d
  | _, _, _, .nil, h => by cases h
  | _, _, v, .cons (d := d) h hs, hm => by
    rcases List.mem_cons.mp hm with rfl | hm
    · exact ⟨d, by simp, h⟩
    · obtain ⟨d', h1, h2⟩ := TVs.mem hs hm
      exact ⟨d', by simp [h1], h2⟩
end Ls
end
section
set_option Elab.async false
set_option autoImplicit false
set_option linter.all false
set_option maxRecDepth 100000
set_option maxHeartbeats 4000000
namespace RowM
def Per (f : Nat → Int) (s p : Nat) (d : Int) : Prop := ∀ n, s ≤ n → f (n + p) = f n + d
structure EQ (f : Nat → Int) (s p : Nat) (d : Int) : Prop where
  pos : 1 ≤ p
  per : Per f s p d
section
variable {f g : Nat → Int} {s t p q : Nat} {d e : Int}
theorem Per.mul (h : Per f s p d) (k : Nat) : ∀ n, s ≤ n → f (n + k * p) = f n + k * d := by
  induction k with
  | zero => intro n _; simp
  | succ k ih =>
    intro n hn
    rw [Nat.succ_mul, ← Nat.add_assoc, h (n + k * p) (by omega), ih n hn]
    push_cast
    rw [Int.add_mul]
    omega
theorem Per.up (h : Per f s p d) (hs : s ≤ t) : Per f t p d := fun n hn => h n (by omega)
theorem EQ.up (h : EQ f s p d) (hs : s ≤ t) : EQ f t p d := ⟨h.pos, h.per.up hs⟩
theorem EQ.times (h : EQ f s p d) {k : Nat} (hk : 1 ≤ k) : EQ f s (k * p) (k * d) := ⟨Nat.le_trans h.pos (Nat.le_mul_of_pos_left p hk), h.per.mul k⟩
theorem Per.down {a b : Nat} (h : EQ f a p d) (g : Per f b q e) : Per f a q e := fun n hn => by
  have hb : b ≤ n + b * p := by
    have := Nat.le_mul_of_pos_right b h.pos
    omega
  have h1 := h.per.mul b (n + q) (by omega)
  have h2 := h.per.mul b n hn
  have h3 := g (n + b * p) hb
  rw [show n + q + b * p = n + b * p + q by omega] at h1
  omega
theorem EQ.down {a b : Nat} (h : EQ f a p d) (g : EQ f b q e) : EQ f a q e := ⟨g.pos, Per.down h g.per⟩
theorem EQ.ratio {a b : Nat} (h : EQ f a p d) (g : EQ f b q e) : (q : Int) * d = p * e := by
  have h1 := h.per.mul q (a + b) (by omega)
  have h2 := g.per.mul p (a + b) (by omega)
  rw [Nat.mul_comm q p] at h1
  omega
theorem Per.mod (h : Per f s p d) (g : Per f s q e) : Per f s (q % p) (e - (q / p : Nat) * d) := fun n hn => by
  have h1 := h.mul (q / p) (n + q % p) (by omega)
  have h2 := g n hn
  have h3 : n + q % p + q / p * p = n + q := by
    have := Nat.mod_add_div' q p
    omega
  rw [h3] at h1
  omega
theorem Per.gcd : ∀ (p q : Nat) {d e : Int}, Per f s p d → Per f s q e → ∃ c, Per f s (Nat.gcd p q) c := by
  intro p q
  induction p, q using Nat.gcd.induction with
  | H0 n => intro d e h g; rw [Nat.gcd_zero_left]; exact ⟨e, g⟩
  | H1 m n hm ih =>
    intro d e h g
    rw [Nat.gcd_rec]
    exact ih (h.mod g) h
theorem EQ.gcd (h : EQ f s p d) (g : EQ f s q e) : ∃ c, EQ f s (Nat.gcd p q) c := by
  obtain ⟨c, hc⟩ := Per.gcd p q h.per g.per
  exact ⟨c, Nat.gcd_pos_of_pos_left q h.pos, hc⟩
theorem EQ.same (h : EQ f s p d) (g : EQ f s p e) : d = e := by
  have h1 := h.per s (Nat.le_refl _)
  have h2 := g.per s (Nat.le_refl _)
  omega
theorem least {P : Nat → Prop} (h : ∃ n, P n) : ∃ n, P n ∧ ∀ m, P m → n ≤ m := by
  obtain ⟨n, hn⟩ := h
  induction n using Nat.strongRecOn with
  | _ n ih =>
    by_cases q : ∃ m, m < n ∧ P m
    · obtain ⟨m, hm, hp⟩ := q
      exact ih m hm hp
    · exact ⟨n, hn, fun m hm => Nat.le_of_not_lt fun z => q ⟨m, z, hm⟩⟩
structure Can (f : Nat → Int) (s p : Nat) (d : Int) : Prop where
  eq : EQ f s p d
  low : ∀ s' p' d', EQ f s' p' d' → s ≤ s'
  few : ∀ s' p' d', EQ f s' p' d' → p ≤ p'
theorem Can.uniq {s' p' : Nat} {d' : Int} (h : Can f s p d) (g : Can f s' p' d') : s = s' ∧ p = p' ∧ d = d' := by
  have e1 : s = s' := Nat.le_antisymm (h.low _ _ _ g.eq) (g.low _ _ _ h.eq)
  have e2 : p = p' := Nat.le_antisymm (h.few _ _ _ g.eq) (g.few _ _ _ h.eq)
  subst e1 e2
  exact ⟨rfl, rfl, h.eq.same g.eq⟩
theorem EQ.can (h : EQ f s p d) : ∃ s' p' d', Can f s' p' d' := by
  obtain ⟨s0, ⟨p1, d1, h1⟩, l1⟩ := least (P := fun s => ∃ p d, EQ f s p d) ⟨s, p, d, h⟩
  obtain ⟨p0, ⟨s1, d0, h2⟩, l2⟩ := least (P := fun p => ∃ s d, EQ f s p d) ⟨p, s, d, h⟩
  exact ⟨s0, p0, d0, h1.down h2, fun s' p' d' g => l1 _ ⟨p', d', g⟩, fun s' p' d' g => l2 _ ⟨s', d', g⟩⟩
theorem Can.dvd {s' : Nat} (h : Can f s p d) (g : EQ f s' q e) : p ∣ q ∧ e = (q / p : Nat) * d := by
  have g1 := h.eq.down g
  obtain ⟨c, hc⟩ := h.eq.gcd g1
  have h1 := h.few _ _ _ hc
  have h2 : Nat.gcd p q = p := Nat.le_antisymm (Nat.gcd_le_left q h.eq.pos) h1
  have h3 : p ∣ q := h2 ▸ Nat.gcd_dvd_right p q
  refine ⟨h3, ?_⟩
  have h4 := h.eq.per.mul (q / p) s (Nat.le_refl _)
  rw [Nat.div_mul_cancel h3] at h4
  have h5 := g1.per s (Nat.le_refl _)
  omega
theorem EQ.all (h : EQ f s p d) (n : Nat) (hn : s ≤ n) : f n = f (s + (n - s) % p) + ((n - s) / p : Nat) * d := by
  have := h.per.mul ((n - s) / p) (s + (n - s) % p) (by omega)
  have e1 := Nat.mod_add_div' (n - s) p
  rw [show s + (n - s) % p + (n - s) / p * p = n by omega] at this
  exact this
theorem EQ.same_fun (h : EQ f s p d) (k : EQ g s p d) (e : ∀ n, n < s + p → f n = g n) : f = g := by
  funext n
  by_cases hn : n < s
  · exact e n (by omega)
  · rw [h.all n (by omega), k.all n (by omega), e _ (by have := Nat.mod_lt (n - s) h.pos; omega)]
def GO (f : Nat → Int) (s L p : Nat) (d : Int) : Prop := ∀ n, s ≤ n → n + p < L → f (n + p) = f n + d
theorem GO.eq (h : EQ f s p d) (hq : 1 ≤ q) (hqp : q ≤ p) (g : GO (fun n => f (s + n)) 0 (2 * p) q e) : EQ f s q e := ⟨hq, fun n hn => by
  have h1 := h.per.mul ((n - s) / p) (s + (n - s) % p) (by omega)
  have h2 := h.per.mul ((n - s) / p) (s + (n - s) % p + q) (by omega)
  have e1 := Nat.mod_add_div' (n - s) p
  have e2 := Nat.mod_lt (n - s) h.pos
  have h3 := g ((n - s) % p) (Nat.zero_le _) (by omega)
  simp only at h3
  rw [show s + (n - s) % p + (n - s) / p * p = n by omega] at h1
  rw [show s + (n - s) % p + q + (n - s) / p * p = n + q by omega] at h2
  rw [show s + ((n - s) % p + q) = s + (n - s) % p + q by omega] at h3
  omega⟩
theorem EQ.go (h : EQ f s q e) (L : Nat) : GO (fun n => f (s + n)) 0 L q e := fun n _ _ => by
  show f (s + (n + q)) = f (s + n) + e
  rw [← Nat.add_assoc]
  exact h.per (s + n) (by omega)
def Fits (f : Nat → Int) (s p : Nat) (d : Int) (q : Nat) : Prop := q ∣ p ∧ (p : Int) ∣ d * q ∧ GO (fun n => f (s + n)) 0 (2 * p) q (d * q / p)
theorem Fits.eq (h : EQ f s p d) (hq : 1 ≤ q) (k : Fits f s p d q) : EQ f s q (d * q / p) := k.2.2.eq h hq (Nat.le_of_dvd h.pos k.1)
theorem fits_of (h : EQ f s p d) (g : EQ f s q e) (hq : q < p) : ∃ r, 1 ≤ r ∧ r ≤ q ∧ r < p ∧ Fits f s p d r := by
  obtain ⟨c, hc⟩ := h.gcd g
  have h1 : Nat.gcd p q ≤ q := Nat.gcd_le_right p g.pos
  have h2 : Nat.gcd p q ∣ p := Nat.gcd_dvd_left p q
  have h3 := h.ratio hc
  have hp : (p : Int) ≠ 0 := by have := h.pos; omega
  have h4 : d * (Nat.gcd p q : Nat) = p * c := by rw [Int.mul_comm]; exact h3
  refine ⟨Nat.gcd p q, hc.pos, h1, by omega, h2, ⟨c, h4⟩, ?_⟩
  rw [h4, Int.mul_ediv_cancel_left _ hp]
  exact hc.go _
structure LeastP (f : Nat → Int) (s p : Nat) (d : Int) : Prop where
  eq : EQ f s p d
  few : ∀ q e, EQ f s q e → p ≤ q
theorem leastP_first (h : EQ f s p d) (hq : 1 ≤ q) (hqp : q < p) (k : Fits f s p d q) (no : ∀ r, 1 ≤ r → r < q → ¬ Fits f s p d r) : LeastP f s q (d * q / p) := ⟨k.eq h hq, fun q' e' g => by
  by_cases hp : q' < p
  · obtain ⟨r, h1, h2, h3, h4⟩ := fits_of h g hp
    exact Nat.le_of_not_lt fun z => no r h1 (by omega) h4
  · omega⟩
theorem leastP_none (h : EQ f s p d) (no : ∀ r, 1 ≤ r → r < p → ¬ Fits f s p d r) : LeastP f s p d := ⟨h, fun q' e' g => Nat.le_of_not_lt fun hp => by
  obtain ⟨r, h1, h2, h3, h4⟩ := fits_of h g hp
  exact no r h1 h3 h4⟩
theorem LeastP.back (h : LeastP f (s + 1) p d) (k : f (s + p) = f s + d) : LeastP f s p d := by
  have e : EQ f s p d := ⟨h.eq.pos, fun n hn => by
    by_cases z : n = s
    · rw [z]; exact k
    · exact h.eq.per n (by omega)⟩
  exact ⟨e, fun q e' g => h.few q e' (g.up (by omega))⟩
theorem LeastP.can (h : LeastP f s p d) (k : s = 0 ∨ f (s - 1 + p) ≠ f (s - 1) + d) : Can f s p d := ⟨h.eq, fun s' p' d' g => by
  refine Nat.le_of_not_lt fun z => ?_
  rcases k with k | k
  · omega
  · exact k ((g.down h.eq).per (s - 1) (by omega)), fun s' p' d' g => h.few p' d' (h.eq.down g)⟩
end
def ext (xs : List Int) (p : Nat) (d : Int) (n : Nat) : Int := if n < xs.length then xs.getD n 0 else xs.getD (xs.length - p + (n - xs.length) % p) 0 + ((n - xs.length) / p + 1 : Nat) * d
theorem ext_at {xs : List Int} {p n : Nat} {d : Int} (h : n < xs.length) : ext xs p d n = xs.getD n 0 := if_pos h
theorem ext_eq {xs : List Int} {p : Nat} {d : Int} (h1 : 1 ≤ p) (h2 : p ≤ xs.length) : EQ (ext xs p d) (xs.length - p) p d := ⟨h1, fun n hn => by
  unfold ext
  by_cases hl : n < xs.length
  · rw [if_pos hl, if_neg (by omega), Nat.mod_eq_of_lt (by omega), Nat.div_eq_of_lt (by omega)]
    rw [show xs.length - p + (n + p - xs.length) = n by omega]
    simp
  · rw [if_neg hl, if_neg (by omega), show n + p - xs.length = n - xs.length + p by omega, Nat.add_mod_right, Nat.add_div_right _ h1]
    push_cast
    rw [Int.add_mul, Int.add_mul]
    omega⟩
theorem ext_list {xs : List Int} {p : Nat} {d : Int} : xs = (List.range xs.length).map (ext xs p d) := by
  refine List.ext_getElem (by simp) fun i h1 h2 => ?_
  rw [List.getElem_map, List.getElem_range, ext_at h1, List.getD_eq_getElem?_getD, List.getElem?_eq_getElem h1]
  rfl
end RowM
end
section
set_option Elab.async false
set_option autoImplicit false
set_option linter.all false
set_option maxRecDepth 100000
set_option maxHeartbeats 4000000
namespace RowM
def turns (d : Int) (D : Nat) : Nat := D / Nat.gcd d.natAbs D
section
variable {f : Nat → Int} {s p s' q : Nat} {d e : Int}
end
end RowM
end
section
set_option Elab.async false
set_option autoImplicit false
set_option linter.all false
set_option maxRecDepth 100000
set_option maxHeartbeats 4000000
namespace Ls
open PySem PySem.Spec PyProof.Rows L2
namespace OB
open PySem.W
def Turn (K : Frag) (C : Addr) (nm : String) : Prop := ∃ ro, findIn K (.ref C) (dunderR nm) = some ro ∧ (ro = none ∨ ∃ g, ro = some (.ref g))
section
variable {prog : Program} {w : World} {A : Around} {E : Value → Shared → Prop} {s : Shared} {K : Frag} {x C f : Addr} {ox : Obj} {od : Option Obj} {b : Value}
end
end OB
section
variable {X : Cx} {CX : CXT} {n : Nat} {f C : Addr} {sp : Sp} {E : XK} {op : Operator}
structure OwnGet (K : PySem.W.Frag) (C f : Addr) : Prop where
  at_ : PySem.W.findIn K (.ref C) "__getitem__" = some (some (.ref f))
  fi : PySem.W.fnIn K f = true
  fn : PySem.W.isFn K (.ref f) = true
def rGetO (C : Addr) (sp : Sp) (E : XK) : R2 := fun x y H Q => ∃ (a dx : Addr) (fs : List (Str × V)), x = .ref a ∧ H a = some (.ins C dx fs) ∧ sp [x, y] H Q E
theorem pe_ixO {a b : PySem.Expr} {ta tb : TE} {pos : Pos} (F : FnR X.prog X.w X.K X.mg X.base CX n f sp) (O : OwnGet X.K C f) (hr : Room (n + 1) X.A) (hx : Passes CX X E) (ha : PE X a ta) (hb : PE X b tb)
    (hs : ∀ x i, subscripted b true (.ref x) i = runValue (.builtin "lifetime.subscript" ⟨[.ref x, i], []⟩)) : PE X (.Subscript a b pos) (tOp (rGetO C sp E) ta tb) := by
  refine ⟨fun pins s σ H Q I h => ?_⟩
  refine Subscript_ (binT ha hb I h fun v u s2 x y H2 I2 rx ry q => ?_)
  obtain ⟨c, dx, fs, rfl, hc, q⟩ := q
  cases (show v = Value.ref c from rx)
  obtain ⟨mA, J, _⟩ := ins_get I2.hok hc
  obtain ⟨od, J, _⟩ := J.look
  obtain ⟨m, hF⟩ := I2.fr
  refine PySem.W.sub_K hF I2.ok.mod.kin J O.at_ O.fi O.fn ?_ (hs _ _)
  have r2 : Vals [V.ref c, y] [Value.ref c, u] := .cons rfl (.cons ry .nil)
  exact wpAny_call (SlX.run_at F hr.in1 I2.env0.in1 hx I2 r2 q)
structure OwnM (P : Program) (w : World) (K : PySem.W.Frag) (mg : Str → Option Value) (base : Heap) (CX : CXT) (k : Nat) (C : Addr) (m : Str) (sp : Sp) : Prop where
  ex : ∃ f, Cls K C ∧ Meth K C m f ∧ FnR P w K mg base CX k f sp
theorem pe_om {k : Nat} {m : Str} {o e : PySem.Expr} {es : List PySem.Expr} {ta : TE} {t : TA} {apos pos : Pos} {pl : Sem Bool} (c : OwnM X.prog X.w X.K X.mg X.base CX k C m sp) (hr : Room k X.A) (he : PE X o ta) (hx : Passes CX X E) (ha : PA X (e :: es) t)
    (hst : starEach (e :: es) X.env = (false, eval e X.env) :: starEach es X.env := by rfl) (hpl : (backTo pos (starEach es X.env)).any (·.1) = false := by rfl)
    (ht : eval (.Call (.Attribute o m apos) (e :: es) [] pos) X.env = (do
      let ov ← eval o X.env
      standAt apos.atName
      let (f, first) ← holding [ov] (getMethod ov m pl)
      callWith pos f first (backTo pos (starEach (e :: es) X.env)) (backToKw pos (keywordEach [] X.env))) := by rfl) : PE X (.Call (.Attribute o m apos) (e :: es) [] pos) (tMethR C m sp E ta t) := by
  obtain ⟨f, h1, h2, F⟩ := c.ex
  exact pe_methR he h1 h2 F hr hx ha hst hpl ht
end
end Ls
end
section
set_option Elab.async false
set_option autoImplicit false
set_option linter.all false
set_option maxRecDepth 100000
set_option maxHeartbeats 4000000
namespace Ls
open PySem PySem.Spec PyProof.Rows L2
namespace OB
open PySem.W
section
variable {prog : Program} {w : World} {A : Around} {E : Value → Shared → Prop} {s : Shared} {K : Frag} {x dx C f : Addr} {od : Option Obj}
end
end OB
section
variable {X : Cx} {CX : CXT} {n : Nat} {f C : Addr} {sp : Sp} {E : XK} {op : Operator}
end
section
variable {X : Cx} {CX : CXT} {k : Nat} {C : Addr} {m x : Str} {sp : Sp} {E : XK} {o e : PySem.Expr} {es : List PySem.Expr} {ta te : TE} {t : TA} {p apos pos sp_ : Pos} {pl : Sem Bool}
end
end Ls
end
section
set_option Elab.async false
set_option autoImplicit false
set_option linter.all false
set_option maxRecDepth 100000
set_option maxHeartbeats 4000000
namespace Ls
open PySem PySem.Spec PyProof.Rows L2 LamX NdefX
section
variable {P : Program} {w : World} {K : PySem.W.Frag} {mg : Str → Option Value} {base : Heap} {CX : CXT} {k : Nat} {q : Str} {cl : List (Str × Addr)} {ar : Arguments} {b : PySem.Expr} {sc : Scope} {f c' : Addr} {N ps fr : List Str} {tb : XK → TE}
end
section
variable {X : Cx} {CX : CXT} {j i : Nat} {q a : Str} {cl : List (Str × Addr)} {ar : Arguments} {b e : PySem.Expr} {es : List PySem.Expr} {sc : Scope} {f c' : Addr} {fr : List Str} {sp : List (Option V) → Sp} {ws : List (Option V)} {E : XK} {t : TA} {p pos : Pos}
end
section
variable {X : Cx} {j k : Nat} {x : Str} {g : Addr} {st : Stmt} {fd : FuncData} {Ng ps fr : List Str} {js : List Nat} {ar : Arguments} {b e : PySem.Expr} {es : List PySem.Expr} {sc : Scope} {sp : List (Option V) → Sp} {spL : Addr → Sp → (Hp → Prop) → List V → Hp → VK → Prop} {t : TA} {p pos : Pos}
end
section
variable {X : Cx}
end
end Ls
end
section
set_option Elab.async false
set_option linter.all false
set_option maxRecDepth 100000
set_option maxHeartbeats 4000000
namespace K09
open PySem PySem.Spec PyProof.Rows L2 Ls RowM
open C8 (pss_cut tCut)
open TL
def top (i : Nat) : Stmt := PySem.Challenge.pw_loopstow_k09_rows_told.main.body.getD i (.Pass ⟨0, 0, 0, 0⟩)
def bns : List Str := ["len", "int", "abs", "list", "isinstance", "all", "range", "tuple", "super", "repr", "bool", "str", "max", "ValueError"]
structure Tx (K : PySem.W.Frag) (mg : Str → Option Value) (CE CN CT CB CR : Addr) (tM tP tF : Tok) : Prop where
  bn : ∀ x ∈ bns, mg x = none
  m_MOST_NUMBERS : mg "MOST_NUMBERS" = some (.int 2000 tM)
  m_PIECE : mg "PIECE" = some (.int (10 ^ 60) tP)
  m_FIGURES : mg "FIGURES" = some (.str "0123456789" tF)
  m_StowError : mg "StowError" = some (.ref CE)
  m_BadNumber : mg "BadNumber" = some (.ref CN)
  m_TooMany : mg "TooMany" = some (.ref CT)
  m_BadText : mg "BadText" = some (.ref CB)
  m_Row : mg "Row" = some (.ref CR)
def PenAt (H : Hp) (p c : Addr) (n : Nat) : Prop := ∃ (ns : List Int) (a r : Int), H p = some (.lst [.ref c, .int a, .int r]) ∧ H c = some (.lst (ns.map V.int)) ∧ p ≠ c ∧ 0 ≤ a ∧ a ≤ n ∧ 0 ≤ r ∧ ns.length ≤ 63
theorem PenAt.mono {H : Hp} {p c : Addr} {n m : Nat} (h : PenAt H p c n) (l : n ≤ m) : PenAt H p c m := let ⟨ns, a, r, h1, h2, h3, h4, h5, h6, h7⟩ := h; ⟨ns, a, r, h1, h2, h3, h4, by omega, h6, h7⟩
theorem PenAt.upd {H : Hp} {p c a : Addr} {n : Nat} {o : HO} (h : PenAt H p c n) (np : p ≠ a) (nc : c ≠ a) : PenAt (upd H a o) p c n := by
  obtain ⟨ns, b, r, h1, h2, h3⟩ := h
  exact ⟨ns, b, r, by rw [upd_ne np]; exact h1, by rw [upd_ne nc]; exact h2, h3⟩
theorem PenAt.ext {H H' : Hp} {p c : Addr} {n : Nat} (h : PenAt H p c n) (e : Ext H H') : PenAt H' p c n := by
  obtain ⟨ns, b, r, h1, h2, h3⟩ := h
  exact ⟨ns, b, r, e _ _ h1, e _ _ h2, h3⟩
theorem PenAt.ne {H : Hp} {p c a : Addr} {n : Nat} (h : PenAt H p c n) (ha : H a = none) : p ≠ a ∧ c ≠ a := by
  obtain ⟨ns, b, r, h1, h2, _⟩ := h
  exact ⟨ne_of_none h1 ha, ne_of_none h2 ha⟩
theorem PenAt.extN {H H' : Hp} {p c : Addr} {n : Nat} (h : PenAt H p c n) (e : LamX.ExtN H H') : PenAt H' p c n := by
  obtain ⟨ns, b, r, h1, h2, h3⟩ := h
  exact ⟨ns, b, r, e _ _ h1 (fun ps z => nomatch z), e _ _ h2 (fun ps z => nomatch z), h3⟩
def spDraw : Sp := fun vs H Q _ => ∃ (p c : Addr) (n : Nat) (many : Int), vs = [.ref p, .int many] ∧ PenAt H p c n ∧ n < 1048576 ∧ 0 < many ∧ many < 1073741824 ∧
  ∀ (j : Int) (H' : Hp), 0 ≤ j → j < many → PenAt H' p c (n + 1) → Keep p c H H' → Q (.int j) H'
section
variable {P : Program} {w : World} {K : PySem.W.Frag} {mg : Str → Option Value} {base : Heap} {CE CN CT CB CR : Addr} {tM tP tF : Tok}
abbrev s__law_draw : Stmt := top 34
abbrev N__law_draw : List Str := ["_law_pen_here", "_law_many", "_law_digit", "_law_at_here", "_law_cell", "_law_great", "_law_mixed"]
theorem sc__law_draw : FnScope N__law_draw ["_law_pen_here", "_law_many"] (defScope s__law_draw) := ⟨rfl, rfl, rfl, by decide +kernel, rfl, by decide +kernel, by decide +kernel⟩
theorem ok_draw {f : Addr} {fd : FuncData} (F : Fun K "_law_draw" "_law_draw" s__law_draw f fd) (T : Tx K mg CE CN CT CB CR tM tP tF) : FnOk P w K mg base CX0 1 f fd ["_law_pen_here", "_law_many"] spDraw := by
  refine F.ok sc__law_draw (fun vs H Q E h => ?_) (fun cdv A outer s H vs Q E hr h => ?_)
  · obtain ⟨p, c, n, many, rfl, _⟩ := h
    rfl
  · obtain ⟨p, c, n, many, rfl, ⟨ns, a, r, hp, hc, npc, a0, an, r0, hz⟩, n1, m0, m1, k⟩ := h
    have hu := hu_of hr
    refine ⟨_, (pss_cons (ps_if (pt_cmpR op_gt (pe_ix ix_list (pv 0) pe_int (fun _ _ => rfl)) pe_int (nomark _)) (pss_cons (ps_set (i := 2) sc__law_draw.nd rfl (by first | exact Or.inl rfl | exact Or.inr rfl) (pe_op op_mod (pe_callTy call_int1 (by rfl) (T.bn _ (by decide +kernel)) (by decide +kernel) (pa_cons (pe_ix ix_list (pv 0) pe_int (fun _ _ => rfl)) pa_nil)) (pv 1)))
      (pss_cons (ps_asg (pe_op op_fdiv (pe_callTy call_int1 (by rfl) (T.bn _ (by decide +kernel)) (by decide +kernel) (pa_cons (pe_ix ix_list (pv 0) pe_int (fun _ _ => rfl)) pa_nil)) (pv 1)) (pg_sub (pv 0) pe_int set_list))
      (pss_one (ps_ret (pv 2))))) pss_nil)
      (pss_cons (ps_set (i := 3) sc__law_draw.nd rfl (by first | exact Or.inl rfl | exact Or.inr rfl) (pe_ix ix_list (pv 0) pe_int (fun _ _ => rfl)))
      (pss_cons (ps_asg (pe_op op_add (pv 3) pe_int) (pg_sub (pv 0) pe_int set_list))
      (pss_cons (ps_set (i := 4) sc__law_draw.nd rfl (by first | exact Or.inl rfl | exact Or.inr rfl) (pe_op op_add (pe_op op_mul pe_int (pv 3)) pe_int))
      (pss_cut (ps_if (pt_cmpR (op_neNil hr) (pe_ix ix_list (pv 0) pe_int (fun _ _ => rfl)) (pe_lst pa_nil) (nomark _)) (pss_one (ps_set (i := 4) sc__law_draw.nd rfl (by first | exact Or.inl rfl | exact Or.inr rfl) (pe_ix ix_list (pe_ix ix_list (pv 0) pe_int (fun _ _ => rfl)) (pe_op op_mod (pe_callTy call_int1 (by rfl) (T.bn _ (by decide +kernel)) (by decide +kernel) (pa_cons (pv 3) pa_nil)) (pe_callB call_len_seq (by rfl) (T.bn _ (by decide +kernel)) (by decide +kernel) (pa_cons (pe_ix ix_list (pv 0) pe_int (fun _ _ => rfl)) pa_nil))) (fun _ _ => rfl)))) pss_nil)
      (pss_cut (ps_if ((pw_and (pt_cmpR op_lt (pv 3) (pe_callB call_len_seq (by rfl) (T.bn _ (by decide +kernel)) (by decide +kernel) (pa_cons (pe_ix ix_list (pv 0) pe_int (fun _ _ => rfl)) pa_nil)) (nomark _)) (pw_and1 (pt_cmpR op_ge (pe_callB call_abs (by rfl) (T.bn _ (by decide +kernel)) (by decide +kernel) (pa_cons (pv 4) pa_nil)) (pe_op op_pow pe_int pe_int) (nomark _))))).pt (pss_cons (ps_set (i := 5) sc__law_draw.nd rfl (by first | exact Or.inl rfl | exact Or.inr rfl) (pe_op op_add (pe_op op_mul pe_int (pe_op op_sub (pe_callB call_abs (by rfl) (T.bn _ (by decide +kernel)) (by decide +kernel) (pa_cons (pv 4) pa_nil)) (pe_op op_pow pe_int pe_int))) (pe_callTy call_int1 (by rfl) (T.bn _ (by decide +kernel)) (by decide +kernel) (pa_cons (pe_cmpR op_lt (pv 4) pe_int (nomark _)) pa_nil))))
      (pss_cons (ps_asg (pe_op op_fdiv (pe_callTy call_int1 (by rfl) (T.bn _ (by decide +kernel)) (by decide +kernel) (pa_cons (pv 5) pa_nil)) (pv 1)) (pg_sub (pv 0) pe_int set_list))
      (pss_one (ps_ret (pe_op op_mod (pe_callTy call_int1 (by rfl) (T.bn _ (by decide +kernel)) (by decide +kernel) (pa_cons (pv 5) pa_nil)) (pv 1)))))) pss_nil)
      (pss_cons (ps_set (i := 6) sc__law_draw.nd rfl (by first | exact Or.inl rfl | exact Or.inr rfl) (pe_op op_add (pe_op op_add (pe_op op_mod (pe_callTy call_int1 (by rfl) (T.bn _ (by decide +kernel)) (by decide +kernel) (pa_cons (pv 4) pa_nil)) pe_int) (pe_op op_mul pe_int (pv 3))) pe_int))
      (pss_cons (ps_set (i := 6) sc__law_draw.nd rfl (by first | exact Or.inl rfl | exact Or.inr rfl) (pe_op op_mod (pe_callTy call_int1 (by rfl) (T.bn _ (by decide +kernel)) (by decide +kernel) (pa_cons (pe_op op_pow (pv 6) pe_int) pa_nil)) pe_int))
      (pss_cons (ps_set (i := 6) sc__law_draw.nd rfl (by first | exact Or.inl rfl | exact Or.inr rfl) (pe_op op_add (pe_op op_add (pe_op op_mul (pv 6) (pe_op op_add (pe_op op_mul pe_int (pv 3)) pe_int)) (pe_op op_mul (pe_op op_mul pe_int (pv 3)) (pv 3))) pe_int))
      (pss_cons (ps_set (i := 6) sc__law_draw.nd rfl (by first | exact Or.inl rfl | exact Or.inr rfl) (pe_op op_mod (pe_callTy call_int1 (by rfl) (T.bn _ (by decide +kernel)) (by decide +kernel) (pa_cons (pe_op op_pow (pv 6) pe_int) pa_nil)) pe_int))
      (pss_one (ps_ret (pe_op op_mod (pe_callTy call_int1 (by rfl) (T.bn _ (by decide +kernel)) (by decide +kernel) (pa_cons (pe_op op_fdiv (pv 6) pe_int) pa_nil)) (pv 1)))))))))))))), ?_⟩
    refine ⟨_, rfl, p, _, 2, .int r, rfl, rfl, SqL.of hp, atI_nat (j := 2) rfl, r, 0, rfl, rfl, _, rfl, ?_⟩
    refine ite2 (fun hpos => ?_) (fun hno => ?_)
    · have hpos' : 0 < r := by simpa using hpos
      refine ⟨_, rfl, p, _, 2, .int r, rfl, rfl, SqL.of hp, atI_nat (j := 2) rfl, .inl ⟨r, rfl, _, rfl, _, _, rfl, rfl, m0, ?_⟩⟩
      refine ⟨_, rfl, p, _, 2, .int r, rfl, rfl, SqL.of hp, atI_nat (j := 2) rfl, .inl ⟨r, rfl, _, rfl, _, _, rfl, rfl, ⟨m0, m1⟩, ?_⟩⟩
      refine ⟨_, rfl, p, _, 2, 2, rfl, rfl, hp, rfl, ?_⟩
      refine ⟨_, rfl, k _ _ (Int.emod_nonneg _ (by omega)) (Int.emod_lt_of_pos _ m0) ⟨ns, a, r / many, upd_same, by rw [upd_ne npc.symm]; exact hc, npc, a0, by omega, Int.ediv_nonneg (by omega) (by omega), hz⟩ Keep.upd1⟩
    · refine ⟨_, rfl, p, _, 1, .int a, rfl, rfl, SqL.of hp, atI_nat (j := 1) rfl, ?_⟩
      refine ⟨_, rfl, _, _, rfl, rfl, ?_⟩
      refine ⟨_, rfl, p, _, 1, 1, rfl, rfl, hp, rfl, ?_⟩
      have hp1 : (upd H p (.lst [.ref c, .int (a + 1), .int r])) p = some (.lst [.ref c, .int (a + 1), .int r]) := upd_same
      have hc1 : (upd H p (.lst [.ref c, .int (a + 1), .int r])) c = some (.lst (ns.map V.int)) := by rw [upd_ne npc.symm]; exact hc
      have kp1 : Keep p c H (upd H p (.lst [.ref c, .int (a + 1), .int r])) := Keep.upd1
      refine ⟨_, rfl, _, _, rfl, rfl, .inl ⟨by decide, by decide⟩, _, _, rfl, rfl, ?_⟩
      refine ⟨fun σ' H' => ∃ z : Int, σ' = [some (.ref p), some (.int many), none, some (.int a), some (.int z), none, none] ∧ H' p = some (.lst [.ref c, .int (a + 1), .int r]) ∧ H' c = some (.lst (ns.map V.int)) ∧ Keep p c H H', ?_, ?_⟩
      · refine ⟨_, rfl, p, _, 0, .ref c, rfl, rfl, SqL.of hp1, atI_nat (j := 0) rfl, (by show 0 ≤ sizeLine; decide), fun l hl => ?_⟩
        have npl : p ≠ l := ne_of_none hp1 hl
        have ncl : c ≠ l := ne_of_none hc1 hl
        refine ⟨c, l, _, rfl, rfl, by rw [upd_ne ncl]; exact hc1, upd_same, _, rfl, ?_⟩
        have hp2 : (upd (upd H p (.lst [.ref c, .int (a + 1), .int r])) l (.lst [])) p = some (.lst [.ref c, .int (a + 1), .int r]) := by rw [upd_ne npl]; exact hp1
        have hc2 : (upd (upd H p (.lst [.ref c, .int (a + 1), .int r])) l (.lst [])) c = some (.lst (ns.map V.int)) := by rw [upd_ne ncl]; exact hc1
        have kp2 : Keep p c H (upd (upd H p (.lst [.ref c, .int (a + 1), .int r])) l (.lst [])) := kp1.trans (Keep.new hl)
        cases ns with
        | nil =>
          refine iteF ?_
          exact ⟨_, rfl, hp2, hc2, kp2⟩
        | cons n0 ns =>
          refine iteT ?_
          have hlen : (0 : Int) < (((n0 :: ns).map V.int).length : Nat) := by simp
          have j0 := Int.emod_nonneg a (Int.ne_of_gt hlen)
          have j1 := Int.emod_lt_of_pos a hlen
          refine ⟨_, rfl, p, _, 0, .ref c, rfl, rfl, SqL.of hp2, atI_nat (j := 0) rfl, _, rfl, .inl ⟨a, rfl, _, rfl, p, _, 0, .ref c, rfl, rfl, SqL.of hp2, atI_nat (j := 0) rfl, c, _, rfl, .inl (SqL.of hc2), _, _, rfl, rfl, hlen, ?_⟩⟩
          have hj : (a % (((n0 :: ns).map V.int).length : Nat)).toNat < ((n0 :: ns).map V.int).length := by omega
          refine ⟨c, _, _, ((n0 :: ns).map V.int)[(a % (((n0 :: ns).map V.int).length : Nat)).toNat], rfl, rfl, SqL.of hc2, atI_at (j := (a % (((n0 :: ns).map V.int).length : Nat)).toNat) (by omega) (List.getElem?_eq_getElem hj), ?_⟩
          rw [List.getElem_map]
          exact ⟨_, rfl, hp2, hc2, kp2⟩
      · rintro σ' H1 ⟨z, rfl, hp1, hc1, kp1⟩
        have ab : (0 : Int) ≤ (if z < 0 then -z else z) := by split <;> omega
        have last : ∀ j : Int, 0 ≤ j → j < many → Q (.int j) H1 := fun j j0 j1 => k j H1 j0 j1 ⟨ns, a + 1, r, hp1, hc1, npc, by omega, by omega, r0, hz⟩ kp1
        refine ⟨fun σ' H' => σ' = [some (.ref p), some (.int many), none, some (.int a), some (.int z), none, none] ∧ H' = H1, ?_, ?_⟩
        · refine ⟨_, rfl, _, rfl, p, _, 0, .ref c, rfl, rfl, SqL.of hp1, atI_nat (j := 0) rfl, c, _, rfl, .inl (SqL.of hc1), _, _, rfl, rfl, _, rfl, ?_⟩
          refine ite2 (fun h1 => ?_) (fun h1 => ?_)
          · refine ⟨_, rfl, z, rfl, _, _, rfl, rfl, ⟨by decide, by decide, by decide⟩, _, _, rfl, rfl, _, rfl, ?_⟩
            refine ite2 (fun h2 => ?_) (fun h2 => ?_)
            · refine ⟨_, rfl, z, rfl, _, _, rfl, rfl, ⟨by decide, by decide, by decide⟩, _, _, rfl, rfl, _, _, rfl, rfl, .inl ⟨by decide, by decide⟩, ?_⟩
              refine ⟨_, rfl, _, _, rfl, rfl, .inr ⟨_, rfl, _, _, rfl, rfl, ?_⟩⟩
              refine ⟨_, rfl, .inl ⟨_, rfl, _, rfl, _, _, rfl, rfl, ⟨m0, m1⟩, ?_⟩⟩
              refine ⟨_, rfl, p, _, 2, 2, rfl, rfl, hp1, rfl, ?_⟩
              refine ⟨_, rfl, .inl ⟨_, rfl, _, rfl, _, _, rfl, rfl, m0, ?_⟩⟩
              refine k _ _ (Int.emod_nonneg _ (by omega)) (Int.emod_lt_of_pos _ m0) ⟨ns, a + 1, _, upd_same, by rw [upd_ne npc.symm]; exact hc1, npc, by omega, by omega, ?_, hz⟩ (kp1.trans Keep.upd1)
              refine Int.ediv_nonneg ?_ (by omega)
              have : (0 : Int) ≤ (if decide (z < 0) = true then 1 else 0) := by split <;> decide
              have h3 : ((10 : Int) ^ (18 : Int).toNat) ≤ (if z < 0 then -z else z) := by simpa using h2
              omega
            · exact ⟨rfl, rfl⟩
          · exact ⟨rfl, rfl⟩
        · rintro σ' H' ⟨rfl, rfl⟩
          have z0 := Int.emod_nonneg z (show (2147483477 : Int) ≠ 0 by decide)
          have z1 := Int.emod_lt_of_pos z (show (0 : Int) < 2147483477 by decide)
          refine ⟨_, rfl, .inl ⟨z, rfl, _, _, rfl, rfl, (by show (0 : Int) < 2147483477; decide), ?_⟩⟩
          refine ⟨_, rfl, _, _, rfl, rfl, .inl ⟨by decide, by decide⟩, _, _, rfl, rfl, _, _, rfl, rfl, ?_⟩
          refine ⟨_, rfl, _, _, rfl, rfl, ⟨by decide, by decide, ?_⟩, .inl ⟨_, rfl, _, _, rfl, rfl, (by show (0 : Int) < 2147483587; decide), ?_⟩⟩
          · show (z % 2147483477 + 40531 * a + 74).natAbs < 2 ^ 64
            have : (2 : Nat) ^ 64 = 18446744073709551616 := by decide
            omega
          obtain ⟨m, hm⟩ : ∃ m, (z % 2147483477 + 40531 * a + 74) ^ (5 : Int).toNat % 2147483587 = m := ⟨_, rfl⟩
          have q0 : 0 ≤ m := by rw [← hm]; exact Int.emod_nonneg _ (by decide)
          have q1 : m < 2147483587 := by rw [← hm]; exact Int.emod_lt_of_pos _ (by decide)
          have a1 : a ≤ 1048576 := by omega
          have e1 : m * (2 * a + 23) ≤ 2147483587 * 2097175 := Int.mul_le_mul (by omega) (by omega) (by omega) (by decide)
          have e2 : 0 ≤ m * (2 * a + 23) := Int.mul_nonneg q0 (by omega)
          have e3 : 50327 * a * a ≤ 50327 * 1048576 * 1048576 := Int.mul_le_mul (by omega) a1 a0 (by decide)
          have e4 : 0 ≤ 50327 * a * a := Int.mul_nonneg (by omega) a0
          refine ⟨_, rfl, _, rfl, _, _, rfl, rfl, .inl ⟨by decide, by decide⟩, _, _, rfl, rfl, _, _, rfl, rfl, .inl ⟨by omega, by omega⟩, ?_⟩
          refine ⟨_, rfl, _, _, rfl, rfl, .inl ⟨by decide, by decide⟩, _, rfl, _, _, rfl, rfl, .inr ⟨by omega, by omega⟩, _, _, rfl, rfl, _, _, rfl, rfl, ?_⟩
          refine ⟨_, rfl, _, _, rfl, rfl, ⟨by decide, by decide, ?_⟩, .inl ⟨_, rfl, _, _, rfl, rfl, (by show (0 : Int) < 2147483543; decide), ?_⟩⟩
          · show ((z % 2147483477 + 40531 * a + 74) ^ (5 : Int).toNat % 2147483587 * (2 * a + 23) + 50327 * a * a + 18).natAbs < 2 ^ 64
            rw [hm]
            have : (2 : Nat) ^ 64 = 18446744073709551616 := by decide
            generalize m * (2 * a + 23) = u at e1 e2
            generalize 50327 * a * a = v at e3 e4
            omega
          refine ⟨_, rfl, _, _, rfl, rfl, ⟨by decide, by decide⟩, .inl ⟨_, rfl, _, rfl, _, _, rfl, rfl, m0, ?_⟩⟩
          exact last _ (Int.emod_nonneg _ (by omega)) (Int.emod_lt_of_pos _ m0)
def spPen (K : PySem.W.Frag) : Sp := fun vs H Q _ => ∃ (a : Addr) (ns : List Int), vs = [.ref a] ∧ SqL K H a (ns.map V.int) ∧ ns.length ≤ 1000 ∧ ∀ p c H', PenAt H' p c 0 → Ext H H' → H p = none → H c = none → Q (.ref p) H'
abbrev s__law_pen : Stmt := top 33
abbrev N__law_pen : List Str := ["_law_script"]
theorem sc__law_pen : FnScope N__law_pen ["_law_script"] (defScope s__law_pen) := ⟨rfl, rfl, rfl, by decide +kernel, rfl, by decide +kernel, by decide +kernel⟩
theorem ok_pen {f : Addr} {fd : FuncData} (F : Fun K "_law_pen" "_law_pen" s__law_pen f fd) (T : Tx K mg CE CN CT CB CR tM tP tF) : FnOk P w K mg base CX0 1 f fd ["_law_script"] (spPen K) := by
  refine F.ok sc__law_pen (fun vs H Q E h => ?_) (fun cdv A outer s H vs Q E hr h => ?_)
  · obtain ⟨a, ns, rfl, _⟩ := h
    rfl
  · obtain ⟨a, ns, rfl, ha, hn, k⟩ := h
    refine ⟨_, (pss_one (ps_ret (pe_lst (pa_cons (pe_callTy call_list_of (by rfl) (T.bn _ (by decide +kernel)) (by decide +kernel) (pa_cons (pe_slice sl_list (pv 0) po_none (po_some pe_int)) pa_nil)) (pa_cons pe_int (pa_cons pe_int pa_nil)))))), ?_⟩
    refine ⟨_, rfl, 63, rfl, a, _, rfl, ha, fun q hq => ?_⟩
    refine ⟨q, _, rfl, .inl (SqL.of upd_same), fun c hc => ?_⟩
    have nqc : q ≠ c := ne_of_none upd_same hc
    refine ⟨(by show 3 ≤ sizeLine; decide), fun p hp => ?_⟩
    have npc : p ≠ c := (ne_of_none upd_same hp).symm
    have e1 := Ext.upd (o := HO.lst (((ns.map V.int).drop (HT.sIx (ns.map V.int).length 0 none)).take (HT.sIx (ns.map V.int).length (ns.map V.int).length (some 63) - HT.sIx (ns.map V.int).length 0 none))) hq
    refine k p c _ ⟨(ns.drop (HT.sIx (ns.map V.int).length 0 none)).take (HT.sIx (ns.map V.int).length (ns.map V.int).length (some 63) - HT.sIx (ns.map V.int).length 0 none), 0, 0, upd_same, ?_, npc, by decide, by decide, by decide, ?_⟩ ((e1.trans (Ext.upd hc)).trans (Ext.upd hp)) ?_ ?_
    · rw [upd_ne npc.symm, upd_same, List.map_take, List.map_drop]
      rfl
    · have : HT.sIx (ns.map V.int).length (ns.map V.int).length (some 63) ≤ 63 := by
        unfold HT.sIx
        simp
        omega
      rw [List.length_take]
      omega
    · exact ext_free (e1.trans (Ext.upd hc)) hp
    · exact ext_free e1 hc
def spPick (K : PySem.W.Frag) : Sp := fun vs H Q _ => ∃ (p c : Addr) (n : Nat) (v : V), vs = [.ref p, v] ∧ PenAt H p c n ∧ n < 1048576 ∧
  ((∃ (l : Addr) (xs : List V), v = .ref l ∧ l ≠ p ∧ l ≠ c ∧ H l = some (.lst xs) ∧ 0 < xs.length ∧ xs.length ≤ 1000 ∧ ∀ x H', x ∈ xs → PenAt H' p c (n + 1) → Keep p c H H' → Q x H') ∨
    ∃ z : Str, v = .str z ∧ 0 < z.length ∧ z.length ≤ 1000 ∧ ∀ c' H', c' ∈ tl z → PenAt H' p c (n + 1) → Keep p c H H' → Q (.str ⟨#[c']⟩) H')
abbrev s__law_pick : Stmt := top 35
abbrev N__law_pick : List Str := ["_law_pen_here", "_law_some"]
theorem sc__law_pick : FnScope N__law_pick ["_law_pen_here", "_law_some"] (defScope s__law_pick) := ⟨rfl, rfl, rfl, by decide +kernel, rfl, by decide +kernel, by decide +kernel⟩
theorem ok_pick {f : Addr} {fd : FuncData} (F : Fun K "_law_pick" "_law_pick" s__law_pick f fd) (T : Tx K mg CE CN CT CB CR tM tP tF) (c__law_draw : Cal P w K mg base CX0 1 "_law_draw" spDraw) : FnOk P w K mg base CX0 2 f fd ["_law_pen_here", "_law_some"] (spPick K) := by
  refine F.ok sc__law_pick (fun vs H Q E h => ?_) (fun cdv A outer s H vs Q E hr h => ?_)
  · obtain ⟨p, c, n, v, rfl, _⟩ := h
    rfl
  · obtain ⟨p, c, n, v, rfl, hp, hn, h⟩ := h
    refine ⟨_, (pss_one (ps_ret (pe_ix ix_seq (pv 1) (pe_cal c__law_draw (hr.mono (by decide)) (by rfl) pass0 (pa_cons (pv 0) (pa_cons (pe_callB (CallR.or call_len_seq call_len_str) (by rfl) (T.bn _ (by decide +kernel)) (by decide +kernel) (pa_cons (pv 1) pa_nil)) pa_nil))) (fun _ _ => rfl)))), ?_⟩
    rcases h with ⟨l, xs, rfl, n1, n2, hl, h0, h1, k⟩ | ⟨z, rfl, h0, h1, k⟩
    · refine ⟨_, rfl, _, rfl, _, rfl, .inl ⟨l, _, rfl, .inl (SqL.of hl), p, c, n, _, rfl, hp, hn, by omega, by omega, fun j H1 j0 j1 hp1 kp => ?_⟩⟩
      have hl1 := kp l _ hl n1 n2
      have hj : j.toNat < xs.length := by omega
      exact .inl ⟨l, xs, j, xs[j.toNat], rfl, rfl, SqL.of hl1, atI_at (j := j.toNat) (by omega) (List.getElem?_eq_getElem hj), k _ H1 (List.getElem_mem hj) hp1 kp⟩
    · refine ⟨_, rfl, _, rfl, _, rfl, .inr ⟨z, rfl, Nat.le_of_lt (small1000 h1), p, c, n, _, rfl, hp, hn, by omega, by omega, fun j H1 j0 j1 hp1 kp => ?_⟩⟩
      have hj : j.toNat < z.cps.toList.length := by
        have : z.cps.toList.length = z.length := by simp; rfl
        omega
      exact .inr (.inr ⟨z, j, z.cps.toList[j.toNat], rfl, rfl, Nat.le_of_lt (small1000 h1), atI_at (j := j.toNat) (by omega) (List.getElem?_eq_getElem hj), k _ H1 (List.getElem_mem hj) hp1 kp⟩)
end
end K09
end
section
set_option Elab.async false
set_option autoImplicit false
set_option linter.all false
set_option maxRecDepth 100000
set_option maxHeartbeats 4000000
set_option pp.maxSteps 1500
namespace K09
open PySem PySem.Spec PyProof.Rows L2 Ls RowM
open C8 (pss_cut tCut)
open TL
def isNumD : PyData → Bool
  | .int _ => true
  | .bool _ => true
  | _ => false
def isBoolD : PyData → Bool
  | .bool _ => true
  | _ => false
def isIntD : PyData → Bool
  | .int _ => true
  | _ => false
theorem kit_int {K : PySem.W.Frag} (d : PyData) : PySem.W.kitOne K (.type (tyN d)) (.type "int") = some (isNumD d) := by
  have k1 : kitB "NoneType" "int" = some false := by decide +kernel
  have k2 : kitB "bool" "int" = some true := by decide +kernel
  have k3 : kitB "int" "int" = some true := by decide +kernel
  have k4 : kitB "str" "int" = some false := by decide +kernel
  have k5 : kitB "list" "int" = some false := by decide +kernel
  have k6 : kitB "tuple" "int" = some false := by decide +kernel
  have k7 : kitB "dict" "int" = some false := by decide +kernel
  cases d <;> first | exact kit_ty k1 | exact kit_ty k2 | exact kit_ty k3 | exact kit_ty k4 | exact kit_ty k5 | exact kit_ty k6 | exact kit_ty k7
theorem kit_bool {K : PySem.W.Frag} (d : PyData) : PySem.W.kitOne K (.type (tyN d)) (.type "bool") = some (isBoolD d) := by
  have k1 : kitB "NoneType" "bool" = some false := by decide +kernel
  have k2 : kitB "bool" "bool" = some true := by decide +kernel
  have k3 : kitB "int" "bool" = some false := by decide +kernel
  have k4 : kitB "str" "bool" = some false := by decide +kernel
  have k5 : kitB "list" "bool" = some false := by decide +kernel
  have k6 : kitB "tuple" "bool" = some false := by decide +kernel
  have k7 : kitB "dict" "bool" = some false := by decide +kernel
  cases d <;> first | exact kit_ty k1 | exact kit_ty k2 | exact kit_ty k3 | exact kit_ty k4 | exact kit_ty k5 | exact kit_ty k6 | exact kit_ty k7
theorem intD {d : PyData} (h : isIntD d = true) : ∃ i, d = .int i := by
  cases d <;> first | exact ⟨_, rfl⟩ | cases h
theorem tv_int {H : Hp} {v : V} {i : Int} (h : TV H v (.int i)) : v = .int i := by
  cases h
  rfl
def fl (f : Nat → Int) (L : Nat) : List V := (List.range L).map fun i => V.int (f i)
theorem fl_len (f : Nat → Int) (L : Nat) : (fl f L).length = L := by unfold fl; simp
theorem fl_at {f : Nat → Int} {L i : Nat} (h : i < L) : (fl f L)[i]? = some (.int (f i)) := by
  unfold fl
  rw [List.getElem?_map, List.getElem?_range h]
  rfl
theorem fl_ints (xs : List Int) (p : Nat) (d : Int) : xs.map V.int = fl (ext xs p d) xs.length := by
  conv => lhs; rw [ext_list (xs := xs) (p := p) (d := d)]
  unfold fl
  rw [List.map_map]
  rfl
theorem fl_drop (f : Nat → Int) (s L : Nat) : (fl f L).drop s = fl (fun n => f (s + n)) (L - s) := by
  refine List.ext_getElem? fun i => ?_
  rw [List.getElem?_drop]
  by_cases h : i < L - s
  · rw [fl_at h, fl_at (by omega)]
  · rw [List.getElem?_eq_none_iff.mpr (by rw [fl_len]; omega), List.getElem?_eq_none_iff.mpr (by rw [fl_len]; omega)]
theorem fl_take (f : Nat → Int) (s L : Nat) (h : s ≤ L) : (fl f L).take s = fl f s := by
  refine List.ext_getElem? fun i => ?_
  by_cases hi : i < s
  · rw [List.getElem?_take_of_lt hi, fl_at (by omega), fl_at hi]
  · rw [List.getElem?_eq_none_iff.mpr (by rw [List.length_take, fl_len]; omega), List.getElem?_eq_none_iff.mpr (by rw [fl_len]; omega)]
theorem fl_snoc (f : Nat → Int) (L : Nat) : fl f L ++ [V.int (f L)] = fl f (L + 1) := by
  unfold fl
  rw [List.range_succ, List.map_append]
  rfl
theorem fl_app (f : Nat → Int) (L M : Nat) : fl f L ++ fl (fun n => f (L + n)) M = fl f (L + M) := by
  induction M with
  | zero => simp [fl]
  | succ M ih => rw [← fl_snoc, ← List.append_assoc, ih, ← Nat.add_assoc, ← fl_snoc]
section
variable {P : Program} {w : World} {K : PySem.W.Frag} {mg : Str → Option Value} {base : Heap} {CE CN CT CB CR : Addr} {tM tP tF : Tok}
def spInt : Sp := fun vs H Q _ => ∃ (v : V) (d : PyData), vs = [v] ∧ TV H v d ∧ Q (.bl (isIntD d)) H
abbrev s_is_integer : Stmt := top 7
abbrev N_is_integer : List Str := ["value"]
theorem sc_is_integer : FnScope N_is_integer ["value"] (defScope s_is_integer) := ⟨rfl, rfl, rfl, by decide +kernel, rfl, by decide +kernel, by decide +kernel⟩
theorem ok_int {f : Addr} {fd : FuncData} (F : Fun K "is_integer" "is_integer" s_is_integer f fd) (T : Tx K mg CE CN CT CB CR tM tP tF) : FnOk P w K mg base CX0 1 f fd ["value"] spInt := by
  refine F.ok sc_is_integer (fun vs H Q E h => ?_) (fun cdv A outer s H vs Q E hr h => ?_)
  · obtain ⟨v, d, rfl, _⟩ := h
    rfl
  · obtain ⟨v, d, rfl, hv, k⟩ := h
    refine ⟨_, (pss_one (ps_ret (pe_and (pe_callB call_isi (by rfl) (T.bn _ (by decide +kernel)) (by decide +kernel) (pa_cons (pv 0) (pa_cons (pe_gty (T := "int") (by rfl) (T.bn _ (by decide +kernel)) (by decide +kernel)) pa_nil))) (pe_one (pe_not (pe_callB call_isi (by rfl) (T.bn _ (by decide +kernel)) (by decide +kernel) (pa_cons (pv 0) (pa_cons (pe_gty (T := "bool") (by rfl) (T.bn _ (by decide +kernel)) (by decide +kernel)) pa_nil)))))))), ?_⟩
    refine ⟨_, rfl, _, _, _, _, isNumD d, rfl, .ty "int", tyX_of hv, kit_int d, ?_⟩
    cases hn : isNumD d with
    | false =>
      refine ⟨_, rfl, iteF ?_⟩
      rw [show isIntD d = false by cases d <;> first | rfl | cases hn] at k
      exact k
    | true =>
      refine ⟨_, rfl, iteT ?_⟩
      refine ⟨_, rfl, _, _, _, _, isBoolD d, rfl, .ty "bool", tyX_of hv, kit_bool d, _, rfl, ?_⟩
      rw [show (!isBoolD d) = isIntD d by cases d <;> first | rfl | cases hn]
      exact k
def spGoes : Sp := fun vs H Q _ => ∃ (l : Addr) (g : Nat → Int) (st L q : Nat) (e : Int), vs = [.ref l, .int st, .int q, .int e] ∧ H l = some (.lst (fl g L)) ∧ L ≤ 1000000 ∧ q ≤ L ∧ st ≤ L ∧
  (GO g st L q e → Q (.bl true) H) ∧ (¬ GO g st L q e → Q (.bl false) H)
abbrev s_goes_on : Stmt := top 16
abbrev N_goes_on : List Str := ["numbers", "start", "period", "step", "n"]
theorem sc_goes_on : FnScope N_goes_on ["numbers", "start", "period", "step"] (defScope s_goes_on) := ⟨rfl, rfl, rfl, by decide +kernel, rfl, by decide +kernel, by decide +kernel⟩
theorem ok_goes {f : Addr} {fd : FuncData} (F : Fun K "goes_on" "goes_on" s_goes_on f fd) (T : Tx K mg CE CN CT CB CR tM tP tF) : FnOk P w K mg base CX0 1 f fd ["numbers", "start", "period", "step"] spGoes := by
  refine F.ok sc_goes_on (fun vs H Q E h => ?_) (fun cdv A outer s H vs Q E hr h => ?_)
  · obtain ⟨l, g, st, L, q, e, rfl, _⟩ := h
    rfl
  · obtain ⟨l, g, st, L, q, e, rfl, hl, hL, hq, hst, k1, k2⟩ := h
    refine ⟨_, (pss_cons (ps_for PassesOwn.never rfl (pi_range2 rfl (T.bn _ (by decide +kernel)) (pa_cons (pv 1) (pa_cons (pe_op op_sub (pe_callB call_len_seq (by rfl) (T.bn _ (by decide +kernel)) (by decide +kernel) (pa_cons (pv 0) pa_nil)) (pv 2)) pa_nil))) (pg_name (i := 4) sc_goes_on.nd rfl (by first | exact Or.inl rfl | exact Or.inr rfl))
      (pss_one (ps_if (pt_cmpR op_ne (pe_ix ix_list (pv 0) (pe_op op_add (pv 4) (pv 2)) (fun _ _ => rfl)) (pe_op op_add (pe_ix ix_list (pv 0) (pv 4) (fun _ _ => rfl)) (pv 3)) (nomark _)) (pss_one (ps_ret pe_bl)) pss_nil)))
      (pss_one (ps_ret pe_bl))), ?_⟩
    refine ⟨_, rfl, _, rfl, l, _, rfl, .inl (SqL.of hl), _, rfl, _, _, rfl, rfl, ?_⟩
    rw [fl_len]
    refine ⟨_, _, rfl, ⟨by omega, by omega, by omega, by omega⟩, ?_⟩
    rw [show ((L : Int) - q - st).toNat = L - q - st by omega]
    refine for_range (n := L - q - st) (fun i σ H' => ∃ x4, σ = [some (.ref l), some (.int st), some (.int q), some (.int e), x4] ∧ H' = H ∧ ∀ n, st ≤ n → n < st + i → g (n + q) = g n + e) ⟨_, rfl, rfl, fun n h1 h2 => by omega⟩ ?_ ?_
    · rintro i σ H' hi ⟨x4, rfl, rfl, ih⟩
      have hi : i < L - q - st := hi
      refine ⟨_, rfl, _, rfl, _, rfl, _, _, rfl, rfl, l, _, _, .int (g (st + i + q)), rfl, rfl, SqL.of hl, atI_at (j := st + i + q) (by omega) (fl_at (by omega)), ?_⟩
      refine ⟨_, rfl, _, rfl, l, _, _, .int (g (st + i)), rfl, rfl, SqL.of hl, atI_at (j := st + i) (by omega) (fl_at (by omega)), _, rfl, _, _, rfl, rfl, rfl, _, rfl, ?_⟩
      by_cases he : g (st + i + q) = g (st + i) + e
      · refine iteNo (by rw [he, decide_eq_true rfl]; rfl) ?_
        refine ⟨_, rfl, rfl, fun n h1 h2 => ?_⟩
        by_cases hn : n = st + i
        · rw [hn]; exact he
        · exact ih n h1 (by omega)
      · refine iteYes (by rw [decide_eq_false fun z => he (V.int.inj z)]; rfl) ?_
        exact k2 fun go => he (go (st + i) (by omega) (by omega))
    · rintro σ H' ⟨x4, rfl, rfl, ih⟩
      exact k1 fun n h1 h2 => ih n h1 (by omega)
end
end K09
end
section
set_option Elab.async false
set_option autoImplicit false
set_option linter.all false
set_option maxRecDepth 100000
set_option maxHeartbeats 4000000
set_option pp.maxSteps 1500
namespace K09
open PySem PySem.Spec PyProof.Rows L2 Ls RowM
open C8 (pss_cut tCut)
open TL
theorem fl_plus (f : Nat → Int) (s p : Nat) (d : Int) (h : EQ f s p d) : fl (fun n => f (s + n)) p ++ (List.range p).map (fun i => V.int (f (s + i) + d)) = fl (fun n => f (s + n)) (2 * p) := by
  rw [show 2 * p = p + p by omega, ← fl_app]
  refine congrArg _ ?_
  unfold fl
  refine List.map_congr_left fun i hi => ?_
  show _ = V.int (f (s + (p + i)))
  rw [show s + (p + i) = s + i + p by omega, h.per (s + i) (by omega)]
section
variable {P : Program} {w : World} {K : PySem.W.Frag} {mg : Str → Option Value} {base : Heap} {CE CN CT CB CR : Addr} {tM tP tF : Tok}
def spLP (K : PySem.W.Frag) : Sp := fun vs H Q _ => ∃ (l : Addr) (f : Nat → Int) (s p : Nat) (d : Int), vs = [.ref l, .int s, .int p, .int d] ∧ H l = some (.lst (fl f (s + p))) ∧ EQ f s p d ∧ s + p ≤ 100000 ∧
  ∀ (t : Addr) (q : Nat) (e : Int) (H' : Hp), Ext H H' → H' t = some (.tup [.int q, .int e]) → LeastP f s q e → q ≤ p → Q (.ref t) H'
abbrev s_least_period : Stmt := top 17
abbrev N_least_period : List Str := ["numbers", "start", "period", "step", "turns", "number", "few"]
theorem sc_least_period : FnScope N_least_period ["numbers", "start", "period", "step"] (defScope s_least_period) := ⟨rfl, rfl, rfl, by decide +kernel, rfl, by decide +kernel, by decide +kernel⟩
theorem ok_lp {fa : Addr} {fd : FuncData} (F : Fun K "least_period" "least_period" s_least_period fa fd) (T : Tx K mg CE CN CT CB CR tM tP tF) (c_goes_on : Cal P w K mg base CX0 1 "goes_on" spGoes) : FnOk P w K mg base CX0 2 fa fd ["numbers", "start", "period", "step"] (spLP K) := by
  refine F.ok sc_least_period (fun vs H Q E h => ?_) (fun cdv A outer s0 H vs Q E hr h => ?_)
  · obtain ⟨l, f, s, p, d, rfl, _⟩ := h
    rfl
  · obtain ⟨l, f, s, p, d, rfl, hl, hq, hL, k⟩ := h
    have h4 : sizeLine = 16777216 := sizeLine_eq
    have hp1 := hq.pos
    refine ⟨_, (pss_cons (ps_set (i := 4) sc_least_period.nd rfl (by first | exact Or.inl rfl | exact Or.inr rfl) (pe_lst (StX.pa_star (pe_slice sl_list (pv 0) (po_some (pv 1)) po_none) (StX.pa_star (pe_lc (own := [("number", 5)]) rfl sc_least_period.nd (pi_list (pe_slice sl_list (pv 0) (po_some (pv 1)) po_none)) (blkOk_by (own := [("number", 5)]) (N := N_least_period) (sc := defScope s_least_period) (by decide +kernel)) (fun _ _ _ _ _ => (pg_name (i := 5) sc_least_period.nd rfl (by first | exact Or.inl rfl | exact Or.inr rfl))) (fun _ _ _ _ _ => pts_nil) (fun _ _ _ _ _ => (pe_op op_add (pv 5) (pv 3)))) pa_nil))))
      (pss_cons (ps_for PassesOwn.never rfl (pi_range2 rfl (T.bn _ (by decide +kernel)) (pa_cons pe_int (pa_cons (pv 2) pa_nil))) (pg_name (i := 6) sc_least_period.nd rfl (by first | exact Or.inl rfl | exact Or.inr rfl))
      (pss_one (ps_if ((pw_and (pt_cmpR op_eq (pe_op op_mod (pv 2) (pv 6)) pe_int (nomark _)) (pw_and (pt_cmpR op_eq (pe_op op_mod (pe_op op_mul (pv 3) (pv 6)) (pv 2)) pe_int (nomark _)) (pw_and1 (pt_val (pe_cal c_goes_on (hr.mono (by decide)) (by rfl) pass0 (pa_cons (pv 4) (pa_cons pe_int (pa_cons (pv 6) (pa_cons (pe_op op_fdiv (pe_op op_mul (pv 3) (pv 6)) (pv 2)) pa_nil)))))))))).pt (pss_one (ps_ret (pe_tup (pa_cons (pv 6) (pa_cons (pe_op op_fdiv (pe_op op_mul (pv 3) (pv 6)) (pv 2)) pa_nil))))) pss_nil)))
      (pss_one (ps_ret (pe_tup (pa_cons (pv 2) (pa_cons (pv 3) pa_nil))))))), ?_⟩
    refine ⟨_, rfl, _, rfl, s, rfl, l, _, rfl, SqL.of hl, fun c1 nc1 => ?_⟩
    rw [cutV_from _ (Int.natCast_nonneg s), Int.toNat_natCast, fl_drop, Nat.add_sub_cancel_left]
    have e1 : Ext H (upd H c1 (.lst (fl (fun n => f (s + n)) p))) := Ext.upd nc1
    have f1 : (upd H c1 (.lst (fl (fun n => f (s + n)) p))) c1 = some (.lst (fl (fun n => f (s + n)) p)) := upd_same
    generalize (upd H c1 (.lst (fl (fun n => f (s + n)) p))) = H1 at e1 f1
    refine ⟨c1, _, rfl, .inr (SqL.of f1), ?_⟩
    refine ⟨_, rfl, _, rfl, s, rfl, l, _, rfl, SqL.of (e1 _ _ hl), fun c2 nc2 => ?_⟩
    rw [cutV_from _ (Int.natCast_nonneg s), Int.toNat_natCast, fl_drop, Nat.add_sub_cancel_left]
    have e2 : Ext H1 (upd H1 c2 (.lst (fl (fun n => f (s + n)) p))) := Ext.upd nc2
    have f2 : (upd H1 c2 (.lst (fl (fun n => f (s + n)) p))) c2 = some (.lst (fl (fun n => f (s + n)) p)) := upd_same
    generalize (upd H1 c2 (.lst (fl (fun n => f (s + n)) p))) = H2 at e2 f2
    refine ⟨c2, rfl, ⟨_, SqL.of f2⟩, fun D hD => ?_⟩
    have nDc : c2 ≠ D := ne_of_none f2 hD
    refine lc_it (walk_list (xs := fl (fun n => f (s + n)) p)) (fun i Hx => Hx = upd H2 D (.lst ((List.range i).map fun j => V.int (f (s + j) + d)))) rfl (fun i Hx _ e => by rw [e]; exact SqL.of (by rw [upd_ne nDc]; exact f2)) ?_ ?_
    · rintro i x Hx H' hi rfl ⟨rfl, hx⟩
      have hi : i < p := by rw [fl_len] at hi; exact hi
      rw [fl_at hi] at hx
      cases hx
      refine ⟨rfl, _, rfl, _, rfl, _, _, rfl, rfl, _, upd_same, ?_, ?_⟩
      · rw [List.length_map, List.length_range]
        omega
      · rw [upd_upd, List.range_succ, List.map_append]
        rfl
    · rintro Hx rfl
      rw [fl_len]
      refine ⟨D, _, rfl, .inr (SqL.of upd_same), ?_⟩
      have e3 : Ext H2 (upd H2 D (.lst ((List.range p).map fun j => V.int (f (s + j) + d)))) := Ext.upd hD
      generalize (upd H2 D (.lst ((List.range p).map fun j => V.int (f (s + j) + d)))) = H3 at e3
      dsimp only [tNil]
      rw [List.append_nil, fl_plus f s p d hq]
      refine ⟨by rw [fl_len]; omega, fun tt ntt => ?_⟩
      have e4 : Ext H3 (upd H3 tt (.lst (fl (fun n => f (s + n)) (2 * p)))) := Ext.upd ntt
      have f4 : (upd H3 tt (.lst (fl (fun n => f (s + n)) (2 * p)))) tt = some (.lst (fl (fun n => f (s + n)) (2 * p))) := upd_same
      generalize (upd H3 tt (.lst (fl (fun n => f (s + n)) (2 * p)))) = H4 at e4 f4
      have e04 : Ext H H4 := e1.trans (e2.trans (e3.trans e4))
      refine ⟨_, rfl, _, _, rfl, ⟨by omega, by omega, by omega, by omega⟩, ?_⟩
      rw [show ((p : Int) - 1).toNat = p - 1 by omega]
      refine for_range (n := p - 1) (fun i σ H' => ∃ x6, σ = [some (.ref l), some (.int s), some (.int p), some (.int d), some (.ref tt), none, x6] ∧ H' = H4 ∧ ∀ r, 1 ≤ r → r < 1 + i → ¬ Fits f s p d r) ⟨_, rfl, rfl, fun r h1 h2 => by omega⟩ ?_ ?_
      · rintro i σ H' hi ⟨x6, rfl, rfl, ih⟩
        have hi : i < p - 1 := hi
        have hqp : 1 + i < p := by omega
        have next : ¬ Fits f s p d (1 + i) → ∀ r, 1 ≤ r → r < 1 + (i + 1) → ¬ Fits f s p d r := fun no r h1 h2 => by
          by_cases h : r = 1 + i
          · rw [h]; exact no
          · exact ih r h1 (by omega)
        refine ⟨_, rfl, _, rfl, _, _, rfl, rfl, (by show (0 : Int) < 1 + (i : Int); omega), rfl, _, rfl, ?_⟩
        by_cases c1 : (1 + i) ∣ p
        case neg =>
          refine iteNo (decide_eq_false fun z => c1 ?_) ⟨_, rfl, rfl, next fun ft => c1 ft.1⟩
          have := Int.dvd_of_emod_eq_zero (V.int.inj z)
          exact Int.natCast_dvd_natCast.mp (by push_cast; exact this)
        refine iteYes (decide_eq_true (congrArg V.int (Int.emod_eq_zero_of_dvd (by have := Int.natCast_dvd_natCast.mpr c1; push_cast at this; exact this)))) ?_
        refine ⟨_, rfl, _, rfl, _, _, rfl, rfl, .inr ⟨by omega, by omega⟩, _, rfl, _, _, rfl, rfl, (by show (0 : Int) < (p : Int); omega), rfl, _, rfl, ?_⟩
        by_cases c2 : (p : Int) ∣ d * (1 + i : Nat)
        case neg =>
          refine iteNo (decide_eq_false fun z => c2 ?_) ⟨_, rfl, rfl, next fun ft => c2 ft.2.1⟩
          have := Int.dvd_of_emod_eq_zero (V.int.inj z)
          push_cast
          exact this
        refine iteYes (decide_eq_true (congrArg V.int (Int.emod_eq_zero_of_dvd (by push_cast at c2; exact c2)))) ?_
        refine ⟨_, rfl, _, rfl, _, rfl, _, rfl, _, _, rfl, rfl, .inr ⟨by omega, by omega⟩, _, rfl, _, _, rfl, rfl, ⟨by omega, by omega⟩, ?_⟩
        refine ⟨tt, fun n => f (s + n), 0, 2 * p, 1 + i, d * (1 + i : Nat) / p, rfl, f4, by omega, by omega, by omega, fun go => ⟨_, rfl, iteT ?_⟩, fun no => ⟨_, rfl, iteF ⟨_, rfl, rfl, next fun ft => no ft.2.2⟩⟩⟩
        refine ⟨_, rfl, _, rfl, _, rfl, _, _, rfl, rfl, .inr ⟨by omega, by omega⟩, _, rfl, _, _, rfl, rfl, ⟨by omega, by omega⟩, (by show 2 ≤ sizeLine; decide), fun t nt => ?_⟩
        exact k t (1 + i) (d * (1 + i : Nat) / p) _ (e04.trans (Ext.upd nt)) upd_same (leastP_first hq (by omega) hqp ⟨c1, c2, go⟩ fun r h1 h2 => ih r h1 (by omega)) (by omega)
      · rintro σ H' ⟨x6, rfl, rfl, ih⟩
        refine ⟨_, rfl, _, rfl, (by show 2 ≤ sizeLine; decide), fun t nt => ?_⟩
        exact k t p d _ (e04.trans (Ext.upd nt)) upd_same (leastP_none hq fun r h1 h2 => ih r h1 (by omega)) (Nat.le_refl _)
end
end K09
end
section
set_option Elab.async false
set_option autoImplicit false
set_option linter.all false
set_option maxRecDepth 100000
set_option maxHeartbeats 4000000
set_option pp.maxSteps 1500
namespace K09
open PySem PySem.Spec PyProof.Rows L2 Ls RowM
open C8 (pss_cut tCut)
open TL
section
variable {P : Program} {w : World} {K : PySem.W.Frag} {mg : Str → Option Value} {base : Heap} {CE CN CT CB CR : Addr} {tM tP tF : Tok}
def spSet : Sp := fun vs H Q _ => ∃ (l : Addr) (f : Nat → Int) (L p : Nat) (d : Int), vs = [.ref l, .int p, .int d] ∧ H l = some (.lst (fl f L)) ∧ EQ f (L - p) p d ∧ p ≤ L ∧ L ≤ 100000 ∧
  ∀ (t x : Addr) (s q : Nat) (e : Int) (H' : Hp), Ext H H' → Can f s q e → s + q ≤ L → H' t = some (.tup [.ref x, .int q, .int e]) → H' x = some (.lst (fl f (s + q))) → Q (.ref t) H'
abbrev s_settled : Stmt := top 18
abbrev N_settled : List Str := ["numbers", "period", "step", "start"]
theorem sc_settled : FnScope N_settled ["numbers", "period", "step"] (defScope s_settled) := ⟨rfl, rfl, rfl, by decide +kernel, rfl, by decide +kernel, by decide +kernel⟩
theorem ok_settled {fa : Addr} {fd : FuncData} (F : Fun K "settled" "settled" s_settled fa fd) (T : Tx K mg CE CN CT CB CR tM tP tF) (c_least_period : Cal P w K mg base CX0 2 "least_period" (spLP K)) : FnOk P w K mg base CX0 3 fa fd ["numbers", "period", "step"] spSet := by
  refine F.ok sc_settled (fun vs H Q E h => ?_) (fun cdv A outer s0 H vs Q E hr h => ?_)
  · obtain ⟨l, f, L, p, d, rfl, _⟩ := h
    rfl
  · obtain ⟨l, f, L, p, d, rfl, hl, hq, hpL, hL, k⟩ := h
    have h4 : sizeLine = 16777216 := sizeLine_eq
    have hp1 := hq.pos
    refine ⟨_, (pss_cons (ps_set (i := 3) sc_settled.nd rfl (by first | exact Or.inl rfl | exact Or.inr rfl) (pe_op op_sub (pe_callB call_len_seq (by rfl) (T.bn _ (by decide +kernel)) (by decide +kernel) (pa_cons (pv 0) pa_nil)) (pv 1)))
      (pss_cons (ps_asg (pe_cal c_least_period (hr.mono (by decide)) (by rfl) pass0 (pa_cons (pv 0) (pa_cons (pv 3) (pa_cons (pv 1) (pa_cons (pv 2) pa_nil))))) (pg_tup rfl (pgs_cons (pg_name (i := 1) sc_settled.nd rfl (by first | exact Or.inl rfl | exact Or.inr rfl)) (pgs_cons (pg_name (i := 2) sc_settled.nd rfl (by first | exact Or.inl rfl | exact Or.inr rfl)) pgs_nil))))
      (pss_cons (ps_while PassesOwn.never ((pw_and (pt_cmpR op_gt (pv 3) pe_int (nomark _)) (pw_and1 (pt_cmpR op_eq (pe_ix ix_list (pv 0) (pe_op op_add (pe_op op_sub (pv 3) pe_int) (pv 1)) (fun _ _ => rfl)) (pe_op op_add (pe_ix ix_list (pv 0) (pe_op op_sub (pv 3) pe_int) (fun _ _ => rfl)) (pv 2)) (nomark _))))).pt
      (pss_one (ps_set (i := 3) sc_settled.nd rfl (by first | exact Or.inl rfl | exact Or.inr rfl) (pe_op op_sub (pv 3) pe_int))))
      (pss_one (ps_ret (pe_tup (pa_cons (pe_slice sl_list (pv 0) po_none (po_some (pe_op op_add (pv 3) (pv 1)))) (pa_cons (pv 1) (pa_cons (pv 2) pa_nil))))))))), ?_⟩
    refine ⟨_, rfl, l, _, rfl, .inl (SqL.of hl), _, rfl, _, _, rfl, rfl, ?_⟩
    rw [fl_len]
    refine ⟨_, rfl, _, rfl, _, rfl, _, rfl, l, f, L - p, p, d, by show [V.ref l, V.int ((L : Int) - p), V.int p, V.int d] = _; rw [show ((L : Int) - p) = ((L - p : Nat) : Int) by omega], by rw [Nat.sub_add_cancel hpL]; exact hl, hq, by omega, fun t q e H1 e1 f1 lp hqp => ?_⟩
    refine ⟨t, _, rfl, SqT.of f1, rfl, _, _, rfl, _, _, rfl, rfl, ?_⟩
    have hl1 := e1 _ _ hl
    refine ⟨fun m σ H' => σ = [some (.ref l), some (.int q), some (.int e), some (.int m)] ∧ H' = H1 ∧ m + p ≤ L ∧ LeastP f m q e, ⟨L - p, by rw [show ((L - p : Nat) : Int) = (L : Int) - p by omega]; rfl, rfl, by omega, lp⟩, ?_⟩
    rintro m σ H' ⟨rfl, rfl, hm, lpm⟩
    have fin : Can f m q e → ∀ c : Addr, H' c = none → ∀ t : Addr, (upd H' c (.lst (fl f (m + q)))) t = none → Q (.ref t) (upd (upd H' c (.lst (fl f (m + q)))) t (.tup [.ref c, .int q, .int e])) := fun can c nc t nt =>
      k t c m q e _ (e1.trans ((Ext.upd nc).trans (Ext.upd nt))) can (by omega) upd_same (by rw [upd_ne (ne_of_none upd_same nt)]; exact upd_same)
    have out : Can f m q e → tRet (tTup (tCons (tSl (rSlL K) (tVar 0) tNoPart (tPart (tOp (rI0 fun i j => V.int (i + j)) (tVar 3) (tVar 1)))) (tCons (tVar 1) (tCons (tVar 2) tNil)))) { nx := fun x H' => Q V.non H', rt := Q } [some (.ref l), some (.int q), some (.int e), some (.int m)] H' := fun can => by
      refine ⟨_, rfl, _, rfl, _, rfl, _, _, rfl, rfl, _, rfl, l, _, rfl, SqL.of hl1, fun c nc => ?_⟩
      rw [cutV_to _ (by omega), show ((m : Int) + (q : Int)).toNat = m + q by omega, fl_take f (m + q) L (by omega)]
      exact ⟨_, rfl, _, rfl, (by show 3 ≤ sizeLine; decide), fun t nt => fin can c nc t nt⟩
    refine ⟨_, rfl, _, _, rfl, rfl, _, rfl, ?_⟩
    by_cases h0 : 0 < m
    case neg => exact iteNo (decide_eq_false (by omega)) (out (lpm.can (.inl (by omega))))
    refine iteYes (decide_eq_true (by omega)) ?_
    obtain ⟨m, rfl⟩ : ∃ m', m = m' + 1 := ⟨m - 1, by omega⟩
    refine ⟨_, rfl, _, rfl, _, _, rfl, rfl, _, rfl, _, _, rfl, rfl, l, _, _, .int (f (m + q)), rfl, rfl, SqL.of hl1, atI_at (j := m + q) (by omega) (fl_at (by omega)), ?_⟩
    refine ⟨_, rfl, _, rfl, _, _, rfl, rfl, l, _, _, .int (f m), rfl, rfl, SqL.of hl1, atI_at (j := m) (by omega) (fl_at (by omega)), _, rfl, _, _, rfl, rfl, rfl, _, rfl, ?_⟩
    by_cases he : f (m + q) = f m + e
    case neg => exact iteNo (decide_eq_false fun z => he (V.int.inj z)) (out (lpm.can (.inr he)))
    refine iteYes (decide_eq_true (congrArg V.int he)) ?_
    refine ⟨fun σ' H'' => σ' = [some (.ref l), some (.int q), some (.int e), some (.int m)] ∧ H'' = H' ∧ m + p ≤ L ∧ LeastP f m q e, fun σ' H'' h => ⟨m, by omega, h⟩, ?_⟩
    refine ⟨_, rfl, _, _, rfl, rfl, ?_⟩
    exact ⟨by show [some (V.ref l), some (V.int q), some (V.int e), some (V.int (((m + 1 : Nat) : Int) - 1))] = _; rw [show ((m + 1 : Nat) : Int) - 1 = (m : Int) by omega], rfl, by omega, lpm.back he⟩
end
end K09
end
section
set_option Elab.async false
set_option autoImplicit false
set_option linter.all false
set_option maxRecDepth 100000
set_option maxHeartbeats 4000000
set_option pp.maxSteps 1500
namespace K09
open PySem PySem.Spec PyProof.Rows L2 Ls RowM
open C8 (pss_cut tCut)
open TL
def Errs (C : Addr) (f : Str) (v : V) (H : Hp) (E : XK) : Prop := ∀ dd H', Ext H H' → nw H H' dd = some (.xd [(f, v)]) → E (.ref C) (some dd) H'
theorem Errs.ext {C : Addr} {f : Str} {v : V} {H H1 : Hp} {E : XK} (h : Errs C f v H E) (e : Ext H H1) : Errs C f v H1 E := fun dd H' e' q => h dd H' (e.trans e') (nw_back e _ _ q)
theorem Errs.at {C : Addr} {f : Str} {v : V} {H H1 : Hp} {E : XK} (h : Errs C f v H E) (e : Ext H H1) {dd : Addr} (nd : H1 dd = none) : E (.ref C) (some dd) (upd H1 dd (.xd [(f, v)])) :=
  h dd _ (e.trans (Ext.upd nd)) (by rw [nw_at (ext_free e nd)]; exact upd_same)
def KeepX (x : Addr) (H H' : Hp) : Prop := ∀ b o, H b = some o → b ≠ x → H' b = some o
abbrev rowFs (t : Addr) (p : Nat) (d : Int) : List (Str × V) := [("told", .ref t), ("many", .int p), ("gain", .int d)]
structure RowAt (CR : Addr) (H : Hp) (a : Addr) (f : Nat → Int) (s p : Nat) (d : Int) : Prop where
  ex : ∃ dx t, H a = some (.ins CR dx (rowFs t p d)) ∧ H t = some (.tup (fl f (s + p)))
  can : Can f s p d
  le : s + p ≤ 2000
theorem RowAt.ext {CR : Addr} {H H' : Hp} {a : Addr} {f : Nat → Int} {s p : Nat} {d : Int} (h : RowAt CR H a f s p d) (e : Ext H H') : RowAt CR H' a f s p d := by
  obtain ⟨dx, t, h1, h2⟩ := h.ex
  exact ⟨⟨dx, t, e _ _ h1, e _ _ h2⟩, h.can, h.le⟩
theorem RowAt.extN {CR : Addr} {H H' : Hp} {a : Addr} {f : Nat → Int} {s p : Nat} {d : Int} (h : RowAt CR H a f s p d) (e : LamX.ExtN H H') : RowAt CR H' a f s p d := by
  obtain ⟨dx, t, h1, h2⟩ := h.ex
  exact ⟨⟨dx, t, e _ _ h1 fun ps z => (by cases z), e _ _ h2 fun ps z => (by cases z)⟩, h.can, h.le⟩
structure ClR (K : PySem.W.Frag) (CR : Addr) : Prop where
  cl : Cls K CR
  nT : NoAttr K CR "told"
  nM : NoAttr K CR "many"
  nG : NoAttr K CR "gain"
theorem kit_seqL {K : PySem.W.Frag} : PySem.W.kitAny K (.type "list") [.type "list", .type "tuple"] = some true := by
  have k1 : PySem.W.kitOne K (.type "list") (.type "list") = some true := kit_ty (by decide +kernel)
  have k2 : PySem.W.kitOne K (.type "list") (.type "tuple") = some false := kit_ty (by decide +kernel)
  unfold PySem.W.kitAny
  simp [k1, k2]
theorem kit_seqT {K : PySem.W.Frag} : PySem.W.kitAny K (.type "tuple") [.type "list", .type "tuple"] = some true := by
  have k1 : PySem.W.kitOne K (.type "tuple") (.type "list") = some false := kit_ty (by decide +kernel)
  have k2 : PySem.W.kitOne K (.type "tuple") (.type "tuple") = some true := kit_ty (by decide +kernel)
  exact kitAny_cons k1 (fun _ => kitAny_cons k2 (fun z => nomatch z) fun _ => rfl) (fun z => nomatch z)
section
variable {P : Program} {w : World} {K : PySem.W.Frag} {mg : Str → Option Value} {base : Heap} {CE CN CT CB CR : Addr} {tM tP tF : Tok}
def spRow0 (CT CR : Addr) : Sp := fun vs H Q E => ∃ (x dx l : Addr) (f : Nat → Int) (L p : Nat) (d : Int), vs = [.ref x, .ref l, .int p, .int d] ∧ H x = some (.ins CR dx []) ∧ (H l = some (.lst (fl f L)) ∨ H l = some (.tup (fl f L))) ∧ EQ f (L - p) p d ∧ p ≤ L ∧ L ≤ 100000 ∧
  ∀ s q e, Can f s q e → s + q ≤ L → (s + q ≤ 2000 → ∀ H', KeepX x H H' → RowAt CR H' x f s q e → Q .non H') ∧ (2000 < s + q → ∀ H1, KeepX x H H1 → Errs CT "most" (.int 2000) H1 E)
abbrev s_Row_init : Stmt := inClass (top 31) 1
abbrev N_Row_init : List Str := ["self", "numbers", "period", "step", "value", "first", "many", "gain"]
theorem sc_Row_init : FnScope N_Row_init ["self", "numbers", "period", "step"] (defScope s_Row_init) := ⟨rfl, rfl, rfl, by decide +kernel, rfl, by decide +kernel, by decide +kernel⟩
theorem ok_Row_init {fa : Addr} {fd : FuncData} (F : Fun K "__init__" "Row.__init__" s_Row_init fa fd) (T : Tx K mg CE CN CT CB CR tM tP tF) (hC : ClR K CR) (c_is_integer : Cal P w K mg base CX0 1 "is_integer" spInt) (c_settled : Cal P w K mg base CX0 3 "settled" spSet)
    (x_BadNumber : Xer P w K mg base CN "BadNumber" ["value"]) (x_TooMany : Xer P w K mg base CT "TooMany" ["most"]) : FnOk P w K mg base (L2.CX P w) 4 fa fd ["self", "numbers", "period", "step"] (spRow0 CT CR) := by
  refine F.okX sc_Row_init (fun vs H Q E h => ?_) (fun cdv A outer s0 H vs Q E hr h => ?_)
  · obtain ⟨x, dx, l, f, L, p, d, rfl, _⟩ := h
    rfl
  · obtain ⟨x, dx, l, f, L, p, d, rfl, hx, hl, hq, hpL, hL, k⟩ := h
    have h4 : sizeLine = 16777216 := sizeLine_eq
    have hp1 := hq.pos
    refine ⟨_, (pss_cons (ps_if ((pw_or (pt_not (pt_val (pe_callB call_isiT (by rfl) (T.bn _ (by decide +kernel)) (by decide +kernel) (pa_cons (pv 1) (pa_cons (pe_tup (pa_cons (pe_gty (T := "list") (by rfl) (T.bn _ (by decide +kernel)) (by decide +kernel)) (pa_cons (pe_gty (T := "tuple") (by rfl) (T.bn _ (by decide +kernel)) (by decide +kernel)) pa_nil))) pa_nil))))) (pw_or1 (pt_cmpR op_eq (pe_callB call_len_seq (by rfl) (T.bn _ (by decide +kernel)) (by decide +kernel) (pa_cons (pv 1) pa_nil)) pe_int (nomark _))))).pt (pss_one (ps_raise rfl tkC (pmk_err x_BadNumber (hr.mono (by decide)) (by rfl) (pa_cons (pv 1) pa_nil)))) pss_nil)
      (pss_cons (ps_if ((pw_or (pt_not (pt_val (pe_cal c_is_integer (hr.mono (by decide)) (by rfl) pass0 (pa_cons (pv 2) pa_nil)))) (pw_or1 (pt_not (pt_chain op_le op_le pe_int (pv 2) (pe_callB call_len_seq (by rfl) (T.bn _ (by decide +kernel)) (by decide +kernel) (pa_cons (pv 1) pa_nil))))))).pt (pss_one (ps_raise rfl tkC (pmk_err x_BadNumber (hr.mono (by decide)) (by rfl) (pa_cons (pv 2) pa_nil)))) pss_nil)
      (pss_cons (ps_for (passes_of rfl) rfl (pi_tup (pe_tup (pa_cons (pv 3) (StX.pa_star (pv 1) pa_nil)))) (pg_name (i := 4) sc_Row_init.nd rfl (by first | exact Or.inl rfl | exact Or.inr rfl))
      (pss_one (ps_if (pt_not (pt_val (pe_cal c_is_integer (hr.mono (by decide)) (by rfl) pass0 (pa_cons (pv 4) pa_nil)))) (pss_one (ps_raise rfl tkC (pmk_err x_BadNumber (hr.mono (by decide)) (by rfl) (pa_cons (pv 4) pa_nil)))) pss_nil)))
      (pss_cons (ps_asg (pe_cal c_settled (hr.mono (by decide)) (by rfl) pass0 (pa_cons (pe_callTy call_list_of (by rfl) (T.bn _ (by decide +kernel)) (by decide +kernel) (pa_cons (pv 1) pa_nil)) (pa_cons (pv 2) (pa_cons (pv 3) pa_nil)))) (pg_tup rfl (pgs_cons (pg_name (i := 5) sc_Row_init.nd rfl (by first | exact Or.inl rfl | exact Or.inr rfl)) (pgs_cons (pg_name (i := 6) sc_Row_init.nd rfl (by first | exact Or.inl rfl | exact Or.inr rfl)) (pgs_cons (pg_name (i := 7) sc_Row_init.nd rfl (by first | exact Or.inl rfl | exact Or.inr rfl)) pgs_nil)))))
      (pss_cons (ps_if (pt_cmpR op_gt (pe_callB call_len_seq (by rfl) (T.bn _ (by decide +kernel)) (by decide +kernel) (pa_cons (pv 5) pa_nil)) (pe_gint (by rfl) T.m_MOST_NUMBERS) (nomark _)) (pss_one (ps_raise rfl tkC (pmk_err x_TooMany (hr.mono (by decide)) (by rfl) (pa_cons (pe_gint (by rfl) T.m_MOST_NUMBERS) pa_nil)))) pss_nil)
      (pss_cons (ps_fld (pv 0) (pe_callTy call_tuple_of (by rfl) (T.bn _ (by decide +kernel)) (by decide +kernel) (pa_cons (pv 5) pa_nil)) rfl)
      (pss_cons (ps_fld (pv 0) (pv 6) rfl)
      (pss_one (ps_fld (pv 0) (pv 7) rfl))))))))), ?_⟩
    obtain ⟨ty, hty, kty⟩ : ∃ ty, (∀ H', Ext H H' → TyX K H' (.ref l) ty) ∧ PySem.W.kitAny K ty [.type "list", .type "tuple"] = some true := by
      rcases hl with h | h
      · exact ⟨_, fun H' e => .base (.lst (e _ _ h)), kit_seqL⟩
      · exact ⟨_, fun H' e => .base (.tup (e _ _ h)), kit_seqT⟩
    have sq : ∀ {H' : Hp}, Ext H H' → SqL K H' l (fl f L) ∨ SqT K H' l (fl f L) := fun {H'} e => hl.elim (fun h => .inl (SqL.of (e _ _ h))) fun h => .inr (SqT.of (e _ _ h))
    refine ⟨_, rfl, (by show 2 ≤ sizeLine; decide), fun tp ntp => ?_⟩
    have e1 : Ext H (upd H tp (.tup [.ty "list", .ty "tuple"])) := Ext.upd ntp
    have f1 : (upd H tp (.tup [.ty "list", .ty "tuple"])) tp = some (.tup [.ty "list", .ty "tuple"]) := upd_same
    refine ⟨.ref l, tp, [.ty "list", .ty "tuple"], ty, _, true, rfl, f1, .cons (.ty _) (.cons (.ty _) .nil), hty _ e1, kty, ?_⟩
    generalize (upd H tp (.tup [.ty "list", .ty "tuple"])) = H1 at e1 f1
    refine ⟨_, rfl, iteF ?_⟩
    refine ⟨_, rfl, l, _, rfl, sq e1, rfl, _, rfl, ?_⟩
    rw [fl_len]
    refine iteNo (decide_eq_false fun z => by have := V.int.inj z; omega) ?_
    refine ⟨_, rfl, _, .int p, rfl, .int _, _, rfl, iteF ?_⟩
    refine ⟨_, rfl, _, _, rfl, rfl, true, congrArg V.bl (decide_eq_true (by omega)), iteT ?_⟩
    refine ⟨_, rfl, l, _, rfl, sq e1, _, _, rfl, rfl, ?_⟩
    rw [fl_len]
    refine ⟨_, rfl, iteNo (by rw [decide_eq_true (show (p : Int) ≤ L by omega)]; rfl) ?_⟩
    refine ⟨_, rfl, _, rfl, l, _, rfl, (sq e1).symm, ?_⟩
    refine ⟨(by show (V.int d :: (fl f L ++ [])).length ≤ sizeLine; rw [List.append_nil, List.length_cons, fl_len]; omega), fun tt ntt => ?_⟩
    have e2 : Ext H1 (upd H1 tt (.tup (V.int d :: (fl f L ++ [])))) := Ext.upd ntt
    have f2 : (upd H1 tt (.tup (V.int d :: (fl f L ++ [])))) tt = some (.tup (V.int d :: (fl f L ++ []))) := upd_same
    generalize (upd H1 tt (.tup (V.int d :: (fl f L ++ [])))) = H2 at e2 f2
    rw [List.append_nil] at f2
    have e02 := e1.trans e2
    have numI : ∀ (i : Nat) (v : V), (V.int d :: fl f L)[i]? = some v → ∃ j, v = .int j := fun i v hv => by
      cases i with
      | zero => exact ⟨d, by simpa using hv.symm⟩
      | succ i =>
        rw [List.getElem?_cons_succ] at hv
        have hi : i < L := by
          have := (List.getElem?_eq_some_iff.mp hv).1
          rw [fl_len] at this
          exact this
        rw [fl_at hi] at hv
        exact ⟨_, (Option.some.inj hv).symm⟩
    refine ⟨tt, rfl, ⟨_, SqT.of f2⟩, for_it (walk_tup (K := K) (xs := V.int d :: fl f L)) (fun i σ H' => ∃ x4, σ = [some (.ref x), some (.ref l), some (.int p), some (.int d), x4, none, none, none] ∧ H' = H2) ⟨_, rfl, rfl⟩ (fun i σ H' _ ⟨_, _, e⟩ => SqT.of (by rw [e]; exact f2)) ?_ ?_⟩
    · rintro i v σ H' _ hi ⟨x4, rfl, rfl⟩ ⟨rfl, hv⟩
      obtain ⟨j, rfl⟩ := numI i v hv
      refine ⟨_, rfl, _, .int j, rfl, .int _, _, rfl, iteF ?_⟩
      exact ⟨_, rfl, rfl⟩
    · rintro σ H' ⟨x4, rfl, rfl⟩
      refine ⟨_, rfl, l, _, rfl, sq e02, fun N nN => ?_⟩
      have e3 : Ext H' (upd H' N (.lst (fl f L))) := Ext.upd nN
      refine ⟨_, rfl, _, rfl, N, f, L, p, d, rfl, upd_same, hq, hpL, hL, fun t y s q e H4 e4 can hsq f4 g4 => ?_⟩
      have e04 := e02.trans (e3.trans e4)
      obtain ⟨kOk, kErr⟩ := k s q e can hsq
      refine ⟨t, _, rfl, SqT.of f4, rfl, _, _, rfl, _, _, rfl, _, _, rfl, rfl, ?_⟩
      refine ⟨_, rfl, y, _, rfl, .inl (SqL.of g4), _, _, rfl, rfl, _, rfl, ?_⟩
      rw [fl_len]
      by_cases hm : 2000 < s + q
      · refine iteYes (decide_eq_true (by omega)) ?_
        exact ⟨rfl, (by show 1 ≤ 1000; decide), fun dd nd => (kErr hm H4 fun b o q _ => e04 b o q).at Ext.rfl' nd⟩
      refine iteNo (decide_eq_false (by omega)) ?_
      refine ⟨_, rfl, y, _, rfl, .inl ⟨SqL.of g4, fun u nu => ?_⟩⟩
      have hx4 := e04 _ _ hx
      have nux : u ≠ x := (ne_of_none hx4 nu).symm
      refine ⟨_, rfl, x, CR, dx, _, rfl, by rw [upd_ne nux.symm]; exact hx4, hC.cl, hC.nT, (by show 0 < 1000; decide), ?_⟩
      refine ⟨_, rfl, _, rfl, x, CR, dx, _, rfl, upd_same, hC.cl, hC.nM, (by show 1 < 1000; decide), ?_⟩
      refine ⟨_, rfl, _, rfl, x, CR, dx, _, rfl, upd_same, hC.cl, hC.nG, (by show 2 < 1000; decide), ?_⟩
      refine kOk (by omega) _ (fun b o hb hbx => ?_) ⟨⟨dx, u, upd_same, ?_⟩, can, by omega⟩
      · have h5 := e04 _ _ hb
        rw [upd_ne hbx, upd_ne hbx, upd_ne hbx, upd_ne (ne_of_none h5 nu)]
        exact h5
      · rw [upd_ne nux, upd_ne nux, upd_ne nux]
        exact upd_same
end
end K09
end
section
set_option Elab.async false
set_option autoImplicit false
set_option linter.all false
set_option maxRecDepth 100000
set_option maxHeartbeats 4000000
set_option pp.maxSteps 1500
namespace K09
open PySem PySem.Spec PyProof.Rows L2 Ls RowM
open C8 (pss_cut tCut)
open TL
def big : Nat := 2 ^ 900
section
variable {P : Program} {w : World} {K : PySem.W.Frag} {mg : Str → Option Value} {base : Heap} {CE CN CT CB CR : Addr} {tM tP tF : Tok}
def spNeed (CN : Addr) : Sp := fun vs H Q E => ∃ (v : V) (d : PyData) (m : Int), vs = [v, .int m] ∧ TV H v d ∧ (∀ i, d = .int i → m ≤ i → Q .non H) ∧ ((∀ i, d = .int i → i < m) → Errs CN "value" v H E)
abbrev s_need_from : Stmt := top 12
abbrev N_need_from : List Str := ["value", "least"]
theorem sc_need_from : FnScope N_need_from ["value", "least"] (defScope s_need_from) := ⟨rfl, rfl, rfl, by decide +kernel, rfl, by decide +kernel, by decide +kernel⟩
theorem ok_need {fa : Addr} {fd : FuncData} (F : Fun K "need_from" "need_from" s_need_from fa fd) (T : Tx K mg CE CN CT CB CR tM tP tF) (c_is_integer : Cal P w K mg base CX0 1 "is_integer" spInt) (x_BadNumber : Xer P w K mg base CN "BadNumber" ["value"]) :
    FnOk P w K mg base (L2.CX P w) 3 fa fd ["value", "least"] (spNeed CN) := by
  refine F.okX sc_need_from (fun vs H Q E h => ?_) (fun cdv A outer s0 H vs Q E hr h => ?_)
  · obtain ⟨v, d, m, rfl, _⟩ := h
    rfl
  · obtain ⟨v, d, m, rfl, hv, k1, k2⟩ := h
    refine ⟨_, (pss_one (ps_if ((pw_or (pt_not (pt_val (pe_cal c_is_integer (hr.mono (by decide)) (by rfl) pass0 (pa_cons (pv 0) pa_nil)))) (pw_or1 (pt_cmpR op_lt (pv 0) (pv 1) (nomark _))))).pt (pss_one (ps_raise rfl tkC (pmk_err x_BadNumber (hr.mono (by decide)) (by rfl) (pa_cons (pv 0) pa_nil)))) pss_nil)), ?_⟩
    have bad : (∀ i, d = .int i → i < m) → ∀ dd, H dd = none → E (.ref CN) (some dd) (upd H dd (.xd [("value", v)])) := fun h dd nd => (k2 h).at Ext.rfl' nd
    refine ⟨_, rfl, v, d, rfl, hv, _, rfl, ?_⟩
    cases hi : isIntD d with
    | false =>
      refine iteT ?_
      exact ⟨_, rfl, rfl, (by show 1 ≤ 1000; decide), bad fun i e => by rw [e] at hi; cases hi⟩
    | true =>
      obtain ⟨i, rfl⟩ := intD hi
      cases tv_int hv
      refine iteF ?_
      refine ⟨_, rfl, _, rfl, _, _, rfl, rfl, _, rfl, ?_⟩
      by_cases hm : i < m
      · refine iteYes (decide_eq_true hm) ?_
        exact ⟨_, rfl, rfl, (by show 1 ≤ 1000; decide), bad fun j e => by cases e; exact hm⟩
      · exact iteNo (decide_eq_false hm) (k1 i rfl (by omega))
def spStart (CR : Addr) : Sp := fun vs H Q _ => ∃ (a : Addr) (f : Nat → Int) (s p : Nat) (d : Int), vs = [.ref a] ∧ RowAt CR H a f s p d ∧ Q (.int s) H
def spPeriod (CR : Addr) : Sp := fun vs H Q _ => ∃ (a : Addr) (f : Nat → Int) (s p : Nat) (d : Int), vs = [.ref a] ∧ RowAt CR H a f s p d ∧ Q (.int p) H
def spStep (CR : Addr) : Sp := fun vs H Q _ => ∃ (a : Addr) (f : Nat → Int) (s p : Nat) (d : Int), vs = [.ref a] ∧ RowAt CR H a f s p d ∧ Q (.int d) H
def spFirst (CR : Addr) : Sp := fun vs H Q _ => ∃ (a : Addr) (f : Nat → Int) (s p : Nat) (d : Int), vs = [.ref a] ∧ RowAt CR H a f s p d ∧ ∀ t, H t = some (.tup (fl f (s + p))) → Q (.ref t) H
abbrev s_Row_start : Stmt := inClass (top 31) 4
abbrev N_Row_start : List Str := ["self"]
theorem sc_Row_start : FnScope N_Row_start ["self"] (defScope s_Row_start) := ⟨rfl, rfl, rfl, by decide +kernel, rfl, by decide +kernel, by decide +kernel⟩
theorem ok_start {fa : Addr} {fd : FuncData} (F : Fun K "start" "Row.start" s_Row_start fa fd) (T : Tx K mg CE CN CT CB CR tM tP tF) (hC : ClR K CR) : FnOk P w K mg base CX0 1 fa fd ["self"] (spStart CR) := by
  refine F.ok sc_Row_start (fun vs H Q E h => ?_) (fun cdv A outer s0 H vs Q E hr h => ?_)
  · obtain ⟨a, f, s, p, d, rfl, _⟩ := h
    rfl
  · obtain ⟨a, f, s, p, d, rfl, h, k⟩ := h
    obtain ⟨dx, t, h1, h2⟩ := h.ex
    refine ⟨_, (pss_one (ps_ret (pe_op op_sub (pe_callB call_len_seq (by rfl) (T.bn _ (by decide +kernel)) (by decide +kernel) (pa_cons (pe_fld (pv 0) rfl) pa_nil)) (pe_fld (pv 0) rfl)))), ?_⟩
    refine ⟨_, rfl, a, CR, dx, _, _, rfl, h1, hC.cl, hC.nT, rfl, t, _, rfl, .inr (SqT.of h2), ?_⟩
    rw [fl_len]
    refine ⟨_, rfl, a, CR, dx, _, _, rfl, h1, hC.cl, hC.nM, rfl, _, _, rfl, rfl, ?_⟩
    have e : ((s + p : Nat) : Int) - p = s := by omega
    show Q (.int (((s + p : Nat) : Int) - p)) H
    rw [e]
    exact k
abbrev s_Row_period : Stmt := inClass (top 31) 5
abbrev N_Row_period : List Str := ["self"]
theorem sc_Row_period : FnScope N_Row_period ["self"] (defScope s_Row_period) := ⟨rfl, rfl, rfl, by decide +kernel, rfl, by decide +kernel, by decide +kernel⟩
theorem ok_period {fa : Addr} {fd : FuncData} (F : Fun K "period" "Row.period" s_Row_period fa fd) (T : Tx K mg CE CN CT CB CR tM tP tF) (hC : ClR K CR) : FnOk P w K mg base CX0 1 fa fd ["self"] (spPeriod CR) := by
  refine F.ok sc_Row_period (fun vs H Q E h => ?_) (fun cdv A outer s0 H vs Q E hr h => ?_)
  · obtain ⟨a, f, s, p, d, rfl, _⟩ := h
    rfl
  · obtain ⟨a, f, s, p, d, rfl, h, k⟩ := h
    obtain ⟨dx, t, h1, h2⟩ := h.ex
    refine ⟨_, (pss_one (ps_ret (pe_fld (pv 0) rfl))), ?_⟩
    exact ⟨_, rfl, a, CR, dx, _, _, rfl, h1, hC.cl, hC.nM, rfl, k⟩
abbrev s_Row_step : Stmt := inClass (top 31) 6
abbrev N_Row_step : List Str := ["self"]
theorem sc_Row_step : FnScope N_Row_step ["self"] (defScope s_Row_step) := ⟨rfl, rfl, rfl, by decide +kernel, rfl, by decide +kernel, by decide +kernel⟩
theorem ok_step {fa : Addr} {fd : FuncData} (F : Fun K "step" "Row.step" s_Row_step fa fd) (T : Tx K mg CE CN CT CB CR tM tP tF) (hC : ClR K CR) : FnOk P w K mg base CX0 1 fa fd ["self"] (spStep CR) := by
  refine F.ok sc_Row_step (fun vs H Q E h => ?_) (fun cdv A outer s0 H vs Q E hr h => ?_)
  · obtain ⟨a, f, s, p, d, rfl, _⟩ := h
    rfl
  · obtain ⟨a, f, s, p, d, rfl, h, k⟩ := h
    obtain ⟨dx, t, h1, h2⟩ := h.ex
    refine ⟨_, (pss_one (ps_ret (pe_fld (pv 0) rfl))), ?_⟩
    exact ⟨_, rfl, a, CR, dx, _, _, rfl, h1, hC.cl, hC.nG, rfl, k⟩
abbrev s_Row_first : Stmt := inClass (top 31) 7
abbrev N_Row_first : List Str := ["self"]
theorem sc_Row_first : FnScope N_Row_first ["self"] (defScope s_Row_first) := ⟨rfl, rfl, rfl, by decide +kernel, rfl, by decide +kernel, by decide +kernel⟩
theorem ok_first {fa : Addr} {fd : FuncData} (F : Fun K "first" "Row.first" s_Row_first fa fd) (T : Tx K mg CE CN CT CB CR tM tP tF) (hC : ClR K CR) : FnOk P w K mg base CX0 1 fa fd ["self"] (spFirst CR) := by
  refine F.ok sc_Row_first (fun vs H Q E h => ?_) (fun cdv A outer s0 H vs Q E hr h => ?_)
  · obtain ⟨a, f, s, p, d, rfl, _⟩ := h
    rfl
  · obtain ⟨a, f, s, p, d, rfl, h, k⟩ := h
    obtain ⟨dx, t, h1, h2⟩ := h.ex
    refine ⟨_, (pss_one (ps_ret (pe_fld (pv 0) rfl))), ?_⟩
    exact ⟨_, rfl, a, CR, dx, _, _, rfl, h1, hC.cl, hC.nT, rfl, k t h2⟩
def spNum (CR : Addr) : Sp := fun vs H Q _ => ∃ (a : Addr) (f : Nat → Int) (s p : Nat) (d : Int) (n : Nat), vs = [.ref a, .int n] ∧ RowAt CR H a f s p d ∧ d.natAbs < big ∧ n < big ∧ Q (.int (f n)) H
abbrev s_Row_number : Stmt := inClass (top 31) 9
abbrev N_Row_number : List Str := ["self", "n", "rounds", "rest"]
theorem sc_Row_number : FnScope N_Row_number ["self", "n"] (defScope s_Row_number) := ⟨rfl, rfl, rfl, by decide +kernel, rfl, by decide +kernel, by decide +kernel⟩
theorem ok_number {fa : Addr} {fd : FuncData} (F : Fun K "number" "Row.number" s_Row_number fa fd) (T : Tx K mg CE CN CT CB CR tM tP tF) (hC : ClR K CR) (c_start : Prp P w K mg base CX0 1 (· = CR) "start" (spStart CR)) : FnOk P w K mg base CX0 3 fa fd ["self", "n"] (spNum CR) := by
  refine F.ok sc_Row_number (fun vs H Q E h => ?_) (fun cdv A outer s0 H vs Q E hr h => ?_)
  · obtain ⟨a, f, s, p, d, n, rfl, _⟩ := h
    rfl
  · obtain ⟨a, f, s, p, d, n, rfl, h, hd, hn, k⟩ := h
    obtain ⟨dx, t, h1, h2⟩ := h.ex
    have hp := h.can.eq.pos
    have hle := h.le
    refine ⟨_, (pss_cons (ps_if (pt_cmpR op_lt (pv 1) (pe_callB call_len_seq (by rfl) (T.bn _ (by decide +kernel)) (by decide +kernel) (pa_cons (pe_fld (pv 0) rfl) pa_nil)) (nomark _)) (pss_one (ps_ret (pe_ix ix_tup (pe_fld (pv 0) rfl) (pv 1) (fun _ _ => rfl)))) pss_nil)
      (pss_cons (ps_par (i := 2) (j := 3) rfl sc_Row_number.nd rfl rfl (by decide) rfl rfl (pa_cons (pe_op op_fdiv (pe_op op_sub (pv 1) ((pe_prp c_start (hr.mono (by decide)) pass0) (pv 0))) (pe_fld (pv 0) rfl)) (pa_cons (pe_op op_mod (pe_op op_sub (pv 1) ((pe_prp c_start (hr.mono (by decide)) pass0) (pv 0))) (pe_fld (pv 0) rfl)) pa_nil)) (by rfl))
      (pss_one (ps_ret (pe_op op_add (pe_ix ix_tup (pe_fld (pv 0) rfl) (pe_op op_add ((pe_prp c_start (hr.mono (by decide)) pass0) (pv 0)) (pv 3)) (fun _ _ => rfl)) (pe_op op_mulW (pv 2) (pe_fld (pv 0) rfl))))))), ?_⟩
    refine ⟨_, rfl, _, rfl, a, CR, dx, _, _, rfl, h1, hC.cl, hC.nT, rfl, t, _, rfl, .inr (SqT.of h2), ?_⟩
    rw [fl_len]
    refine ⟨_, _, rfl, rfl, _, rfl, ?_⟩
    by_cases hl : n < s + p
    · refine iteYes (decide_eq_true (by omega)) ?_
      exact ⟨_, rfl, a, CR, dx, _, _, rfl, h1, hC.cl, hC.nT, rfl, _, rfl, t, _, _, .int (f n), rfl, rfl, SqT.of h2, atI_at (j := n) (by omega) (fl_at hl), k⟩
    refine iteNo (decide_eq_false (by omega)) ?_
    have e1 : (n : Int) - s = ((n - s : Nat) : Int) := by omega
    have e2 : ((n : Int) - s) / p = (((n - s) / p : Nat) : Int) := by rw [e1, Int.natCast_ediv]
    have e3 : ((n : Int) - s) % p = (((n - s) % p : Nat) : Int) := by rw [e1, Int.natCast_emod]
    have hm := Nat.mod_lt (n - s) hp
    refine ⟨_, rfl, _, rfl, a, CR, dx, _, rfl, h1, rfl, a, f, s, p, d, rfl, h, _, _, rfl, rfl, _, rfl, a, CR, dx, _, _, rfl, h1, hC.cl, hC.nM, rfl, _, _, rfl, rfl, ⟨by omega, by omega⟩, ?_⟩
    refine ⟨_, rfl, _, rfl, a, CR, dx, _, rfl, h1, rfl, a, f, s, p, d, rfl, h, _, _, rfl, rfl, _, rfl, a, CR, dx, _, _, rfl, h1, hC.cl, hC.nM, rfl, _, _, rfl, rfl, (by show (0 : Int) < (p : Int); omega), ?_⟩
    refine ⟨_, _, rfl, ?_⟩
    refine ⟨_, rfl, a, CR, dx, _, _, rfl, h1, hC.cl, hC.nT, rfl, _, rfl, a, CR, dx, _, rfl, h1, rfl, a, f, s, p, d, rfl, h, _, rfl, _, _, rfl, rfl, t, _, _, .int (f (s + (n - s) % p)), rfl, rfl, SqT.of h2, atI_at (j := s + (n - s) % p) ?_ (fl_at (by omega)), ?_⟩
    · show (s : Int) + ((n : Int) - s) % p = _
      rw [e3]
      omega
    refine ⟨_, rfl, _, rfl, a, CR, dx, _, _, rfl, h1, hC.cl, hC.nG, rfl, _, _, rfl, rfl, ?_, _, _, rfl, rfl, ?_⟩
    · show CMulW (((n : Int) - s) / p) d
      rw [e2]
      have : (n - s) / p ≤ n := Nat.le_trans (Nat.div_le_self _ _) (Nat.sub_le _ _)
      exact wide_mul (a := 900) (b := 900) (show ((n - s) / p : Nat) < 2 ^ 900 from Nat.lt_of_le_of_lt this hn) hd (by decide) (by decide) (by decide)
    · show Q (.int (f (s + (n - s) % p) + ((n : Int) - s) / p * d)) H
      rw [e2, ← h.can.eq.all n (by omega)]
      exact k
def spGet (CN CR : Addr) : Sp := fun vs H Q E => ∃ (a : Addr) (f : Nat → Int) (s p : Nat) (d : Int) (v : V) (D : PyData), vs = [.ref a, v] ∧ RowAt CR H a f s p d ∧ TV H v D ∧ d.natAbs < big ∧ (∀ n : Nat, D = .int n → n < big ∧ Q (.int (f n)) H) ∧ ((∀ i, D = .int i → i < 0) → Errs CN "value" v H E)
abbrev s_Row_getitem : Stmt := inClass (top 31) 10
abbrev N_Row_getitem : List Str := ["self", "n"]
theorem sc_Row_getitem : FnScope N_Row_getitem ["self", "n"] (defScope s_Row_getitem) := ⟨rfl, rfl, rfl, by decide +kernel, rfl, by decide +kernel, by decide +kernel⟩
theorem ok_get {fa : Addr} {fd : FuncData} (F : Fun K "__getitem__" "Row.__getitem__" s_Row_getitem fa fd) (T : Tx K mg CE CN CT CB CR tM tP tF) (c_need_from : Cal P w K mg base (L2.CX P w) 3 "need_from" (spNeed CN)) (o_number : OwnM P w K mg base CX0 3 CR "number" (spNum CR)) : FnOk P w K mg base (L2.CX P w) 4 fa fd ["self", "n"] (spGet CN CR) := by
  refine F.okX sc_Row_getitem (fun vs H Q E h => ?_) (fun cdv A outer s0 H vs Q E hr h => ?_)
  · obtain ⟨a, f, s, p, d, v, D, rfl, _⟩ := h
    rfl
  · obtain ⟨a, f, s, p, d, v, D, rfl, h, hv, hd, k, ke⟩ := h
    obtain ⟨dx, t, h1, h2⟩ := h.ex
    refine ⟨_, (pss_cons (ps_expr (pe_cal c_need_from (hr.mono (by decide)) (by rfl) passC (pa_cons (pv 1) (pa_cons pe_int pa_nil))))
      (pss_one (ps_ret (pe_om o_number (hr.mono (by decide)) (pv 0) pass0 (pa_cons (pv 1) pa_nil))))), ?_⟩
    refine ⟨_, rfl, v, D, 0, rfl, hv, fun i e hi => ?_, fun hb => ke hb⟩
    subst e
    cases tv_int hv
    obtain ⟨n, rfl⟩ : ∃ n : Nat, i = n := ⟨i.toNat, by omega⟩
    obtain ⟨hn, q⟩ := k n rfl
    exact ⟨_, rfl, a, dx, _, rfl, h1, rfl, _, rfl, a, f, s, p, d, n, rfl, h, hd, hn, q⟩
structure RowK (K : PySem.W.Frag) (CR fE : Addr) : Prop where
  ha : PySem.W.findIn K (.ref CR) "__class__" = some (some (.builtin "object.__class__"))
  hn : PySem.W.specialIn K (.builtin "object.__class__") "__get__" = some (some (.builtin "getset_descriptor.__get__"))
  htk : PySem.W.takesIn K (.builtin "object.__class__") = some true
  hm : PySem.W.mroIn K CR (.type "object") = some true
  kR : PySem.W.kitOne K (.ref CR) (.ref CR) = some true
  kI : PySem.W.kitOne K (.type "int") (.ref CR) = some false
  eq : PySem.W.findIn K (.ref CR) "__eq__" = some (some (.ref fE))
  ne : PySem.W.findIn K (.ref CR) "__ne__" = some (some (.builtin "object.__ne__"))
  nfR : PySem.W.notFirst K CR (.ref CR) = true
  fn : PySem.W.isFn K (.ref fE) = true
theorem RowAt.tyX {K : PySem.W.Frag} {CR fE : Addr} (hC : ClR K CR) (C : RowK K CR fE) {H : Hp} {a : Addr} {f : Nat → Int} {s p : Nat} {d : Int} (h : RowAt CR H a f s p d) : TyX K H (.ref a) (.ref CR) := by
  obtain ⟨dx, t, h1, h2⟩ := h.ex
  exact .base (.ins h1 hC.cl C.ha C.hn C.htk C.hm)
def spEq (CR : Addr) : Sp := fun vs H Q _ => ∃ (a b : Addr) (f g : Nat → Int) (s p : Nat) (d : Int) (s' p' : Nat) (d' : Int), vs = [.ref a, .ref b] ∧ RowAt CR H a f s p d ∧ RowAt CR H b g s' p' d' ∧ (f = g → Q (.bl true) H) ∧ (f ≠ g → Q (.bl false) H)
theorem dp_fl {K : PySem.W.Frag} {H : Hp} (f : Nat → Int) (L : Nat) : DpAll K H (fl f L) (((List.range L).map f).map .int) := by
  unfold fl
  rw [List.map_map]
  generalize List.range L = l
  induction l with
  | nil => exact .nil
  | cons a r ih => exact .cons (.int _) ih
theorem eqv_ints : ∀ (xs ys : List Int), PyData.eqvAll (xs.map .int) (ys.map .int) = decide (xs = ys)
  | [], [] => rfl
  | [], _ :: _ => rfl
  | _ :: _, [] => rfl
  | x :: xs, y :: ys => by
    have ih := eqv_ints xs ys
    show (PyData.eqv (.int x) (.int y) && PyData.eqvAll (xs.map .int) (ys.map .int)) = _
    rw [ih]
    have h : PyData.eqv (.int x) (.int y) = decide (x = y) := by
      show (x == y) = _
      rfl
    rw [h]
    by_cases h1 : x = y <;> by_cases h2 : xs = ys <;> simp [h1, h2]
theorem lay_ints : ∀ xs : List Int, PyData.canLayAll0 (xs.map .int) = true
  | [] => rfl
  | x :: r => by
    show (PyData.canLay0 (.int x) && PyData.canLayAll0 (r.map .int)) = true
    rw [lay_ints r]
    rfl
theorem shaped_ints (xs : List Int) : SeqAt.shaped (.tuple (xs.map .int)) = true := by
  have h : (PyData.tuple (xs.map .int)).depth ≤ 1 := depth_tup fun d hd => by
    obtain ⟨z, _, rfl⟩ := List.mem_map.mp hd
    exact Nat.le_refl _
  show (PyData.canLay0 (.tuple (xs.map .int)) && decide ((PyData.tuple (xs.map .int)).depth ≤ 64)) = true
  rw [decide_eq_true (Nat.le_trans h (by decide)), Bool.and_true]
  exact lay_ints xs
abbrev s_Row_eq : Stmt := inClass (top 31) 29
abbrev N_Row_eq : List Str := ["self", "other"]
theorem sc_Row_eq : FnScope N_Row_eq ["self", "other"] (defScope s_Row_eq) := ⟨rfl, rfl, rfl, by decide +kernel, rfl, by decide +kernel, by decide +kernel⟩
theorem ok_eq {fa fE : Addr} {fd : FuncData} (F : Fun K "__eq__" "Row.__eq__" s_Row_eq fa fd) (T : Tx K mg CE CN CT CB CR tM tP tF) (hC : ClR K CR) (C : RowK K CR fE) : FnOk P w K mg base CX0 2 fa fd ["self", "other"] (spEq CR) := by
  refine F.ok sc_Row_eq (fun vs H Q E h => ?_) (fun cdv A outer s0 H vs Q E hr h => ?_)
  · obtain ⟨a, b, f, g, s, p, d, s', p', d', rfl, _⟩ := h
    rfl
  · obtain ⟨a, b, f, g, s, p, d, s', p', d', rfl, h, h', k1, k2⟩ := h
    obtain ⟨dx, t, h1, h2⟩ := h.ex
    obtain ⟨dy, t', h1', h2'⟩ := h'.ex
    refine ⟨_, (pss_cons (ps_if (pt_not (pt_val (pe_callB call_isi (by rfl) (T.bn _ (by decide +kernel)) (by decide +kernel) (pa_cons (pv 1) (pa_cons (pe_gref (by rfl) T.m_Row) pa_nil))))) (pss_one (ps_ret pe_bl)) pss_nil)
      (pss_one (ps_ret (pe_and (pe_cmpR (op_eqD hr.units) (pe_fld (pv 0) rfl) (pe_fld (pv 1) rfl) (nomark _)) (pe_and (pe_cmpR op_eq (pe_fld (pv 0) rfl) (pe_fld (pv 1) rfl) (nomark _)) (pe_one (pe_cmpR op_eq (pe_fld (pv 0) rfl) (pe_fld (pv 1) rfl) (nomark _)))))))), ?_⟩
    refine ⟨_, rfl, _, _, _, _, true, rfl, .own CR, h'.tyX hC C, C.kR, _, rfl, ?_⟩
    refine iteF ?_
    refine ⟨_, rfl, a, CR, dx, _, _, rfl, h1, hC.cl, hC.nT, rfl, _, rfl, b, CR, dy, _, _, rfl, h1', hC.cl, hC.nT, rfl, ?_⟩
    refine ⟨_, _, .tup (SqT.of h2) (dp_fl _ _), .tup (SqT.of h2') (dp_fl _ _), shaped_ints _, shaped_ints _, ?_⟩
    have ev : PyData.eqv (.tuple (((List.range (s + p)).map f).map .int)) (.tuple (((List.range (s' + p')).map g).map .int)) = decide ((List.range (s + p)).map f = (List.range (s' + p')).map g) := eqv_ints _ _
    rw [ev]
    have all : (List.range (s + p)).map f = (List.range (s' + p')).map g → p = p' → d = d' → f = g := fun e1 e2 e3 => by
      subst e2 e3
      have hl := congrArg List.length e1
      rw [List.length_map, List.length_map, List.length_range, List.length_range] at hl
      have hs : s = s' := by omega
      subst hs
      refine h.can.eq.same_fun h'.can.eq fun n hn => ?_
      have := congrArg (fun l : List Int => l[n]?) e1
      simp only [List.getElem?_map, List.getElem?_range hn] at this
      simpa using this
    by_cases c1 : (List.range (s + p)).map f = (List.range (s' + p')).map g
    case neg =>
      refine ⟨_, rfl, iteNo (decide_eq_false c1) ?_⟩
      refine k2 fun e => c1 ?_
      subst e
      obtain ⟨rfl, rfl, rfl⟩ := h.can.uniq h'.can
      rfl
    refine ⟨_, rfl, iteYes (decide_eq_true c1) ?_⟩
    refine ⟨_, rfl, a, CR, dx, _, _, rfl, h1, hC.cl, hC.nM, rfl, _, rfl, b, CR, dy, _, _, rfl, h1', hC.cl, hC.nM, rfl, rfl, ?_⟩
    by_cases c2 : p = p'
    case neg =>
      have n2 : ¬ V.int (p : Int) = V.int (p' : Int) := fun z => c2 (by have := V.int.inj z; omega)
      refine ⟨_, rfl, iteNo (decide_eq_false n2) ?_⟩
      refine k2 fun e => c2 ?_
      subst e
      exact (h.can.uniq h'.can).2.1
    refine ⟨_, rfl, iteYes (decide_eq_true (by rw [c2])) ?_⟩
    refine ⟨_, rfl, a, CR, dx, _, _, rfl, h1, hC.cl, hC.nG, rfl, _, rfl, b, CR, dy, _, _, rfl, h1', hC.cl, hC.nG, rfl, rfl, ?_⟩
    by_cases c3 : d = d'
    · rw [decide_eq_true (by rw [c3])]
      exact k1 (all c1 c2 c3)
    · rw [decide_eq_false fun z => c3 (V.int.inj z)]
      refine k2 fun e => c3 ?_
      subst e
      exact (h.can.uniq h'.can).2.2
end
end K09
end
section
set_option Elab.async false
set_option autoImplicit false
set_option linter.all false
set_option maxRecDepth 100000
set_option maxHeartbeats 4000000
set_option pp.maxSteps 1500
namespace K09
open PySem PySem.Spec PyProof.Rows L2 Ls RowM
open C8 (pss_cut tCut)
open TL
section
variable {P : Program} {w : World} {K : PySem.W.Frag} {mg : Str → Option Value} {base : Heap} {CE CN CT CB CR : Addr} {tM tP tF : Tok}
def spDivr : Sp := fun vs H Q _ => ∃ i j : Int, vs = [.int i, .int j] ∧ Q (.int (Nat.gcd i.natAbs j.natAbs : Nat)) H
theorem abs_nat (i : Int) : (if i < 0 then -i else i) = (i.natAbs : Int) := by split <;> omega
abbrev s_divisor : Stmt := top 14
abbrev N_divisor : List Str := ["one", "other", "first", "second"]
theorem sc_divisor : FnScope N_divisor ["one", "other"] (defScope s_divisor) := ⟨rfl, rfl, rfl, by decide +kernel, rfl, by decide +kernel, by decide +kernel⟩
theorem ok_divr {fa : Addr} {fd : FuncData} (F : Fun K "divisor" "divisor" s_divisor fa fd) (T : Tx K mg CE CN CT CB CR tM tP tF) : FnOk P w K mg base CX0 1 fa fd ["one", "other"] spDivr := by
  refine F.ok sc_divisor (fun vs H Q E h => ?_) (fun cdv A outer s0 H vs Q E hr h => ?_)
  · obtain ⟨i, j, rfl, _⟩ := h
    rfl
  · obtain ⟨i, j, rfl, k⟩ := h
    refine ⟨_, (pss_cons (ps_par (i := 2) (j := 3) rfl sc_divisor.nd rfl rfl (by decide) rfl rfl (pa_cons (pe_callB call_abs (by rfl) (T.bn _ (by decide +kernel)) (by decide +kernel) (pa_cons (pv 0) pa_nil)) (pa_cons (pe_callB call_abs (by rfl) (T.bn _ (by decide +kernel)) (by decide +kernel) (pa_cons (pv 1) pa_nil)) pa_nil)) (by rfl))
      (pss_cons (ps_while PassesOwn.never (pt_cmpR op_gt (pv 3) pe_int (nomark _))
      (pss_one (ps_par (i := 2) (j := 3) rfl sc_divisor.nd rfl rfl (by decide) rfl rfl (pa_cons (pv 3) (pa_cons (pe_op op_mod (pv 2) (pv 3)) pa_nil)) (by rfl))))
      (pss_one (ps_ret (pv 2))))), ?_⟩
    refine ⟨_, rfl, i, rfl, _, rfl, j, rfl, _, _, rfl, ?_⟩
    refine ⟨fun m σ H' => ∃ a : Nat, σ = [some (.int i), some (.int j), some (.int a), some (.int m)] ∧ H' = H ∧ Nat.gcd a m = Nat.gcd i.natAbs j.natAbs, ⟨j.natAbs, i.natAbs, by rw [abs_nat, abs_nat]; rfl, rfl, rfl⟩, ?_⟩
    rintro m σ H' ⟨a, rfl, rfl, hg⟩
    refine ⟨_, rfl, _, _, rfl, rfl, _, rfl, ?_⟩
    by_cases hm : 0 < m
    · refine iteYes (decide_eq_true (by omega)) ?_
      refine ⟨fun σ' H'' => σ' = [some (.int i), some (.int j), some (.int m), some (.int (a % m : Nat))] ∧ H'' = H', fun σ' H'' h => ⟨a % m, Nat.mod_lt a hm, m, h.1, h.2, ?_⟩, ?_⟩
      · rw [← hg, Nat.gcd_comm a m, Nat.gcd_rec m a, Nat.gcd_comm]
      · refine ⟨_, rfl, _, rfl, _, rfl, _, _, rfl, rfl, (by show (0 : Int) < (m : Int); omega), _, _, rfl, ?_⟩
        exact ⟨rfl, rfl⟩
    · refine iteNo (decide_eq_false (by omega)) ?_
      have h0 : m = 0 := by omega
      subst h0
      rw [Nat.gcd_zero_right] at hg
      exact ⟨_, rfl, by rw [hg]; exact k⟩
end
end K09
end
section
set_option Elab.async false
set_option autoImplicit false
set_option linter.all false
set_option maxRecDepth 100000
set_option maxHeartbeats 4000000
set_option pp.maxSteps 1500
namespace K09
open PySem PySem.Spec PyProof.Rows L2 Ls RowM
open C8 (pss_cut tCut)
open TL
theorem keep_new {H H' : Hp} {x dx : Addr} {o1 o2 : HO} (nx : H x = none) (nd : H dx = none) (hk : KeepX x (upd (upd H dx o1) x o2) H') (ne : dx ≠ x) : Ext H H' := fun b o q => by
  have h1 := ne_of_none q nx
  have h2 := ne_of_none q nd
  exact hk b o (by rw [upd_ne h1, upd_ne h2]; exact q) h1
theorem can_small {f : Nat → Int} {s p s' q : Nat} {d e : Int} (h : Can f s p d) (g : EQ f s' q e) : d.natAbs ≤ e.natAbs := by
  obtain ⟨h1, h2⟩ := h.dvd g
  rw [h2, Int.natAbs_mul]
  have : 1 ≤ q / p := Nat.div_pos (Nat.le_of_dvd g.pos h1) h.eq.pos
  exact Nat.le_mul_of_pos_left _ (by omega)
section
variable {P : Program} {w : World} {K : PySem.W.Frag} {mg : Str → Option Value} {base : Heap} {CE CN CT CB CR : Addr} {tM tP tF : Tok}
def NewRow (CT CR : Addr) (H : Hp) (f : Nat → Int) (Q : VK) (E : XK) : Prop := ∀ s q e, Can f s q e → (s + q ≤ 2000 → ∀ x H', Ext H H' → RowAt CR H' x f s q e → Q (.ref x) H') ∧ (2000 < s + q → ∀ H', Ext H H' → Errs CT "most" (.int 2000) H' E)
theorem NewRow.ext {CT CR : Addr} {H H1 : Hp} {f : Nat → Int} {Q : VK} {E : XK} (h : NewRow CT CR H f Q E) (e : Ext H H1) : NewRow CT CR H1 f Q E := fun s q d c => ⟨fun hm x H' e' r => (h s q d c).1 hm x H' (e.trans e') r, fun hm H' e' => (h s q d c).2 hm H' (e.trans e')⟩
end
end K09
end
section
set_option Elab.async false
set_option autoImplicit false
set_option linter.all false
set_option maxRecDepth 100000
set_option maxHeartbeats 4000000
set_option pp.maxSteps 1500
namespace K09
open PySem PySem.Spec PyProof.Rows L2 Ls RowM
open C8 (pss_cut tCut)
open TL
section
variable {P : Program} {w : World} {K : PySem.W.Frag} {mg : Str → Option Value} {base : Heap} {CE CN CT CB CR : Addr} {tM tP tF : Tok}
end
end K09
end
section
set_option Elab.async false
set_option autoImplicit false
set_option linter.all false
set_option maxRecDepth 100000
set_option maxHeartbeats 4000000
set_option pp.maxSteps 1500
namespace K09
open PySem PySem.Spec PyProof.Rows L2 Ls RowM
open C8 (pss_cut tCut)
open TL
theorem RowAt.keep {CR : Addr} {H H' : Hp} {a pn c : Addr} {n : Nat} {f : Nat → Int} {s p : Nat} {d : Int} (h : RowAt CR H a f s p d) (hp : PenAt H pn c n) (k : Keep pn c H H') : RowAt CR H' a f s p d := by
  obtain ⟨dx, t, h1, h2⟩ := h.ex
  obtain ⟨ns, x1, x2, y1, y2, _⟩ := hp
  have up : ∀ {b : Addr} {o : HO}, H b = some o → (∀ zs, o ≠ .lst zs) → H' b = some o := fun {b o} e n =>
    k b o e (fun z => by rw [z, y1] at e; exact n _ (Option.some.inj e).symm) (fun z => by rw [z, y2] at e; exact n _ (Option.some.inj e).symm)
  exact ⟨⟨dx, t, up h1 (fun zs z => by cases z), up h2 (fun zs z => by cases z)⟩, h.can, h.le⟩
theorem mk_row2 {CT CR : Addr} {H : Hp} {l : Addr} {h : Nat → Int} {L p : Nat} {d : Int} {Qf : Addr → VK} {E : XK} (hl : H l = some (.lst (fl h L)) ∨ H l = some (.tup (fl h L))) (hq : EQ h (L - p) p d) (hp : p ≤ L) (hL : L ≤ 2000)
    (k : ∀ s' p' d' x H', s' ≤ L - p → p' ≤ p → d'.natAbs ≤ d.natAbs → Ext H H' → RowAt CR H' x h s' p' d' → Qf x .non H') :
    ∀ x dx, H x = none → H dx = none → dx ≠ x → spRow0 CT CR [.ref x, .ref l, .int p, .int d] (upd (upd H dx (.own x)) x (.ins CR dx [])) (Qf x) E := fun x dx nx nd ne => by
  have up : ∀ {o : HO}, H l = some o → (upd (upd H dx (.own x)) x (.ins CR dx [])) l = some o := fun {o} q => by
    rw [upd_ne (ne_of_none q nx), upd_ne (ne_of_none q nd)]
    exact q
  refine ⟨x, dx, l, h, L, p, d, rfl, upd_same, hl.elim (fun q => .inl (up q)) (fun q => .inr (up q)), hq, hp, by omega, fun s q e c hsq => ⟨fun _ H' hk r => k s q e x H' (c.low _ _ _ hq) (c.few _ _ _ hq) (can_small c hq) (keep_new nx nd hk ne) r, fun hm => absurd hm (by omega)⟩⟩
section
variable {P : Program} {w : World} {K : PySem.W.Frag} {mg : Str → Option Value} {base : Heap} {CE CN CT CB CR : Addr} {tM tP tF : Tok}
end
end K09
end
section
set_option Elab.async false
set_option autoImplicit false
set_option linter.all false
set_option maxRecDepth 100000
set_option maxHeartbeats 4000000
set_option pp.maxSteps 1500
namespace K09
open PySem PySem.Spec PyProof.Rows L2 Ls RowM
open C8 (pss_cut tCut)
open TL
section
variable {P : Program} {w : World} {K : PySem.W.Frag} {mg : Str → Option Value} {base : Heap} {CE CN CT CB CR : Addr} {tM tP tF : Tok}
def BadRow (K : PySem.W.Frag) (H : Hp) (N P S bad : V) : Prop :=
  (bad = N ∧ ∃ ty, (∀ H', LamX.ExtN H H' → TyX K H' N ty) ∧ PySem.W.kitAny K ty [.type "list", .type "tuple"] = some false) ∨
  (∃ (l : Addr) (xs : List V) (ty : Value), N = .ref l ∧ (∀ H', LamX.ExtN H H' → (SqL K H' l xs ∨ SqT K H' l xs) ∧ TyX K H' N ty) ∧ PySem.W.kitAny K ty [.type "list", .type "tuple"] = some true ∧ xs.length ≤ 1000 ∧
    ((xs = [] ∧ bad = N) ∨ (xs ≠ [] ∧ bad = P ∧ ∃ D : PyData, TV (vis [] H) P D ∧ ∀ i : Int, D = .int i → ¬ (1 ≤ i ∧ i ≤ xs.length)) ∨
     (xs ≠ [] ∧ (∃ p : Int, P = .int p ∧ 1 ≤ p ∧ p ≤ xs.length) ∧ ∃ (i : Nat) (D : PyData), (S :: xs)[i]? = some bad ∧ (∀ j, j < i → ∃ z : Int, (S :: xs)[j]? = some (V.int z)) ∧ TV (vis [] H) bad D ∧ isIntD D = false)))
def spRowX (CN CT CR : Addr) (K : PySem.W.Frag) : Sp := fun vs H Q E => spRow0 CT CR vs H Q E ∨
  ∃ (x dx : Addr) (N P S bad : V), vs = [.ref x, N, P, S] ∧ H x = some (.ins CR dx []) ∧ BadRow K H N P S bad ∧ Errs CN "value" bad H E
theorem ok_RowX {fa : Addr} {fd : FuncData} (F : Fun K "__init__" "Row.__init__" s_Row_init fa fd) (T : Tx K mg CE CN CT CB CR tM tP tF) (hC : ClR K CR) (c_is_integer : Cal P w K mg base CX0 1 "is_integer" spInt) (c_settled : Cal P w K mg base CX0 3 "settled" spSet)
    (x_BadNumber : Xer P w K mg base CN "BadNumber" ["value"]) (x_TooMany : Xer P w K mg base CT "TooMany" ["most"]) : FnOk P w K mg base (L2.CX P w) 4 fa fd ["self", "numbers", "period", "step"] (spRowX CN CT CR K) := by
  have good := ok_Row_init F T hC c_is_integer c_settled x_BadNumber x_TooMany
  refine ⟨fun vs H Q E h => ?_, ?_⟩
  · rcases h with h | ⟨x, dx, N, P, S, bad, rfl, _⟩
    · exact good.len vs H Q E h
    · rfl
  have bad : FnOk P w K mg base (L2.CX P w) 4 fa fd ["self", "numbers", "period", "step"] (fun vs H Q E => ∃ (x dx : Addr) (N P S bad : V), vs = [.ref x, N, P, S] ∧ H x = some (.ins CR dx []) ∧ BadRow K H N P S bad ∧ Errs CN "value" bad H E) := by
    refine F.okX sc_Row_init (fun vs H Q E h => ?_) (fun cdv A outer s0 H vs Q E hr h => ?_)
    · obtain ⟨x, dx, N, P, S, bad, rfl, _⟩ := h
      rfl
    · obtain ⟨x, dx, N, P', S, bad, rfl, hx, hb, k⟩ := h
      have h4 : sizeLine = 16777216 := sizeLine_eq
      refine ⟨_, (pss_cons (ps_if ((pw_or (pt_not (pt_val (pe_callB call_isiT (by rfl) (T.bn _ (by decide +kernel)) (by decide +kernel) (pa_cons (pv 1) (pa_cons (pe_tup (pa_cons (pe_gty (T := "list") (by rfl) (T.bn _ (by decide +kernel)) (by decide +kernel)) (pa_cons (pe_gty (T := "tuple") (by rfl) (T.bn _ (by decide +kernel)) (by decide +kernel)) pa_nil))) pa_nil))))) (pw_or1 (pt_cmpR op_eq (pe_callB call_len_seq (by rfl) (T.bn _ (by decide +kernel)) (by decide +kernel) (pa_cons (pv 1) pa_nil)) pe_int (nomark _))))).pt (pss_one (ps_raise rfl tkC (pmk_err x_BadNumber (hr.mono (by decide)) (by rfl) (pa_cons (pv 1) pa_nil)))) pss_nil)
      (pss_cons (ps_if ((pw_or (pt_not (pt_val (pe_cal c_is_integer (hr.mono (by decide)) (by rfl) pass0 (pa_cons (pv 2) pa_nil)))) (pw_or1 (pt_not (pt_chain op_le op_le pe_int (pv 2) (pe_callB call_len_seq (by rfl) (T.bn _ (by decide +kernel)) (by decide +kernel) (pa_cons (pv 1) pa_nil))))))).pt (pss_one (ps_raise rfl tkC (pmk_err x_BadNumber (hr.mono (by decide)) (by rfl) (pa_cons (pv 2) pa_nil)))) pss_nil)
      (pss_cons (ps_for (passes_of rfl) rfl (pi_tup (pe_tup (pa_cons (pv 3) (StX.pa_star (pv 1) pa_nil)))) (pg_name (i := 4) sc_Row_init.nd rfl (by first | exact Or.inl rfl | exact Or.inr rfl))
      (pss_one (ps_if (pt_not (pt_val (pe_cal c_is_integer (hr.mono (by decide)) (by rfl) pass0 (pa_cons (pv 4) pa_nil)))) (pss_one (ps_raise rfl tkC (pmk_err x_BadNumber (hr.mono (by decide)) (by rfl) (pa_cons (pv 4) pa_nil)))) pss_nil)))
      (pss_cons (ps_asg (pe_cal c_settled (hr.mono (by decide)) (by rfl) pass0 (pa_cons (pe_callTy call_list_of (by rfl) (T.bn _ (by decide +kernel)) (by decide +kernel) (pa_cons (pv 1) pa_nil)) (pa_cons (pv 2) (pa_cons (pv 3) pa_nil)))) (pg_tup rfl (pgs_cons (pg_name (i := 5) sc_Row_init.nd rfl (by first | exact Or.inl rfl | exact Or.inr rfl)) (pgs_cons (pg_name (i := 6) sc_Row_init.nd rfl (by first | exact Or.inl rfl | exact Or.inr rfl)) (pgs_cons (pg_name (i := 7) sc_Row_init.nd rfl (by first | exact Or.inl rfl | exact Or.inr rfl)) pgs_nil)))))
      (pss_cons (ps_if (pt_cmpR op_gt (pe_callB call_len_seq (by rfl) (T.bn _ (by decide +kernel)) (by decide +kernel) (pa_cons (pv 5) pa_nil)) (pe_gint (by rfl) T.m_MOST_NUMBERS) (nomark _)) (pss_one (ps_raise rfl tkC (pmk_err x_TooMany (hr.mono (by decide)) (by rfl) (pa_cons (pe_gint (by rfl) T.m_MOST_NUMBERS) pa_nil)))) pss_nil)
      (pss_cons (ps_fld (pv 0) (pe_callTy call_tuple_of (by rfl) (T.bn _ (by decide +kernel)) (by decide +kernel) (pa_cons (pv 5) pa_nil)) rfl)
      (pss_cons (ps_fld (pv 0) (pv 6) rfl)
      (pss_one (ps_fld (pv 0) (pv 7) rfl))))))))), ?_⟩
      refine ⟨_, rfl, (by show 2 ≤ sizeLine; decide), fun tp ntp => ?_⟩
      have e1 : Ext H (upd H tp (.tup [.ty "list", .ty "tuple"])) := Ext.upd ntp
      have f1 : (upd H tp (.tup [.ty "list", .ty "tuple"])) tp = some (.tup [.ty "list", .ty "tuple"]) := upd_same
      generalize (upd H tp (.tup [.ty "list", .ty "tuple"])) = H1 at e1 f1
      rcases hb with ⟨rfl, ty, hty, kty⟩ | ⟨l, xs, ty, rfl, hsq, kty, hl, hb⟩
      · refine ⟨bad, tp, [.ty "list", .ty "tuple"], ty, _, false, rfl, f1, .cons (.ty _) (.cons (.ty _) .nil), hty _ (.of e1), kty, ?_⟩
        refine ⟨_, rfl, iteT ?_⟩
        exact ⟨_, rfl, rfl, (by show 1 ≤ 1000; decide), fun dd nd => k.at e1 nd⟩
      refine ⟨.ref l, tp, [.ty "list", .ty "tuple"], ty, _, true, rfl, f1, .cons (.ty _) (.cons (.ty _) .nil), (hsq _ (.of e1)).2, kty, ?_⟩
      have sq : ∀ {H' : Hp}, Ext H H' → SqL K H' l xs ∨ SqT K H' l xs := fun {H'} e => (hsq H' (.of e)).1
      refine ⟨_, rfl, iteF ?_⟩
      refine ⟨_, rfl, l, _, rfl, sq e1, rfl, _, rfl, ?_⟩
      rcases hb with ⟨rfl, rfl⟩ | ⟨ne, rfl, D, hD, nD⟩ | ⟨ne, ⟨p, rfl, p1, p2⟩, i, D, hi, hlow, hD, nD⟩
      all_goals try replace hD := TV.ext vis_ext hD
      · refine iteYes (decide_eq_true rfl) ?_
        exact ⟨_, rfl, rfl, (by show 1 ≤ 1000; decide), fun dd nd => k.at e1 nd⟩
      · have l1 : 1 ≤ xs.length := List.length_pos_iff.mpr ne
        refine iteNo (decide_eq_false fun z => by have := V.int.inj z; omega) ?_
        refine ⟨_, rfl, bad, D, rfl, hD.ext e1, _, rfl, ?_⟩
        cases hI : isIntD D with
        | false => exact iteT ⟨_, rfl, rfl, (by show 1 ≤ 1000; decide), fun dd nd => k.at e1 nd⟩
        | true =>
          obtain ⟨i, rfl⟩ := intD hI
          cases tv_int hD
          have hi := nD i rfl
          refine iteF ?_
          by_cases h1 : 1 ≤ i
          · refine ⟨_, rfl, _, _, rfl, rfl, true, congrArg V.bl (decide_eq_true (by omega)), iteT ?_⟩
            refine ⟨_, rfl, l, _, rfl, sq e1, _, _, rfl, rfl, ?_⟩
            refine ⟨_, rfl, iteYes (by rw [decide_eq_false (show ¬ i ≤ (xs.length : Int) by omega)]; rfl) ?_⟩
            exact ⟨_, rfl, rfl, (by show 1 ≤ 1000; decide), fun dd nd => k.at e1 nd⟩
          · refine ⟨_, rfl, _, _, rfl, rfl, false, congrArg V.bl (decide_eq_false (by omega)), iteF ?_⟩
            refine ⟨_, rfl, iteYes rfl ?_⟩
            exact ⟨_, rfl, rfl, (by show 1 ≤ 1000; decide), fun dd nd => k.at e1 nd⟩
      · have l1 : 1 ≤ xs.length := List.length_pos_iff.mpr ne
        refine iteNo (decide_eq_false fun z => by have := V.int.inj z; omega) ?_
        refine ⟨_, rfl, _, .int p, rfl, .int _, _, rfl, iteF ?_⟩
        refine ⟨_, rfl, _, _, rfl, rfl, true, congrArg V.bl (decide_eq_true (by omega)), iteT ?_⟩
        refine ⟨_, rfl, l, _, rfl, sq e1, _, _, rfl, rfl, ?_⟩
        refine ⟨_, rfl, iteNo (by rw [decide_eq_true (show p ≤ (xs.length : Int) by omega)]; rfl) ?_⟩
        refine ⟨_, rfl, _, rfl, l, _, rfl, (sq e1).symm, ?_⟩
        refine ⟨(by show (S :: (xs ++ [])).length ≤ sizeLine; rw [List.append_nil, List.length_cons]; omega), fun tt ntt => ?_⟩
        have e2 : Ext H1 (upd H1 tt (.tup (S :: (xs ++ [])))) := Ext.upd ntt
        have f2 : (upd H1 tt (.tup (S :: (xs ++ [])))) tt = some (.tup (S :: (xs ++ []))) := upd_same
        generalize (upd H1 tt (.tup (S :: (xs ++ [])))) = H2 at e2 f2
        rw [List.append_nil] at f2
        have e02 := e1.trans e2
        have il : i < (S :: xs).length := (List.getElem?_eq_some_iff.mp hi).1
        refine ⟨tt, rfl, ⟨_, SqT.of f2⟩, for_it (walk_tup (K := K) (xs := S :: xs)) (fun j σ H' => ∃ x4, σ = [some (.ref x), some (.ref l), some (.int p), some S, x4, none, none, none] ∧ H' = H2 ∧ j ≤ i) ⟨_, rfl, rfl, Nat.zero_le _⟩ (fun j σ H' _ ⟨_, _, e, _⟩ => SqT.of (by rw [e]; exact f2)) ?_ ?_⟩
        · rintro j v σ H' _ hj ⟨x4, rfl, rfl, ji⟩ ⟨rfl, hv⟩
          by_cases hji : j < i
          · obtain ⟨z, hz⟩ := hlow j hji
            rw [hz] at hv
            cases hv
            refine ⟨_, rfl, _, .int z, rfl, .int _, _, rfl, iteF ?_⟩
            exact ⟨_, rfl, rfl, by omega⟩
          · have : j = i := by omega
            subst this
            rw [hi] at hv
            cases hv
            refine ⟨_, rfl, bad, D, rfl, hD.ext e02, _, rfl, ?_⟩
            rw [nD]
            refine iteT ?_
            exact ⟨_, rfl, rfl, (by show 1 ≤ 1000; decide), fun dd nd => k.at e02 nd⟩
        · rintro σ H' ⟨x4, rfl, rfl, ji⟩
          omega
  intro A outer s H args us vs Q E a b c d h
  rcases h with h | h
  · exact good.run A outer s H args us vs Q E a b c d h
  · exact bad.run A outer s H args us vs Q E a b c d h
end
end K09
end
section
set_option Elab.async false
set_option autoImplicit false
set_option linter.all false
set_option maxRecDepth 100000
set_option maxHeartbeats 4000000
namespace Ls
open PySem PySem.Spec PyProof.Rows L2 GenW
def tGFor (wi : TI) (g : TG) (tb : TGn) : TGn := fun D ys σ H => wi σ H fun J H1 => ∃ W : Nat → Nat → List V → L2.St → Hp → Prop, (∃ m, W 0 m ys σ H1) ∧ ∀ i m ys σ H, W i m ys σ H →
  (J.stop i H ∧ D.nx ys σ H) ∨ (J.go i H ∧ ∃ N : List V → L2.St → Hp → Prop, (∀ ys' σ' H', N ys' σ' H' → ∃ m', m' < m ∧ W (i + 1) m' ys' σ' H') ∧ ∀ x H', J.yld i H x H' → g x σ H' fun σ2 H2 => tb { D with nx := N, ct := N, bk := D.nx } ys σ2 H2)
section
variable {X : Cx}
theorem gs_for {tg iter : PySem.Expr} {body : List Stmt} {pos : Pos} {wi : TI} {g : TG} {tb : TGn} (hp : PassesOwn (model X.prog X.w) X.A X.env X.xe) (hc : X.calm = true) (hi : PI X tg iter wi) (hg : PG X tg g) (hb : GSs X body tb)
    (hs : ∀ x, foldedSetIterable iter X.env x = pure x := by intro _; rfl) : GS X (.For tg iter body [] pos) (tGFor wi g tb) := by
  refine ⟨fun A S ip R n ys s₀ c fs K J gd lv s σ H D gc hn k hI ht => ?_⟩
  obtain ⟨acc, cc, r, I⟩ := hI
  rw [exec_For]
  refine seg_bind_wrap (wpAny_standAt ?_)
  refine seg_bind_wrap ?_
  rw [gc.over]
  refine wpAny_mono (hi.run _ s σ H _ I ht) (fun v s1 h1 => ?_) fun x s' hx => k.exc n s₀ x s' hx
  refine seg_bind_wrap (wpAny_of_eq (hs v) ?_)
  refine seg_bind_wrap (wpAny_standAt ?_)
  refine seg_bind_wrap (wpAny_holding ?_)
  rw [gc.over]
  refine wpAny_mono h1 (fun itv s2 h2 => ?_) fun x s' hx => k.exc n s₀ x s' hx
  obtain ⟨it, fp, tn, Jt, H2, e, I2, T, st2, f2, W, ⟨m0, w0⟩, turn⟩ := h2
  subst e
  refine seg_call fun p => ?_
  have gl := fun (kk : Result → Sem PySem.Fin) => gc_loop (k := kk) (c' := .forLoop tg (.ref it) body [] X.env) (l := lv []) (kp := []) (p := p) gc rfl rfl
  have stat : ∀ {H' : Hp} {acc' : Array Value} {c' : Nat}, (∀ b ∈ fp, H' b = none) → ∀ b ∈ fp, FpOk X ((S, lstObj acc' c') :: ip) H' b := fun {H' acc' c'} hn b hb => by
    obtain ⟨_, q1, q2, q3, q4, q5⟩ := f2 b hb
    refine ⟨hn b hb, q1, q2, q3, q4, fun p hp => ?_⟩
    rcases List.mem_append.mp hp with hp | hp
    · exact q5 p (List.mem_append_left _ hp)
    · rcases List.mem_cons.mp hp with hp | hp
      · rw [hp]
        exact q5 (S, lstObj acc cc) (List.mem_append_right _ List.mem_cons_self)
      · exact q5 p (List.mem_append_right _ (List.mem_cons_of_mem _ hp))
  have loop : ∀ (m i n : Nat) (ys : List V) (s₀ s : Shared) (σ : L2.St) (H : Hp), n + ys.length = sizeLine → W i m ys σ H → GI X S ip ys σ H s → tn i s.heap → (∀ b ∈ fp, H b = none) →
      Seg (model X.prog X.w) A R (GY X S) n s₀ (.forLoop tg (.ref it) body [] X.env) ((model X.prog X.w).den (.forLoop tg (.ref it) body [] X.env))
        (.ret (fun r => ((match r with | .ok f => (.pure f : Sem Flow) | .error e => .raise e).onRaise (cameBack X.env)).wrap K J gd lv) none (gd false) (lv []) c p [] :: fs) s := by
    intro m
    induction m using Nat.strongRecOn with
    | ind m ih =>
      intro i n ys s₀ s σ H hn w hI hst hfr
      have ee : ∀ (n : Nat) (s₀ : Shared) (x : Value) (s' : Shared), X.xe x s' → Seg (model X.prog X.w) A R (GY X S) n s₀ (.forLoop tg (.ref it) body [] X.env)
          ((do noteFrame x X.env; theTreesLotGoes x : Sem Unit).bind (fun _ => .raise x))
          (.ret (fun r => ((match r with | .ok f => (.pure f : Sem Flow) | .error e => .raise e).onRaise (cameBack X.env)).wrap K J gd lv) none (gd false) (lv []) c p [] :: fs) s' := fun n s₀ x s' hx => by
        rw [Sem.bind_eq_wrap]
        refine seg_wrap ?_
        rw [(gl _).over]
        refine wpAny_bind (wpAny_mono (hp x s' hx) (fun _ s'' hcb => wpAny_theTreesLotGoes ?_) fun y s'' hcb => ?_)
        · exact seg_leaf (.error x) (seg_cameBack gc k hcb)
        · exact seg_leaf (.error y) (seg_cameBack gc k hcb)
      obtain ⟨acc3, c3, r3, I3⟩ := hI
      show Seg _ A R _ n s₀ _ ((forTurn tg (.ref it) body [] X.env).onRaise (fun x => do noteFrame x X.env; theTreesLotGoes x)) _ s
      rw [Sem.onRaise_eq_wrap]
      simp only [forTurn]
      refine seg_bind_wrap (wpAny_standAt ?_)
      refine seg_bind_wrap (wpAny_onRaise ?_)
      rw [(gl _).over]
      rcases turn i m ys σ H w with ⟨stop, qn⟩ | ⟨go, N, hN, step⟩
      · refine wpAny_mono (T.done X rfl rfl rfl hc i _ s σ H X.xe I3 (stat hfr) hst stop) (fun r' s4 ⟨hr, I4⟩ => ?_) fun x s' hx => wpAny_standAt (ee n s₀ x s' hx)
        subst hr
        refine seg_again rfl ?_
        exact seg_leaf (.ok .next) (k.ok n ys s₀ s4 .next hn ⟨σ, H, ⟨acc3, c3, r3, I4⟩, qn⟩)
      · refine wpAny_mono (T.item X rfl rfl rfl hc i _ s σ H X.xe I3 (stat hfr) hst go) (fun r' s4 ⟨u, hr, h4⟩ => ?_) fun x s' hx => wpAny_standAt (ee n s₀ x s' hx)
        subst hr
        refine seg_bind_wrap ?_
        rw [(gl _).over]
        refine wpAny_mono h4 (fun _ s5 ⟨x, H5, I5, r5, y5, st5, fr5⟩ => ?_) fun x s' hx => ee n s₀ x s' hx
        have I5' := I5.pinned (stat fr5) (T.obj _ _ st5)
        refine seg_bind_wrap ?_
        rw [(gl _).over]
        refine wpAny_mono (hg.run _ s5 σ H5 x u _ I5' r5 (step x H5 y5)) (fun _ s6 ⟨σ6, H6, I6, q6⟩ => ?_) fun x s' hx => ee n s₀ x s' hx
        rw [Sem.bind_eq_wrap', Sem.wrap_wrap]
        have ipn : ∀ p ∈ ip ++ pinsAt fp s5.heap, p.1 ≠ S := fun p hp => by
          rcases List.mem_append.mp hp with hp | hp
          · exact gc.ip p hp
          · intro z
            obtain ⟨hb, _⟩ := of_pinsAt hp
            obtain ⟨_, _, _, _, _, q5⟩ := f2 p.1 hb
            exact q5 (S, lstObj acc cc) (List.mem_append_right _ List.mem_cons_self) z.symm
        have gl2 := gl (fun r => ((match r with | .ok f => (.pure f : Sem Flow) | .error e => .raise e).onRaise (cameBack X.env)).wrap K J gd lv)
        have again : ∀ {ys7 : List V} {σ7 : L2.St} {H7 : Hp} {s7 : Shared} (n' : Nat) (s₀' : Shared), n' + ys7.length = sizeLine → GI X S (ip ++ pinsAt fp s5.heap) ys7 σ7 H7 s7 → N ys7 σ7 H7 →
            Seg (model X.prog X.w) A R (GY X S) n' s₀' (.forLoop tg (.ref it) body [] X.env) (.pure (.again (.forLoop tg (.ref it) body [] X.env)))
              (.ret (fun r => ((match r with | .ok f => (.pure f : Sem Flow) | .error e => .raise e).onRaise (cameBack X.env)).wrap K J gd lv) none (gd false) (lv []) c p [] :: fs) s7 := fun {ys7 σ7 H7 s7} n' s₀' hn' hG n7 => by
          obtain ⟨m', hm, w7⟩ := hN ys7 σ7 H7 n7
          obtain ⟨acc7, c7, r7, I7⟩ := hG
          have pin7 : ∀ b ∈ fp, ∀ o, s5.heap.get? b = some o → s7.heap.get? b = some o ∧ H7 b = none := fun b hb o e => by
            obtain ⟨z1, z2, _⟩ := I7.pin (b, o) (List.mem_append_right _ (List.mem_cons_of_mem _ (List.mem_append_right _ (mem_pinsAt hb e))))
            exact ⟨z1, z2⟩
          refine seg_again rfl (ih m' hm (i + 1) n' ys7 s₀' s7 σ7 H7 hn' w7 ⟨acc7, c7, r7, Inv.unpinned (pins := (S, lstObj acc7 c7) :: ip) I7⟩ (T.keep _ _ _ st5 fun b hb o e => (pin7 b hb o e).1) fun b hb => ?_)
          obtain ⟨o, e, _⟩ := T.obj _ _ st5 b hb
          exact (pin7 b hb o e).2
        refine hb.run A S (ip ++ pinsAt fp s5.heap) R n ys s₀ _ _ _ _ id id s6 σ6 H6 { D with nx := N, ct := N, bk := D.nx } ⟨gl2.pn, ipn, gl2.apart, gl2.over, gl2.split, gl2.guard, gl2.gd⟩ hn ⟨fun n' ys' s₀' s7 f hn' hs7 => ?_, fun n' s₀' x s7 hx => ee n' s₀' x s7 hx⟩ ⟨acc3, c3, r3, I6⟩ q6
        have un : ∀ {ys' : List V} {σ' : L2.St} {H' : Hp}, GI X S (ip ++ pinsAt fp s5.heap) ys' σ' H' s7 → GI X S ip ys' σ' H' s7 := fun {ys' σ' H'} hG => by
          obtain ⟨acc7, c7, r7, I7⟩ := hG
          exact ⟨acc7, c7, r7, Inv.unpinned (pins := (S, lstObj acc7 c7) :: ip) I7⟩
        cases f with
        | next =>
          obtain ⟨σ7, H7, I7, n7⟩ := hs7
          exact again n' s₀' hn' I7 n7
        | cont =>
          obtain ⟨σ7, H7, I7, n7⟩ := hs7
          exact again n' s₀' hn' I7 n7
        | brk =>
          obtain ⟨σ7, H7, I7, q7⟩ := hs7
          exact seg_leaf (.ok .next) (k.ok n' ys' s₀' s7 .next hn' ⟨σ7, H7, un I7, q7⟩)
        | ret v =>
          obtain ⟨x7, σ7, H7, I7, r7, q7⟩ := hs7
          exact seg_leaf (.ok (.ret v)) (k.ok n' ys' s₀' s7 (.ret v) hn' ⟨x7, σ7, H7, un I7, r7, q7⟩)
  exact loop m0 0 n ys s₀ s2 σ H2 hn w0 ⟨acc, cc, r, I2⟩ st2 fun b hb => (f2 b hb).1
end
end Ls
end
section
set_option Elab.async false
set_option autoImplicit false
set_option linter.all false
set_option maxRecDepth 100000
set_option maxHeartbeats 4000000
namespace Ls
open PySem PySem.Spec PyProof.Rows L2 GenW
section
variable (P : Program) (w : World) (K : PySem.W.Frag) (mg : Str → Option Value) (base : Heap) (CX : CXT) (k : Nat)
structure GenM (C : Addr) (m : Str) (sp : SpG) : Prop where
  ex : ∃ f fd ps, Cls K C ∧ Meth K C m f ∧ GFn P w K mg base k f fd ps sp ∧ Binds K fd ps []
end
section
variable {X : Cx} {CX : CXT} {k : Nat} {C : Addr} {sp : Sp} {spg : SpG} {E : XK} {m a : Str} {pos apos : Pos} {o : PySem.Expr} {kws : List Keyword} {ta : TE} {tk : TA} {pl : Sem Bool}
def tGenM (C : Addr) (m : Str) (sp : SpG) (E : XK) (ta : TE) (t : TA) : TGen := fun σ H cont => ta σ H fun x H1 => ∃ a dx fs, x = .ref a ∧ H1 a = some (.ins C dx fs) ∧ fs.lookup m = none ∧ t σ H1 fun vs H2 => sp (x :: (vs ++ [])) H2 cont E
theorem pgen_m {e : PySem.Expr} {es : List PySem.Expr} {t : TA} (c : GenM X.prog X.w X.K X.mg X.base k C m spg) (hr : Room k X.A) (he : PE X o ta) (ha : PA X (e :: es) t)
    (hst : starEach (e :: es) X.env = (false, eval e X.env) :: starEach es X.env := by rfl) (hpl : (backTo pos (starEach es X.env)).any (·.1) = false := by rfl)
    (ht : eval (.Call (.Attribute o m apos) (e :: es) [] pos) X.env = (do
      let ov ← eval o X.env
      standAt apos.atName
      let (f, first) ← holding [ov] (getMethod ov m pl)
      callWith pos f first (backTo pos (starEach (e :: es) X.env)) (backToKw pos (keywordEach [] X.env))) := by rfl) :
    PGen X k (.Call (.Attribute o m apos) (e :: es) [] pos) (tGenM C m spg E ta t) E := by
  obtain ⟨f, fd, ps, cl, hm, F, hb⟩ := c.ex
  exact pgen_meth he cl hm F hr hb .nil ha hst hpl ht
end
section
variable {P : Program} {w : World} {K : PySem.W.Frag} {mg : Str → Option Value} {base : Heap} {N : List Str} {qual : Str} {scope : Scope} {f : Addr} {cd : Value} {A : Around} {outer : List Env} {s : Shared} {H : Hp} {E : XK} {pn : List (Addr × Obj)}
theorem passG : Passes (L2.CX P w) (gcxOf P w K mg base N qual scope f cd A outer s H E pn) E := passes_call takes_gcx fun _ _ _ _ h => h
end
section
variable {X : Cx} {A : Around} {outer : List Env} {s : Shared} {H : Hp} {E : XK} {scope : Scope} {f c' C : Addr} {K : PySem.W.Frag}
theorem noStop0 : NoStop K (fun _ _ _ => False) := fun _ _ _ h => h.elim
end
theorem pe_listGC {X : Cx} {CXx : CXT} {k : Nat} {p pos : Pos} {e : PySem.Expr} {tg : TGen} {E : XK} {nm : Str} (h : PGen X k e tg E) (hx : Passes CXx X E) (hns : NoStop X.K E) (hr : Room (k + 3) X.A) (hg : Gl X nm) (hmg : X.mg nm = none) (hv : bootBuiltins nm = some (.type "list")) (hnm : nm ≠ "__name__" := by decide) (hdb : (nm == ("__debug__" : Str)) = false := by decide)
    (he : starEach [e] X.env = (false, eval e X.env) :: starEach [] X.env := by rfl) (hCX : CXx = L2.CX X.prog X.w := by rfl) : PE X (.Call (.Name nm p) [e] [] pos) (tListG tg) := by
  subst hCX
  exact pe_listG h hx hns hr hg hmg hv hnm hdb he
theorem forG_range {lo : Int} {n : Nat} {g : TG} {tb : TGn} {D : GEnds} {ys : List V} {σ : L2.St} {H : Hp} (Pv : Nat → List V → L2.St → Hp → Prop) (h0 : Pv 0 ys σ H)
    (hs : ∀ i ys σ H, i < n → Pv i ys σ H → g (.int (lo + i)) σ H fun σ2 H2 => tb { D with nx := Pv (i + 1), ct := Pv (i + 1), bk := D.nx } ys σ2 H2) (hd : ∀ ys σ H, Pv n ys σ H → D.nx ys σ H) :
    ∃ W : Nat → Nat → List V → L2.St → Hp → Prop, (∃ m, W 0 m ys σ H) ∧ ∀ i m ys σ H, W i m ys σ H →
      ((Itr lo n).stop i H ∧ D.nx ys σ H) ∨ ((Itr lo n).go i H ∧ ∃ N : List V → L2.St → Hp → Prop, (∀ ys' σ' H', N ys' σ' H' → ∃ m', m' < m ∧ W (i + 1) m' ys' σ' H') ∧ ∀ x H', (Itr lo n).yld i H x H' → g x σ H' fun σ2 H2 => tb { D with nx := N, ct := N, bk := D.nx } ys σ2 H2) := by
  refine ⟨fun i m ys σ H => m = n - i ∧ i ≤ n ∧ Pv i ys σ H, ⟨n, by simp, Nat.zero_le _, h0⟩, ?_⟩
  rintro i m ys σ H ⟨rfl, hi, p⟩
  by_cases hlt : i < n
  · refine .inr ⟨?_, Pv (i + 1), fun ys' σ' H' p' => ⟨n - (i + 1), by omega, rfl, hlt, p'⟩, fun x H' y => ?_⟩
    · exact hlt
    · obtain ⟨e, y⟩ := y
      subst e
      subst y
      exact hs i ys σ _ hlt p
  · have e : i = n := by omega
    subst e
    exact .inl ⟨Nat.le_refl _, hd ys σ H p⟩
end Ls
end
section
set_option Elab.async false
set_option autoImplicit false
set_option linter.all false
set_option maxRecDepth 100000
set_option maxHeartbeats 4000000
set_option pp.maxSteps 1500
namespace K09
open PySem PySem.Spec PyProof.Rows L2 Ls RowM
open C8 (pss_cut tCut)
open TL
theorem BadRow.extN {K : PySem.W.Frag} {H H1 : Hp} {N P S bad : V} (h : BadRow K H N P S bad) (e : LamX.ExtN H H1) : BadRow K H1 N P S bad := by
  rcases h with ⟨rfl, ty, h1, h2⟩ | ⟨l, xs, ty, rfl, h1, h2, h3, h4⟩
  · exact .inl ⟨rfl, ty, fun H' e' => h1 H' (e.trans e'), h2⟩
  · refine .inr ⟨l, xs, ty, rfl, fun H' e' => h1 H' (e.trans e'), h2, h3, ?_⟩
    rcases h4 with h | ⟨h, h', D, hD, n⟩ | ⟨h, h', i, D, a, b, hD, n⟩
    · exact .inl h
    · exact .inr (.inl ⟨h, h', D, hD.ext (vis_extN e), n⟩)
    · exact .inr (.inr ⟨h, h', i, D, a, b, hD.ext (vis_extN e), n⟩)
theorem BadRow.ext {K : PySem.W.Frag} {H H1 : Hp} {N P S bad : V} (h : BadRow K H N P S bad) (e : Ext H H1) : BadRow K H1 N P S bad := h.extN (.of e)
theorem mk_bad {K : PySem.W.Frag} {CN CT CR : Addr} {H : Hp} {N P S bad : V} {Qf : Addr → VK} {E : XK} (hb : BadRow K H N P S bad) (k : Errs CN "value" bad H E) :
    ∀ x dx, H x = none → H dx = none → dx ≠ x → spRowX CN CT CR K [.ref x, N, P, S] (upd (upd H dx (.own x)) x (.ins CR dx [])) (Qf x) E := fun x dx nx nd ne => by
  have e : Ext H (upd (upd H dx (.own x)) x (.ins CR dx [])) := (Ext.upd nd).trans (Ext.upd (by rw [upd_ne ne.symm]; exact nx))
  exact .inr ⟨x, dx, N, P, S, bad, rfl, upd_same, hb.ext e, k.ext e⟩
theorem mk_good {K : PySem.W.Frag} {CN CT CR : Addr} {H : Hp} {l : Addr} {h : Nat → Int} {L p : Nat} {d : Int} {Qf : Addr → VK} {E : XK} (hl : H l = some (.lst (fl h L)) ∨ H l = some (.tup (fl h L))) (hq : EQ h (L - p) p d) (hp : p ≤ L) (hL : L ≤ 100000)
    (k : ∀ s q e, Can h s q e → (s + q ≤ 2000 → ∀ x H', Ext H H' → RowAt CR H' x h s q e → Qf x .non H') ∧ (2000 < s + q → Errs CT "most" (.int 2000) H E)) :
    ∀ x dx, H x = none → H dx = none → dx ≠ x → spRowX CN CT CR K [.ref x, .ref l, .int p, .int d] (upd (upd H dx (.own x)) x (.ins CR dx [])) (Qf x) E := fun x dx nx nd ne => by
  have e : Ext H (upd (upd H dx (.own x)) x (.ins CR dx [])) := (Ext.upd nd).trans (Ext.upd (by rw [upd_ne ne.symm]; exact nx))
  refine .inl ⟨x, dx, l, h, L, p, d, rfl, upd_same, hl.elim (fun q => .inl (e _ _ q)) (fun q => .inr (e _ _ q)), hq, hp, hL, fun s q e' c hsq => ?_⟩
  obtain ⟨k1, k2⟩ := k s q e' c
  refine ⟨fun hm H' hk r => k1 hm x H' (keep_new nx nd hk ne) r, fun hm H1 hk => (k2 hm).ext (keep_new nx nd hk ne)⟩
def lin (b e : Int) (n : Nat) : Int := b + n * e
theorem lin_eq (b e : Int) : EQ (lin b e) 0 1 e := ⟨Nat.le_refl _, fun n _ => by
  show b + ((n + 1 : Nat) : Int) * e = b + n * e + e
  push_cast
  rw [Int.add_mul]
  omega⟩
theorem lin_can (b e : Int) : Can (lin b e) 0 1 e := ⟨lin_eq b e, fun _ _ _ _ => Nat.zero_le _, fun _ _ _ k => k.pos⟩
section
variable {P : Program} {w : World} {K : PySem.W.Frag} {mg : Str → Option Value} {base : Heap} {CE CN CT CB CR : Addr} {tM tP tF : Tok}
def spEvenX (CN CR : Addr) : Sp := fun vs H Q E => (∃ (b e : Int), vs = [.int b, .int e] ∧ ∀ x H', Ext H H' → RowAt CR H' x (lin b e) 0 1 e → Q (.ref x) H') ∨
  ∃ (b e bad : V) (D : PyData), vs = [b, e] ∧ TV H bad D ∧ isIntD D = false ∧ Errs CN "value" bad H E ∧ (bad = e ∨ ((∃ i : Int, e = .int i) ∧ bad = b))
abbrev s_Row_even : Stmt := inClass (top 31) 2
abbrev N_Row_even : List Str := ["first", "step"]
theorem sc_Row_even : FnScope N_Row_even ["first", "step"] (defScope s_Row_even) := ⟨rfl, rfl, rfl, by decide +kernel, rfl, by decide +kernel, by decide +kernel⟩
theorem ok_evenX {fa : Addr} {fd : FuncData} (F : Fun K "even" "Row.even" s_Row_even fa fd) (T : Tx K mg CE CN CT CB CR tM tP tF) (c_Row : Mkc P w K mg base (L2.CX P w) 4 CR "Row" (spRowX CN CT CR K)) :
    FnOk P w K mg base (L2.CX P w) 6 fa fd ["first", "step"] (spEvenX CN CR) := by
  refine F.okX sc_Row_even (fun vs H Q E h => ?_) (fun cdv A outer s0 H vs Q E hr h => ?_)
  · rcases h with ⟨b, e, rfl, _⟩ | ⟨b, e, bad, D, rfl, _⟩ <;> rfl
  · rcases h with ⟨b, e, rfl, k⟩ | ⟨b, e, bad, D, rfl, hD, nD, k, hb⟩
    · refine ⟨_, (pss_one (ps_ret (pe_mkc c_Row (hr.mono (by decide)) (by rfl) passC (pa_cons (pe_lst (pa_cons (pv 0) pa_nil)) (pa_cons pe_int (pa_cons (pv 1) pa_nil)))))), ?_⟩
      refine ⟨_, rfl, (by show 1 ≤ sizeLine; decide), fun l nl => ?_⟩
      have e1 : Ext H (upd H l (.lst [V.int b])) := Ext.upd nl
      have f1 : (upd H l (.lst [V.int b])) l = some (.lst (fl (lin b e) 1)) := by
        rw [upd_same]
        show some (HO.lst [V.int b]) = some (HO.lst [V.int (b + ((0 : Nat) : Int) * e)])
        rw [Int.natCast_zero, Int.zero_mul, Int.add_zero]
      generalize (upd H l (.lst [V.int b])) = H1 at e1 f1
      refine ⟨_, rfl, ?_⟩
      refine mk_good (p := 1) (.inl f1) (lin_eq b e) (by decide) (by decide) fun s q e' c => ?_
      obtain ⟨rfl, rfl, rfl⟩ := (lin_can b e).uniq c
      exact ⟨fun _ x H' e2 r => ⟨rfl, k x H' (e1.trans e2) r⟩, fun hm => absurd hm (by decide)⟩
    · refine ⟨_, (pss_one (ps_ret (pe_mkc c_Row (hr.mono (by decide)) (by rfl) passC (pa_cons (pe_lst (pa_cons (pv 0) pa_nil)) (pa_cons pe_int (pa_cons (pv 1) pa_nil)))))), ?_⟩
      refine ⟨_, rfl, (by show 1 ≤ sizeLine; decide), fun l nl => ?_⟩
      have e1 : Ext H (upd H l (.lst [b])) := Ext.upd nl
      have f1 : (upd H l (.lst [b])) l = some (.lst [b]) := upd_same
      generalize (upd H l (.lst [b])) = H1 at e1 f1
      refine ⟨_, rfl, ?_⟩
      refine mk_bad (bad := bad) (.inr ⟨l, [b], .type "list", rfl, fun H' e' => ⟨.inl (SqL.of (e' _ _ f1 fun ps z => nomatch z)), .base (.lst (e' _ _ f1 fun ps z => nomatch z))⟩, kit_seqL, by show 1 ≤ 1000; decide, .inr (.inr ⟨by simp, ⟨1, rfl, by decide, by show (1 : Int) ≤ ((1 : Nat) : Int); decide⟩, ?_⟩)⟩) (k.ext e1)
      rcases hb with rfl | ⟨⟨i, rfl⟩, rfl⟩
      · exact ⟨0, D, rfl, fun j hj => absurd hj (Nat.not_lt_zero j), (tv_vis hD).ext (vis_mono e1), nD⟩
      · exact ⟨1, D, rfl, fun j hj => ⟨i, by
          have : j = 0 := by omega
          rw [this]
          rfl⟩, (tv_vis hD).ext (vis_mono e1), nD⟩
def spNumsG (CN CR : Addr) : SpG := fun vs H Q E => ∃ (a : Addr) (f : Nat → Int) (s p : Nat) (d : Int) (v : V) (D : PyData), vs = [.ref a, v] ∧ RowAt CR H a f s p d ∧ d.natAbs < big ∧ TV H v D ∧
  (∀ n : Nat, D = .int n → n < 1000 ∧ Q (fl f n) H) ∧ ((∀ i, D = .int i → i < 0) → Errs CN "value" v H E)
abbrev s_Row_numbers : Stmt := inClass (top 31) 12
abbrev N_Row_numbers : List Str := ["self", "n", "k"]
theorem gsc_Row_numbers : GScope N_Row_numbers ["self", "n"] (defScope s_Row_numbers) := ⟨rfl, rfl, rfl, by decide +kernel, rfl, by decide +kernel, by decide +kernel⟩
theorem ok_numsG {fa : Addr} {fd : FuncData} (F : Fun K "numbers" "Row.numbers" s_Row_numbers fa fd) (T : Tx K mg CE CN CT CB CR tM tP tF) (c_need_from : Cal P w K mg base (L2.CX P w) 3 "need_from" (spNeed CN)) (o_number : OwnM P w K mg base CX0 3 CR "number" (spNum CR)) :
    GFn P w K mg base 6 fa fd ["self", "n"] (spNumsG CN CR) := by
  obtain ⟨_, _, _, _, _, _, _, _, _, rfl, lk, hcd⟩ := F.ex
  refine gfn_of (N := N_Row_numbers) lk hcd gsc_Row_numbers (fun vs H Q E h => ?_) (fun A outer s0 H vs Q E pn hr h => ?_)
  · obtain ⟨a, f, s, p, d, v, D, rfl, _⟩ := h
    rfl
  · obtain ⟨a, f, s, p, d, v, D, rfl, h, hd, hv, k, ke⟩ := h
    obtain ⟨dx, t, h1, h2⟩ := h.ex
    refine ⟨_, (gss_cons (gs_ps (ps_expr (pe_cal c_need_from (hr.mono (by decide)) (by rfl) passG (pa_cons (pv 1) (pa_cons pe_int pa_nil)))))
      (gss_cons (gs_for owns_gcx rfl (pi_range1 rfl (T.bn _ (by decide +kernel)) (pa_cons (pv 1) pa_nil)) (pg_name (i := 2) gsc_Row_numbers.nd rfl (by first | exact Or.inl rfl | exact Or.inr rfl))
        (gss_cons (gs_yield (pe_om o_number (hr.mono (by decide)) (pv 0) pass0 (pa_cons (pv 2) pa_nil))) gss_nil)) gss_nil)), ?_⟩
    refine ⟨_, rfl, v, D, 0, rfl, hv, fun i e hi => ?_, fun hb => ke hb⟩
    subst e
    cases tv_int hv
    obtain ⟨n, rfl⟩ : ∃ n : Nat, i = n := ⟨i.toNat, by omega⟩
    obtain ⟨hn, q⟩ := k n rfl
    refine ⟨_, rfl, n, rfl, by omega, by omega, ?_⟩
    rw [show ((n : Nat) : Int).toNat = n from rfl]
    refine forG_range (n := n) (fun i ys σ H' => ∃ x2, σ = [some (.ref a), some (.int n), x2] ∧ H' = H ∧ ys = fl f i) ⟨_, rfl, rfl, rfl⟩ ?_ ?_
    · rintro i ys σ H' hi ⟨x2, rfl, rfl, rfl⟩
      have hb : (1000 : Nat) < big := by decide +kernel
      have h4 : sizeLine = 16777216 := sizeLine_eq
      refine ⟨by rw [fl_len, h4]; omega, _, rfl, a, dx, _, rfl, h1, rfl, _, rfl, a, f, s, p, d, 0 + i, by rw [Int.zero_add, Nat.zero_add], h, hd, by omega, ?_⟩
      refine ⟨_, rfl, rfl, ?_⟩
      rw [Nat.zero_add]
      exact fl_snoc f i
    · rintro ys σ H' ⟨x2, rfl, rfl, rfl⟩
      exact q
end
end K09
end
section
set_option Elab.async false
set_option autoImplicit false
set_option linter.all false
set_option maxRecDepth 100000
set_option maxHeartbeats 4000000
set_option pp.maxSteps 1500
namespace K09
open PySem PySem.Spec PyProof.Rows L2 Ls RowM
open C8 (pss_cut tCut)
open TL
def spPace (CR : Addr) : Sp := fun vs H Q _ => ∃ (a : Addr) (f : Nat → Int) (s p : Nat) (d : Int), vs = [.ref a] ∧ RowAt CR H a f s p d ∧ ∀ t, H t = none → Q (.ref t) (upd H t (.tup [.int (d / (Nat.gcd d.natAbs p : Nat)), .int ((p / Nat.gcd d.natAbs p : Nat))]))
section
variable {P : Program} {w : World} {K : PySem.W.Frag} {mg : Str → Option Value} {base : Heap} {CE CN CT CB CR : Addr} {tM tP tF : Tok}
abbrev s_Row_pace : Stmt := inClass (top 31) 8
abbrev N_Row_pace : List Str := ["self", "common"]
theorem sc_Row_pace : FnScope N_Row_pace ["self"] (defScope s_Row_pace) := ⟨rfl, rfl, rfl, by decide +kernel, rfl, by decide +kernel, by decide +kernel⟩
theorem ok_pace {fa : Addr} {fd : FuncData} (F : Fun K "pace" "Row.pace" s_Row_pace fa fd) (T : Tx K mg CE CN CT CB CR tM tP tF) (hC : ClR K CR) (c_divisor : Cal P w K mg base CX0 1 "divisor" spDivr) : FnOk P w K mg base CX0 2 fa fd ["self"] (spPace CR) := by
  refine F.ok sc_Row_pace (fun vs H Q E h => ?_) (fun cdv A outer s0 H vs Q E hr h => ?_)
  · obtain ⟨a, f, s, p, d, rfl, _⟩ := h
    rfl
  · obtain ⟨a, f, s, p, d, rfl, h, k⟩ := h
    obtain ⟨dx, t, h1, h2⟩ := h.ex
    have hp := h.can.eq.pos
    have hle := h.le
    have g1 : 1 ≤ Nat.gcd d.natAbs p := Nat.gcd_pos_of_pos_right _ hp
    have g2 : Nat.gcd d.natAbs p ≤ p := Nat.gcd_le_right _ hp
    refine ⟨_, (pss_cons (ps_set (i := 1) sc_Row_pace.nd rfl (by first | exact Or.inl rfl | exact Or.inr rfl) (pe_cal c_divisor (hr.mono (by decide)) (by rfl) pass0 (pa_cons (pe_fld (pv 0) rfl) (pa_cons (pe_fld (pv 0) rfl) pa_nil))))
      (pss_one (ps_ret (pe_tup (pa_cons (pe_op op_fdiv (pe_fld (pv 0) rfl) (pv 1)) (pa_cons (pe_op op_fdiv (pe_fld (pv 0) rfl) (pv 1)) pa_nil)))))), ?_⟩
    refine ⟨_, rfl, a, CR, dx, _, _, rfl, h1, hC.cl, hC.nG, rfl, _, rfl, a, CR, dx, _, _, rfl, h1, hC.cl, hC.nM, rfl, d, (p : Int), rfl, ?_⟩
    show gName 1 (V.int ((Nat.gcd d.natAbs p : Nat) : Int)) _ _ _
    refine ⟨_, rfl, a, CR, dx, _, _, rfl, h1, hC.cl, hC.nG, rfl, _, rfl, _, _, rfl, rfl, ⟨by omega, by omega⟩, _, rfl, a, CR, dx, _, _, rfl, h1, hC.cl, hC.nM, rfl, _, rfl, _, _, rfl, rfl, ⟨by omega, by omega⟩, (by show 2 ≤ sizeLine; decide), fun u nu => ?_⟩
    have := k u nu
    rw [Int.natCast_ediv] at this
    exact this
end
end K09
end
section
set_option Elab.async false
set_option autoImplicit false
set_option linter.all false
set_option maxRecDepth 100000
set_option maxHeartbeats 4000000
set_option pp.maxSteps 1500
namespace K09
open PySem PySem.Spec PyProof.Rows L2 Ls RowM
open C8 (pss_cut tCut)
open TL
def fg (i : Int) : Str := ((if i < 0 then "-" else "" : Str) ++ Str.ofString (toString (i.natAbs : Int))) ++ ""
theorem str_app_len (a b : Str) : (a ++ b).length = a.length + b.length := by
  exact PySem.strLen_append a b
theorem fg_abs {i : Int} (h : i.natAbs < 10 ^ 60) : (Str.ofString (toString (i.natAbs : Int))).length ≤ 61 := by
  have h1 := PySem.int_text_length_le10 (a := (i.natAbs : Int)) (k := 60) (by decide) h
  have h2 : (Str.ofString (toString (i.natAbs : Int))).length = (toString (i.natAbs : Int)).length := by
    exact PySem.ofString_length _
  omega
theorem fg_len {i : Int} (h : i.natAbs < 10 ^ 60) : (fg i).length ≤ 62 := by
  have h1 := fg_abs h
  unfold fg
  rw [str_app_len, str_app_len]
  have h2 : ((if i < 0 then "-" else "" : Str)).length ≤ 1 := by split <;> decide
  have h3 : ("" : Str).length = 0 := rfl
  omega
section
variable {P : Program} {w : World} {K : PySem.W.Frag} {mg : Str → Option Value} {base : Heap} {CE CN CT CB CR : Addr} {tM tP tF : Tok}
def spFig : Sp := fun vs H Q _ => ∃ i : Int, vs = [.int i] ∧ i.natAbs < 10 ^ 60 ∧ Q (.str (fg i)) H
abbrev s_figures_of : Stmt := top 13
abbrev N_figures_of : List Str := ["number", "rest", "tail"]
theorem sc_figures_of : FnScope N_figures_of ["number"] (defScope s_figures_of) := ⟨rfl, rfl, rfl, by decide +kernel, rfl, by decide +kernel, by decide +kernel⟩
theorem ok_fig {fa : Addr} {fd : FuncData} (F : Fun K "figures_of" "figures_of" s_figures_of fa fd) (T : Tx K mg CE CN CT CB CR tM tP tF) : FnOk P w K mg base CX0 1 fa fd ["number"] spFig := by
  refine F.ok sc_figures_of (fun vs H Q E h => ?_) (fun cdv A outer s0 H vs Q E hr h => ?_)
  · obtain ⟨i, rfl, _⟩ := h
    rfl
  · obtain ⟨i, rfl, h6, k⟩ := h
    have h4 : sizeLine = 16777216 := sizeLine_eq
    refine ⟨_, (pss_cons (ps_par (i := 1) (j := 2) rfl sc_figures_of.nd rfl rfl (by decide) rfl rfl (pa_cons (pe_callB call_abs (by rfl) (T.bn _ (by decide +kernel)) (by decide +kernel) (pa_cons (pv 0) pa_nil)) (pa_cons pe_str pa_nil)) (by rfl))
      (pss_cons (ps_while PassesOwn.never (pt_cmpR op_ge (pv 1) (pe_gint (by rfl) T.m_PIECE) (nomark _))
      (pss_cons (ps_set (i := 2) sc_figures_of.nd rfl (by first | exact Or.inl rfl | exact Or.inr rfl) (pe_op op_add_str (pe_slice sl_str (pe_callTy call_str_int (by rfl) (T.bn _ (by decide +kernel)) (by decide +kernel) (pa_cons (pe_op op_add (pe_gint (by rfl) T.m_PIECE) (pe_op op_mod (pv 1) (pe_gint (by rfl) T.m_PIECE))) pa_nil)) (po_some pe_int) po_none) (pv 2)))
      (pss_one (ps_set (i := 1) sc_figures_of.nd rfl (by first | exact Or.inl rfl | exact Or.inr rfl) (pe_op op_fdiv (pv 1) (pe_gint (by rfl) T.m_PIECE))))))
      (pss_one (ps_ret (pe_op op_add_str (pe_op op_add_str (pe_ifExp (pt_cmpR op_lt (pv 0) pe_int (nomark _)) pe_str pe_str) (pe_callTy call_str_int (by rfl) (T.bn _ (by decide +kernel)) (by decide +kernel) (pa_cons (pv 1) pa_nil))) (pv 2)))))), ?_⟩
    refine ⟨_, rfl, i, rfl, _, _, rfl, ?_⟩
    have ea : (if i < 0 then -i else i) = (i.natAbs : Int) := abs_nat i
    have p60 : (10 : Nat) ^ 60 = 1000000000000000000000000000000000000000000000000000000000000 := by decide +kernel
    have q60 : (10 : Int) ^ 60 = 1000000000000000000000000000000000000000000000000000000000000 := by decide +kernel
    have h6' := h6
    rw [p60] at h6'
    have hl := fg_abs h6
    have hlog : (i.natAbs : Int).natAbs.log2 < 1920 := by
      have : (i.natAbs : Int).natAbs < 2 ^ 200 := Nat.lt_trans h6 (by decide +kernel)
      exact Nat.lt_trans (PySem.Flt.log2_lt_of (by decide) this) (by decide)
    refine ⟨fun m σ H' => σ = [some (.int i), some (.int i.natAbs), some (.str "")] ∧ H' = H, ⟨0, by rw [ea]; rfl, rfl⟩, ?_⟩
    rintro m σ H' ⟨rfl, rfl⟩
    refine ⟨_, rfl, _, _, rfl, rfl, _, rfl, ?_⟩
    refine iteNo (decide_eq_false (by rw [q60]; omega)) ?_
    refine ⟨_, rfl, _, _, rfl, rfl, _, rfl, ?_⟩
    have e0 : ("" : Str).length = 0 := rfl
    have e1 : ("-" : Str).length = 1 := rfl
    by_cases hn : i < 0
    · refine iteYes (decide_eq_true hn) ?_
      rw [show fg i = (("-" : Str) ++ Str.ofString (toString (i.natAbs : Int))) ++ "" by unfold fg; rw [if_pos hn]] at k
      refine ⟨_, rfl, (i.natAbs : Int), rfl, hlog, _, _, rfl, rfl, ?_, _, rfl, _, _, rfl, rfl, ?_, k⟩
      · rw [e1]; omega
      · rw [str_app_len, e1, e0]; omega
    · refine iteNo (decide_eq_false hn) ?_
      rw [show fg i = (("" : Str) ++ Str.ofString (toString (i.natAbs : Int))) ++ "" by unfold fg; rw [if_neg hn]] at k
      refine ⟨_, rfl, (i.natAbs : Int), rfl, hlog, _, _, rfl, rfl, ?_, _, rfl, _, _, rfl, rfl, ?_, k⟩
      · rw [e0]; omega
      · rw [str_app_len, e0]; omega
end
def fs (g : Nat → Str) (n : Nat) : List Str := (List.range n).map g
theorem fs_len (g : Nat → Str) (n : Nat) : (fs g n).length = n := by unfold fs; simp
theorem fs_snoc (g : Nat → Str) (n : Nat) : (fs g n).map V.str ++ [V.str (g n)] = (fs g (n + 1)).map V.str := by
  unfold fs
  rw [List.range_succ, List.map_append, List.map_append]
  rfl
def rowW (f : Nat → Int) (s p : Nat) (d : Int) : List Str := (fs (fun i => fg (f i)) s ++ [("|" : Str)]) ++ (fs (fun i => fg (f (s + i))) p ++ ([("+" : Str), fg d]))
theorem sum_some : ∀ {zs : List Str}, (∀ z ∈ zs, z.length ≤ 62) → (zs.map (·.length)).sum ≤ zs.length * 62
  | [], _ => Nat.zero_le _
  | z :: r, h => by
    have ih := sum_some (zs := r) fun y hy => h y (List.mem_cons_of_mem _ hy)
    have := h z (List.mem_cons_self ..)
    simp only [List.map_cons, List.sum_cons, List.length_cons, Nat.add_mul]
    omega
theorem sl_from {K : PySem.W.Frag} {H : Hp} {t : Addr} {f : Nat → Int} {s L : Nat} {Q : VK} (ht : H t = some (.tup (fl f L))) (hs : s ≤ L) (k : ∀ v H', Ext H H' → H' v = some (.tup (fl (fun i => f (s + i)) (L - s))) → Q (.ref v) H') : rSlA K (.ref t) (some (s : Int)) none H Q := by
  refine ⟨t, _, rfl, SqT.of ht, fun w => ?_, fun _ u nu => ?_⟩
  · have h0 := w.1
    rw [fl_len, sIx_pos (by omega)] at h0
    have hz : s = 0 ∨ L = 0 := by omega
    refine k t H Ext.rfl' ?_
    have hz : s = 0 := by omega
    subst hz
    rw [ht]
    simp
  · rw [cutV_from _ (by omega), show ((s : Nat) : Int).toNat = s from rfl, fl_drop]
    exact k u _ (Ext.upd nu) upd_same
section
variable {P : Program} {w : World} {K : PySem.W.Frag} {mg : Str → Option Value} {base : Heap} {CE CN CT CB CR : Addr} {tM tP tF : Tok}
def spStr (CR : Addr) : Sp := fun vs H Q _ => ∃ (a : Addr) (f : Nat → Int) (s p : Nat) (d : Int), vs = [.ref a] ∧ RowAt CR H a f s p d ∧ (∀ n, n < s + p → (f n).natAbs < 10 ^ 60) ∧ d.natAbs < 10 ^ 60 ∧ ∀ H', Ext H H' → Q (.str (Txt.join " " (rowW f s p d))) H'
abbrev s_Row_str : Stmt := inClass (top 31) 30
abbrev N_Row_str : List Str := ["self", "words", "number"]
theorem sc_Row_str : FnScope N_Row_str ["self"] (defScope s_Row_str) := ⟨rfl, rfl, rfl, by decide +kernel, rfl, by decide +kernel, by decide +kernel⟩
theorem ok_str {fa : Addr} {fd : FuncData} (F : Fun K "__str__" "Row.__str__" s_Row_str fa fd) (T : Tx K mg CE CN CT CB CR tM tP tF) (hC : ClR K CR) (c_start : Prp P w K mg base CX0 1 (· = CR) "start" (spStart CR)) (c_figures_of : Cal P w K mg base CX0 1 "figures_of" spFig) : FnOk P w K mg base CX0 3 fa fd ["self"] (spStr CR) := by
  refine F.ok sc_Row_str (fun vs H Q E h => ?_) (fun cdv A outer s0 H vs Q E hr h => ?_)
  · obtain ⟨a, f, s, p, d, rfl, _⟩ := h
    rfl
  · obtain ⟨a, f, s, p, d, rfl, h, hf, hd, k⟩ := h
    obtain ⟨dx, t, h1, h2⟩ := h.ex
    have hp := h.can.eq.pos
    have h4 : sizeLine = 16777216 := sizeLine_eq
    refine ⟨_, (pss_cons (ps_set (i := 1) sc_Row_str.nd rfl (by first | exact Or.inl rfl | exact Or.inr rfl) (pe_lst (StX.pa_star (pe_lc (own := [("number", 2)]) rfl sc_Row_str.nd (pi_tupK (K := K) rfl (pe_slice sl_tupA (pe_fld (pv 0) rfl) po_none (po_some ((pe_prp c_start (hr.mono (by decide)) pass0) (pv 0))))) (blkOk_by (own := [("number", 2)]) (N := N_Row_str) (sc := defScope s_Row_str) (by decide +kernel)) (fun _ _ _ _ _ => (pg_name (i := 2) sc_Row_str.nd rfl (by first | exact Or.inl rfl | exact Or.inr rfl))) (fun _ _ _ _ _ => pts_nil) (fun _ _ _ _ _ => (pe_cal c_figures_of (hr.mono (by decide)) (by rfl) pass0 (pa_cons (pv 2) pa_nil)))) (pa_cons pe_str pa_nil))))
      (pss_cons (ps_set (i := 1) sc_Row_str.nd rfl (by first | exact Or.inl rfl | exact Or.inr rfl) (pe_lst (StX.pa_star (pv 1) (StX.pa_star (pe_lc (own := [("number", 2)]) rfl sc_Row_str.nd (pi_tupK (K := K) rfl (pe_slice sl_tupA (pe_fld (pv 0) rfl) (po_some ((pe_prp c_start (hr.mono (by decide)) pass0) (pv 0))) po_none)) (blkOk_by (own := [("number", 2)]) (N := N_Row_str) (sc := defScope s_Row_str) (by decide +kernel)) (fun _ _ _ _ _ => (pg_name (i := 2) sc_Row_str.nd rfl (by first | exact Or.inl rfl | exact Or.inr rfl))) (fun _ _ _ _ _ => pts_nil) (fun _ _ _ _ _ => (pe_cal c_figures_of (hr.mono (by decide)) (by rfl) pass0 (pa_cons (pv 2) pa_nil)))) (pa_cons pe_str (pa_cons (pe_cal c_figures_of (hr.mono (by decide)) (by rfl) pass0 (pa_cons (pe_fld (pv 0) rfl) pa_nil)) pa_nil))))))
      (pss_one (ps_ret (pe_join pe_str (pv 1)))))), ?_⟩
    have l1 : ∀ n, n < s + p → (fg (f n)).length ≤ 62 := fun n hn => fg_len (hf n hn)
    have ld : (fg d).length ≤ 62 := fg_len hd
    have hl := h.le
    refine ⟨_, rfl, a, CR, dx, _, _, rfl, h1, hC.cl, hC.nT, rfl, _, rfl, a, CR, dx, _, rfl, h1, rfl, a, f, s, p, d, rfl, h, _, rfl, ?_⟩
    refine ⟨t, _, rfl, SqT.of h2, fun w => absurd w.2 (by rw [fl_len, sIx_pos (by omega)]; omega), fun _ u nu => ?_⟩
    rw [cutV_to _ (by omega), show ((s : Nat) : Int).toNat = s from rfl, fl_take _ _ _ (by omega)]
    have e1 : Ext H (upd H u (.tup (fl f s))) := Ext.upd nu
    have f1 : (upd H u (.tup (fl f s))) u = some (.tup (fl f s)) := upd_same
    generalize (upd H u (.tup (fl f s))) = H1 at e1 f1
    refine ⟨u, rfl, ⟨_, SqT.of f1⟩, fun D hD => ?_⟩
    have nt : u ≠ D := ne_of_none f1 hD
    refine lc_it (walk_tup (K := K) (xs := fl f s)) (fun i Hx => Hx = upd H1 D (.lst ((fs (fun i => fg (f i)) i).map V.str))) rfl (fun i Hx _ e => SqT.of (by rw [e, upd_ne nt]; exact f1)) ?_ ?_
    · rintro i x Hx H' hi rfl ⟨rfl, hx⟩
      have hi : i < s := by rw [fl_len] at hi; exact hi
      rw [fl_at hi] at hx
      cases hx
      refine ⟨rfl, _, rfl, f i, rfl, hf i (by omega), _, upd_same, by rw [List.length_map, fs_len]; show i < 16777216; omega, ?_⟩
      show upd (upd H1 D _) D _ = _
      rw [upd_upd, fs_snoc (fun i => fg (f i))]
    · rintro Hx rfl
      rw [fl_len]
      have e2 : Ext H1 (upd H1 D (.lst ((fs (fun i => fg (f i)) s).map V.str))) := Ext.upd hD
      have f2 : (upd H1 D (.lst ((fs (fun i => fg (f i)) s).map V.str))) D = some (.lst ((fs (fun i => fg (f i)) s).map V.str)) := upd_same
      generalize (upd H1 D (.lst ((fs (fun i => fg (f i)) s).map V.str))) = H2 at e2 f2
      refine ⟨D, _, rfl, .inr (SqL.of f2), ?_⟩
      refine ⟨(by show ((fs (fun i => fg (f i)) s).map V.str ++ [V.str "|"]).length ≤ sizeLine; rw [List.length_append, List.length_map, fs_len]; show s + 1 ≤ _; omega), fun L1 nL1 => ?_⟩
      have e3 : Ext H2 (upd H2 L1 (.lst ((fs (fun i => fg (f i)) s).map V.str ++ [V.str "|"]))) := Ext.upd nL1
      have f3 : (upd H2 L1 (.lst ((fs (fun i => fg (f i)) s).map V.str ++ [V.str "|"]))) L1 = some (.lst ((fs (fun i => fg (f i)) s).map V.str ++ [V.str "|"])) := upd_same
      generalize (upd H2 L1 (.lst ((fs (fun i => fg (f i)) s).map V.str ++ [V.str "|"]))) = H3 at e3 f3
      have e03 := e1.trans (e2.trans e3)
      refine ⟨_, rfl, L1, _, rfl, .inr (SqL.of f3), ?_⟩
      refine ⟨_, rfl, a, CR, dx, _, _, rfl, e03 _ _ h1, hC.cl, hC.nT, rfl, _, rfl, a, CR, dx, _, rfl, e03 _ _ h1, rfl, a, f, s, p, d, rfl, h.ext e03, _, rfl, ?_⟩
      dsimp only [tNoPart]
      refine sl_from (K := K) (s := s) (L := s + p) (e03 _ _ h2) (by omega) fun v H4 e4 f4 => ?_
      rw [Nat.add_sub_cancel_left] at f4
      refine ⟨v, rfl, ⟨_, SqT.of f4⟩, fun D2 hD2 => ?_⟩
      have nv : v ≠ D2 := ne_of_none f4 hD2
      refine lc_it (walk_tup (K := K) (xs := fl (fun i => f (s + i)) p)) (fun i Hx => Hx = upd H4 D2 (.lst ((fs (fun i => fg (f (s + i))) i).map V.str))) rfl (fun i Hx _ e => SqT.of (by rw [e, upd_ne nv]; exact f4)) ?_ ?_
      · rintro i x Hx H' hi rfl ⟨rfl, hx⟩
        have hi : i < p := by rw [fl_len] at hi; exact hi
        rw [fl_at hi] at hx
        cases hx
        refine ⟨rfl, _, rfl, f (s + i), rfl, hf (s + i) (by omega), _, upd_same, by rw [List.length_map, fs_len]; show i < 16777216; omega, ?_⟩
        show upd (upd H4 D2 _) D2 _ = _
        rw [upd_upd, fs_snoc (fun i => fg (f (s + i)))]
      · rintro Hx rfl
        rw [fl_len]
        have e5 : Ext H4 (upd H4 D2 (.lst ((fs (fun i => fg (f (s + i))) p).map V.str))) := Ext.upd hD2
        have f5 : (upd H4 D2 (.lst ((fs (fun i => fg (f (s + i))) p).map V.str))) D2 = some (.lst ((fs (fun i => fg (f (s + i))) p).map V.str)) := upd_same
        generalize (upd H4 D2 (.lst ((fs (fun i => fg (f (s + i))) p).map V.str))) = H5 at e5 f5
        have e05 := e03.trans (e4.trans e5)
        refine ⟨D2, _, rfl, .inr (SqL.of f5), ?_⟩
        refine ⟨_, rfl, a, CR, dx, _, _, rfl, e05 _ _ h1, hC.cl, hC.nG, rfl, d, rfl, hd, ?_⟩
        have ew : (fs (fun i => fg (f i)) s).map V.str ++ [V.str "|"] ++ ((fs (fun i => fg (f (s + i))) p).map V.str ++ [V.str "+", V.str (fg d)]) = (rowW f s p d).map V.str := by
          unfold rowW
          simp only [List.map_append, List.map_cons, List.map_nil]
        have lw : (rowW f s p d).length = s + p + 3 := by
          unfold rowW
          simp only [List.length_append, fs_len, List.length_cons, List.length_nil]
          omega
        have sw : ((rowW f s p d).map (·.length)).sum ≤ (s + p + 3) * 62 := by
          rw [← lw]
          refine sum_some (fun z hz => ?_)
          unfold rowW fs at hz
          rcases List.mem_append.mp hz with hz | hz
          · rcases List.mem_append.mp hz with hz | hz
            · obtain ⟨i, hi, rfl⟩ := List.mem_map.mp hz
              exact l1 i (by have := List.mem_range.mp hi; omega)
            · cases List.mem_singleton.mp hz
              decide
          · rcases List.mem_append.mp hz with hz | hz
            · obtain ⟨i, hi, rfl⟩ := List.mem_map.mp hz
              exact l1 (s + i) (by have := List.mem_range.mp hi; omega)
            · rcases List.mem_cons.mp hz with rfl | hz
              · decide
              · cases List.mem_singleton.mp hz
                exact ld
        refine ⟨(by show ((fs (fun i => fg (f i)) s).map V.str ++ [V.str "|"] ++ ((fs (fun i => fg (f (s + i))) p).map V.str ++ [V.str "+", V.str (fg d)])).length ≤ sizeLine; rw [ew, List.length_map, lw]; omega), fun L2 nL2 => ?_⟩
        have e6 : Ext H5 (upd H5 L2 (.lst ((fs (fun i => fg (f i)) s).map V.str ++ [V.str "|"] ++ ((fs (fun i => fg (f (s + i))) p).map V.str ++ [V.str "+", V.str (fg d)])))) := Ext.upd nL2
        have f6 : (upd H5 L2 (.lst ((fs (fun i => fg (f i)) s).map V.str ++ [V.str "|"] ++ ((fs (fun i => fg (f (s + i))) p).map V.str ++ [V.str "+", V.str (fg d)])))) L2 = some (.lst ((fs (fun i => fg (f i)) s).map V.str ++ [V.str "|"] ++ ((fs (fun i => fg (f (s + i))) p).map V.str ++ [V.str "+", V.str (fg d)]))) := upd_same
        generalize (upd H5 L2 (.lst ((fs (fun i => fg (f i)) s).map V.str ++ [V.str "|"] ++ ((fs (fun i => fg (f (s + i))) p).map V.str ++ [V.str "+", V.str (fg d)])))) = H6 at e6 f6
        rw [ew] at f6
        exact ⟨⟨_, rfl⟩, _, rfl, " ", L2, rowW f s p d, rfl, rfl, .inl (SqL.of f6), by rw [lw]; show _ + (s + p + 3) * 1 ≤ _; omega, k _ (e05.trans e6)⟩
end
end K09
end
section
set_option Elab.async false
set_option autoImplicit false
set_option linter.all false
set_option maxRecDepth 100000
set_option maxHeartbeats 4000000
set_option pp.maxSteps 1500
namespace K09
open PySem PySem.Spec PyProof.Rows L2 Ls RowM
open C8 (pss_cut tCut)
open TL
def ToldAt (H : Hp) (L : Addr) (xs : List Int) (p : Nat) (d : Int) : Prop := (∃ M, H L = some (.lst [.ref M, .int p, .int d]) ∧ H M = some (.lst (xs.map V.int))) ∧ 1 ≤ p ∧ p ≤ xs.length ∧ xs.length ≤ 1000 ∧ d.natAbs < 2 ^ 200 ∧ ∀ x ∈ xs, x.natAbs < 2 ^ 200
section
variable {P : Program} {w : World} {K : PySem.W.Frag} {mg : Str → Option Value} {base : Heap} {CE CN CT CB CR : Addr} {tM tP tF : Tok}
def spAt : Sp := fun vs H Q _ => ∃ (L : Addr) (xs : List Int) (p : Nat) (d : Int) (n : Nat), vs = [.ref L, .int n] ∧ ToldAt H L xs p d ∧ n < 2 ^ 850 ∧ Q (.int (ext xs p d n)) H
abbrev s__law_at : Stmt := top 37
abbrev N__law_at : List Str := ["_law_told_here", "_law_n", "_law_some", "_law_span", "_law_pace_so", "_law_over"]
theorem sc__law_at : FnScope N__law_at ["_law_told_here", "_law_n"] (defScope s__law_at) := ⟨rfl, rfl, rfl, by decide +kernel, rfl, by decide +kernel, by decide +kernel⟩
theorem ok_at {fa : Addr} {fd : FuncData} (F : Fun K "_law_at" "_law_at" s__law_at fa fd) (T : Tx K mg CE CN CT CB CR tM tP tF) : FnOk P w K mg base CX0 1 fa fd ["_law_told_here", "_law_n"] spAt := by
  refine F.ok sc__law_at (fun vs H Q E h => ?_) (fun cdv A outer s0 H vs Q E hr h => ?_)
  · obtain ⟨L, xs, p, d, n, rfl, _⟩ := h
    rfl
  · obtain ⟨L, xs, p, d, n, rfl, ⟨⟨M, hL, hM⟩, hp, hpx, hx, hd, _⟩, hn, k⟩ := h
    have hb : (2 : Nat) ^ 850 + 10 < 2 ^ 900 := by decide
    refine ⟨_, (pss_cons (ps_asg (pv 0) (pg_lst rfl (pgs_cons (pg_name (i := 2) sc__law_at.nd rfl (by first | exact Or.inl rfl | exact Or.inr rfl)) (pgs_cons (pg_name (i := 3) sc__law_at.nd rfl (by first | exact Or.inl rfl | exact Or.inr rfl)) (pgs_cons (pg_name (i := 4) sc__law_at.nd rfl (by first | exact Or.inl rfl | exact Or.inr rfl)) pgs_nil)))))
      (pss_cons (ps_if (pt_cmpR op_lt (pv 1) (pe_callB call_len_seq (by rfl) (T.bn _ (by decide +kernel)) (by decide +kernel) (pa_cons (pv 2) pa_nil)) (nomark _)) (pss_one (ps_ret (pe_ix ix_list (pv 2) (pv 1) (fun _ _ => rfl)))) pss_nil)
      (pss_cons (ps_set (i := 5) sc__law_at.nd rfl (by first | exact Or.inl rfl | exact Or.inr rfl) (pe_op op_sub (pv 1) (pe_callB call_len_seq (by rfl) (T.bn _ (by decide +kernel)) (by decide +kernel) (pa_cons (pv 2) pa_nil))))
      (pss_one (ps_ret (pe_op op_add (pe_ix ix_list (pv 2) (pe_op op_add (pe_op op_sub (pe_callB call_len_seq (by rfl) (T.bn _ (by decide +kernel)) (by decide +kernel) (pa_cons (pv 2) pa_nil)) (pv 3)) (pe_op op_mod (pe_callTy call_int1 (by rfl) (T.bn _ (by decide +kernel)) (by decide +kernel) (pa_cons (pv 5) pa_nil)) (pv 3))) (fun _ _ => rfl)) (pe_op op_mulW (pe_op op_add (pe_op op_fdiv (pv 5) (pv 3)) pe_int) (pv 4)))))))), ?_⟩
    refine ⟨_, rfl, L, _, rfl, SqL.of hL, rfl, _, _, rfl, _, _, rfl, _, _, rfl, rfl, ?_⟩
    refine ⟨_, rfl, _, rfl, M, _, rfl, .inl (SqL.of hM), _, _, rfl, rfl, _, rfl, ?_⟩
    rw [List.length_map]
    have lx : (xs.map V.int).length = xs.length := List.length_map _
    have at_ : ∀ i, i < xs.length → (xs.map V.int)[i]? = some (.int (xs.getD i 0)) := fun i hi => by
      rw [List.getElem?_map, List.getD_eq_getElem?_getD, List.getElem?_eq_getElem hi]
      rfl
    by_cases hl : n < xs.length
    · refine iteYes (decide_eq_true (by omega)) ?_
      refine ⟨_, rfl, _, rfl, M, _, _, .int (xs.getD n 0), rfl, rfl, SqL.of hM, atI_at (j := n) (by omega) (at_ n hl), ?_⟩
      rw [ext_at hl] at k
      exact k
    refine iteNo (decide_eq_false (by omega)) ?_
    refine ⟨_, rfl, _, rfl, M, _, rfl, .inl (SqL.of hM), _, _, rfl, rfl, ?_⟩
    have eo : (n : Int) - xs.length = ((n - xs.length : Nat) : Int) := by omega
    show gName 5 (V.int ((n : Int) - (xs.map V.int).length)) _ _ _
    rw [lx, eo]
    have e1 : ((n - xs.length : Nat) : Int) % p = (((n - xs.length) % p : Nat) : Int) := by rw [Int.natCast_emod]
    have e2 : ((n - xs.length : Nat) : Int) / p + 1 = (((n - xs.length) / p + 1 : Nat) : Int) := by rw [Int.natCast_add, Int.natCast_ediv]; rfl
    have hm := Nat.mod_lt (n - xs.length) hp
    have hq : (n - xs.length) / p ≤ n := Nat.le_trans (Nat.div_le_self _ _) (Nat.sub_le _ _)
    refine ⟨_, rfl, _, rfl, M, _, rfl, .inl (SqL.of hM), _, rfl, _, _, rfl, rfl, _, rfl, .inl ⟨_, rfl, _, rfl, _, _, rfl, rfl, (by show (0 : Int) < (p : Int); omega), _, _, rfl, rfl, M, _, _, .int (xs.getD (xs.length - p + (n - xs.length) % p) 0), rfl, rfl, SqL.of hM, atI_at (j := xs.length - p + (n - xs.length) % p) ?_ (at_ _ (by omega)), ?_⟩⟩
    · show ((xs.map V.int).length : Int) - p + ((n - xs.length : Nat) : Int) % p = _
      rw [lx, e1]
      omega
    refine ⟨_, rfl, _, rfl, _, _, rfl, rfl, ⟨by omega, by omega⟩, _, _, rfl, rfl, _, rfl, _, _, rfl, rfl, ?_, _, _, rfl, rfl, ?_⟩
    · show CMulW (((n - xs.length : Nat) : Int) / p + 1) d
      rw [e2]
      exact wide_mul (a := 900) (b := 900) (show (n - xs.length) / p + 1 < 2 ^ 900 by omega) (Nat.lt_trans hd (by decide)) (by decide) (by decide) (by decide)
    · show Q (.int (xs.getD (xs.length - p + (n - xs.length) % p) 0 + (((n - xs.length : Nat) : Int) / p + 1) * d)) H
      rw [e2]
      have ek : ext xs p d n = xs.getD (xs.length - p + (n - xs.length) % p) 0 + (((n - xs.length) / p + 1 : Nat) : Int) * d := if_neg hl
      rw [ek] at k
      exact k
end
end K09
end
section
set_option Elab.async false
set_option autoImplicit false
set_option linter.all false
set_option maxRecDepth 100000
set_option maxHeartbeats 4000000
set_option pp.maxSteps 1500
namespace K09
open PySem PySem.Spec PyProof.Rows L2 Ls RowM
open C8 (pss_cut tCut)
open TL
theorem ext_le {xs : List Int} {p : Nat} {d : Int} (hp : p ≤ xs.length) (h1 : 1 ≤ p) (h : ∀ x ∈ xs, x.natAbs < 2 ^ 200) (hd : d.natAbs < 2 ^ 200) {n : Nat} (hn : n < 2 ^ 850) : (ext xs p d n).natAbs < 2 ^ 1900 := by
  have g : ∀ i, i < xs.length → (xs.getD i 0).natAbs < 2 ^ 200 := fun i hi => by
    rw [List.getD_eq_getElem?_getD, List.getElem?_eq_getElem hi]
    exact h _ (List.getElem_mem hi)
  have e0 : (2 : Nat) ^ 200 < 2 ^ 1900 := by decide +kernel
  unfold ext
  by_cases hl : n < xs.length
  · rw [if_pos hl]
    exact Nat.lt_trans (g n hl) e0
  · rw [if_neg hl]
    have hm := Nat.mod_lt (n - xs.length) h1
    have a1 := g (xs.length - p + (n - xs.length) % p) (by omega)
    have a2 : (n - xs.length) / p ≤ n := Nat.le_trans (Nat.div_le_self _ _) (Nat.sub_le _ _)
    have a3 : ((((n - xs.length) / p + 1 : Nat) : Int) * d).natAbs ≤ 2 ^ 851 * 2 ^ 200 := by
      rw [Int.natAbs_mul]
      have b1 : ((((n - xs.length) / p + 1 : Nat) : Int)).natAbs ≤ 2 ^ 851 := by
        show (n - xs.length) / p + 1 ≤ 2 ^ 851
        exact Nat.le_trans (Nat.succ_le_of_lt (Nat.lt_of_le_of_lt a2 hn)) (by decide +kernel)
      exact Nat.mul_le_mul b1 (Nat.le_of_lt hd)
    have a4 : (2 : Nat) ^ 200 + 2 ^ 851 * 2 ^ 200 < 2 ^ 1900 := by decide +kernel
    have a5 := Int.natAbs_add_le (xs.getD (xs.length - p + (n - xs.length) % p) 0) ((((n - xs.length) / p + 1 : Nat) : Int) * d)
    exact Nat.lt_of_le_of_lt a5 (Nat.lt_of_le_of_lt (Nat.add_le_add (Nat.le_of_lt a1) a3) a4)
def bnd : Nat := 10000000000000000000000000000000000000000
theorem dvd6 {n : Nat} (h1 : 1 ≤ n) (h6 : n ≤ 6) : n ∣ 120 := by
  match n, h6 with
  | 1, _ => decide
  | 2, _ => decide
  | 3, _ => decide
  | 4, _ => decide
  | 5, _ => decide
  | 6, _ => decide
theorem dvd12 {n : Nat} (h1 : 1 ≤ n) (h6 : n ≤ 6) : 2 * n ∣ 120 := by
  match n, h6 with
  | 1, _ => decide
  | 2, _ => decide
  | 3, _ => decide
  | 4, _ => decide
  | 5, _ => decide
  | 6, _ => decide
section
variable {P : Program} {w : World} {K : PySem.W.Frag} {mg : Str → Option Value} {base : Heap} {CE CN CT CB CR : Addr} {tM tP tF : Tok}
structure ToldK (pn c : Addr) (H : Hp) (L : Addr) (xs : List Int) (p : Nat) (d : Int) : Prop where
  ex : ∃ M, H L = some (.lst [.ref M, .int p, .int d]) ∧ H M = some (.lst (xs.map V.int)) ∧ L ≠ pn ∧ L ≠ c ∧ M ≠ pn ∧ M ≠ c
  h1 : 1 ≤ p
  hp : p ≤ xs.length
  hx : xs.length ≤ 100
  hd : d.natAbs ≤ 2 ^ 150
  hn : ∀ x ∈ xs, x.natAbs ≤ 2 ^ 150
theorem ToldK.keep {pn c : Addr} {H H1 : Hp} {L : Addr} {xs : List Int} {p : Nat} {d : Int} (h : ToldK pn c H L xs p d) (k : Keep pn c H H1) : ToldK pn c H1 L xs p d := by
  obtain ⟨M, a1, a2, a3, a4, a5, a6⟩ := h.ex
  exact ⟨⟨M, k _ _ a1 a3 a4, k _ _ a2 a5 a6, a3, a4, a5, a6⟩, h.h1, h.hp, h.hx, h.hd, h.hn⟩
theorem ToldK.extN {pn c : Addr} {H H1 : Hp} {L : Addr} {xs : List Int} {p : Nat} {d : Int} (h : ToldK pn c H L xs p d) (k : LamX.ExtN H H1) : ToldK pn c H1 L xs p d := by
  obtain ⟨M, a1, a2, a3, a4, a5, a6⟩ := h.ex
  exact ⟨⟨M, k _ _ a1 (fun ps z => nomatch z), k _ _ a2 (fun ps z => nomatch z), a3, a4, a5, a6⟩, h.h1, h.hp, h.hx, h.hd, h.hn⟩
theorem ToldK.here {pn c : Addr} {H : Hp} {L : Addr} {xs : List Int} {p : Nat} {d : Int} (h : ToldK pn c H L xs p d) : ToldAt H L xs p d := by
  obtain ⟨M, a1, a2, _⟩ := h.ex
  have e : (2 : Nat) ^ 150 < 2 ^ 200 := by decide
  exact ⟨⟨M, a1, a2⟩, h.h1, h.hp, Nat.le_trans h.hx (by decide), Nat.lt_of_le_of_lt h.hd e, fun x hx => Nat.lt_of_le_of_lt (h.hn x hx) e⟩
def Small (xs : List Int) (d : Int) : Prop := d.natAbs ≤ 2 ^ 140 ∧ ∀ x ∈ xs, x.natAbs ≤ 2 ^ 140
def spTold : Sp := fun vs H Q _ => ∃ (pn c : Addr) (n : Nat), vs = [.ref pn] ∧ PenAt H pn c n ∧ n + 60 < 1048576 ∧
  ∀ (L : Addr) (xs : List Int) (p : Nat) (d : Int) (H' : Hp), ToldK pn c H' L xs p d → xs.length ≤ 24 → p ∣ 120 → p ≤ 12 → Small xs d → PenAt H' pn c (n + 60) → Keep pn c H H' → Q (.ref L) H'
abbrev s__law_told : Stmt := top 36
abbrev N__law_told : List Str := ["_law_pen_here", "_law_great", "_law_many", "_law_span", "_law_k", "_law_pace_so", "_law_part", "_law_slow", "_law_head", "_law_number"]
theorem sc__law_told : FnScope N__law_told ["_law_pen_here"] (defScope s__law_told) := ⟨rfl, rfl, rfl, by decide +kernel, rfl, by decide +kernel, by decide +kernel⟩
theorem ok_told {fa : Addr} {fd : FuncData} (F : Fun K "_law_told" "_law_told" s__law_told fa fd) (T : Tx K mg CE CN CT CB CR tM tP tF) (c__law_draw : Cal P w K mg base CX0 1 "_law_draw" spDraw) (c__law_pick : Cal P w K mg base CX0 2 "_law_pick" (spPick K)) : FnOk P w K mg base CX0 3 fa fd ["_law_pen_here"] spTold := by
  refine F.ok sc__law_told (fun vs H Q E h => ?_) (fun cdv A outer s0 H vs Q E hr h => ?_)
  · obtain ⟨pn, c, n, rfl, _⟩ := h
    rfl
  · obtain ⟨pn, c, n, rfl, hp, hn, k⟩ := h
    refine ⟨_, (pss_cons (ps_set (i := 1) sc__law_told.nd rfl (by first | exact Or.inl rfl | exact Or.inr rfl) (pe_cal c__law_pick (hr.mono (by decide)) (by rfl) pass0 (pa_cons (pv 0) (pa_cons (pe_lst (pa_cons pe_int (pa_cons pe_int (pa_cons pe_int (pa_cons (pe_op op_pow pe_int pe_int) (pa_cons (pe_op op_pow pe_int pe_int) pa_nil)))))) pa_nil))))
      (pss_cons (ps_set (i := 2) sc__law_told.nd rfl (by first | exact Or.inl rfl | exact Or.inr rfl) (pe_op op_add pe_int (pe_cal c__law_draw (hr.mono (by decide)) (by rfl) pass0 (pa_cons (pv 0) (pa_cons (pe_cal c__law_pick (hr.mono (by decide)) (by rfl) pass0 (pa_cons (pv 0) (pa_cons (pe_lst (pa_cons pe_int (pa_cons pe_int (pa_cons pe_int (pa_cons pe_int pa_nil))))) pa_nil))) pa_nil)))))
      (pss_cons (ps_set (i := 3) sc__law_told.nd rfl (by first | exact Or.inl rfl | exact Or.inr rfl) (pe_lc (own := [("_law_k", 4)]) rfl sc__law_told.nd (pi_range1 rfl (T.bn _ (by decide +kernel)) (pa_cons (pv 2) pa_nil)) (blkOk_by (own := [("_law_k", 4)]) (N := N__law_told) (sc := defScope s__law_told) (by decide +kernel)) (fun _ _ _ _ _ => (pg_name (i := 4) sc__law_told.nd rfl (by first | exact Or.inl rfl | exact Or.inr rfl))) (fun _ _ _ _ _ => pts_nil) (fun _ _ _ _ _ => (pe_op op_mul (pv 1) (pe_op op_sub (pe_cal c__law_draw (hr.mono (by decide)) (by rfl) pass0 (pa_cons (pv 0) (pa_cons pe_int pa_nil))) pe_int)))))
      (pss_cons (ps_set (i := 5) sc__law_told.nd rfl (by first | exact Or.inl rfl | exact Or.inr rfl) (pe_op op_mul (pv 1) (pe_cal c__law_pick (hr.mono (by decide)) (by rfl) pass0 (pa_cons (pv 0) (pa_cons (pe_lst (pa_cons pe_int (pa_cons pe_int (pa_cons pe_int (pa_cons pe_int (pa_cons pe_int (pa_cons (pv 2) (pa_cons (pe_un un_neg pe_int) (pa_cons (pe_un un_neg pe_int) (pa_cons pe_int pa_nil)))))))))) pa_nil)))))
      (pss_cut (ps_if (pt_cmpR op_eq (pe_cal c__law_draw (hr.mono (by decide)) (by rfl) pass0 (pa_cons (pv 0) (pa_cons pe_int pa_nil))) pe_int (nomark _)) (pss_cons (ps_set (i := 6) sc__law_told.nd rfl (by first | exact Or.inl rfl | exact Or.inr rfl) (pe_op op_add pe_int (pe_cal c__law_draw (hr.mono (by decide)) (by rfl) pass0 (pa_cons (pv 0) (pa_cons (pv 2) pa_nil)))))
      (pss_cons (ps_set (i := 7) sc__law_told.nd rfl (by first | exact Or.inl rfl | exact Or.inr rfl) (pe_op op_sub (pe_cal c__law_draw (hr.mono (by decide)) (by rfl) pass0 (pa_cons (pv 0) (pa_cons pe_int pa_nil))) pe_int))
      (pss_cons (ps_set (i := 3) sc__law_told.nd rfl (by first | exact Or.inl rfl | exact Or.inr rfl) (pe_lc (own := [("_law_k", 4)]) rfl sc__law_told.nd (pi_range1 rfl (T.bn _ (by decide +kernel)) (pa_cons (pe_op op_mul pe_int (pv 6)) pa_nil)) (blkOk_by (own := [("_law_k", 4)]) (N := N__law_told) (sc := defScope s__law_told) (by decide +kernel)) (fun _ _ _ _ _ => (pg_name (i := 4) sc__law_told.nd rfl (by first | exact Or.inl rfl | exact Or.inr rfl))) (fun _ _ _ _ _ => pts_nil) (fun _ _ _ _ _ => (pe_op op_add (pe_ix (ix_listK (K := K) rfl) (pv 3) (pe_op op_mod (pe_callTy call_int1 (by rfl) (T.bn _ (by decide +kernel)) (by decide +kernel) (pa_cons (pv 4) pa_nil)) (pv 6)) (fun _ _ => rfl)) (pe_op op_mul (pe_op op_mul (pe_op op_fdiv (pv 4) (pv 6)) (pv 7)) (pv 1))))))
      (pss_one (ps_set (i := 5) sc__law_told.nd rfl (by first | exact Or.inl rfl | exact Or.inr rfl) (pe_op op_mul (pe_op op_mul pe_int (pv 7)) (pv 1))))))) pss_nil)
      (pss_cons (ps_setLc (i := 8) (own := [("_law_k", 4)]) rfl sc__law_told.nd rfl rfl (sw_true rfl rfl rfl (by decide +kernel)) (pi_range1 rfl (T.bn _ (by decide +kernel)) (pa_cons (pe_cal c__law_draw (hr.mono (by decide)) (by rfl) pass0 (pa_cons (pv 0) (pa_cons pe_int pa_nil))) pa_nil)) (blkOk_by (own := [("_law_k", 4)]) (N := N__law_told) (sc := defScope s__law_told) (by decide +kernel)) (fun _ _ _ _ _ => (pg_name (i := 4) sc__law_told.nd rfl (by first | exact Or.inl rfl | exact Or.inr rfl))) (fun _ _ _ _ _ => pts_nil) (fun _ _ _ _ _ => (pe_op op_mul (pv 1) (pe_op op_sub (pe_cal c__law_draw (hr.mono (by decide)) (by rfl) pass0 (pa_cons (pv 0) (pa_cons pe_int pa_nil))) pe_int))))
      (pss_cut (ps_if (pt_cmpR op_eq (pe_cal c__law_draw (hr.mono (by decide)) (by rfl) pass0 (pa_cons (pv 0) (pa_cons pe_int pa_nil))) pe_int (nomark _)) (pss_one (ps_setLc (i := 8) (own := [("_law_number", 9)]) rfl sc__law_told.nd rfl rfl (sw_true rfl rfl rfl (by decide +kernel)) (pi_list (pv 3)) (blkOk_by (own := [("_law_number", 9)]) (N := N__law_told) (sc := defScope s__law_told) (by decide +kernel)) (fun _ _ _ _ _ => (pg_name (i := 9) sc__law_told.nd rfl (by first | exact Or.inl rfl | exact Or.inr rfl))) (fun _ _ _ _ _ => pts_nil) (fun _ _ _ _ _ => (pe_op op_sub (pv 9) (pv 5))))) pss_nil)
      (pss_one (ps_ret (pe_lst (pa_cons (pe_op op_cat (pv 8) (pv 3)) (pa_cons (pe_callB call_len_seq (by rfl) (T.bn _ (by decide +kernel)) (by decide +kernel) (pa_cons (pv 3) pa_nil)) (pa_cons (pv 5) pa_nil))))))))))))), ?_⟩
    refine ⟨_, rfl, _, _, rfl, rfl, ⟨by decide, by decide, by decide⟩, _, _, rfl, rfl, ⟨by decide, by decide, by decide⟩, (by show 5 ≤ sizeLine; decide), fun q1 nq1 => ?_⟩
    have e1 := Ext.upd (o := .lst [V.int 1, V.int 1, V.int 1, V.int (10 ^ (12 : Int).toNat), V.int (10 ^ (29 : Int).toNat)]) nq1
    obtain ⟨np1, nc1⟩ := hp.ne nq1
    refine ⟨pn, c, n, .ref q1, rfl, hp.ext e1, by omega, .inl ⟨q1, _, rfl, np1.symm, nc1.symm, upd_same, (by show 0 < 5; decide), (by show 5 ≤ 1000; decide), fun x H2 hx hp2 kp2 => ?_⟩⟩
    obtain ⟨G, rfl, hG⟩ : ∃ G : Int, x = .int G ∧ (1 ≤ G ∧ G ≤ 100000000000000000000000000000) := by
      simp only [List.mem_cons, List.mem_nil_iff, or_false] at hx
      rcases hx with rfl | rfl | rfl | rfl | rfl
      · exact ⟨_, rfl, by decide, by decide⟩
      · exact ⟨_, rfl, by decide, by decide⟩
      · exact ⟨_, rfl, by decide, by decide⟩
      · exact ⟨_, rfl, by decide +kernel, by decide +kernel⟩
      · exact ⟨_, rfl, by decide +kernel, by decide +kernel⟩
    have kp02 : Keep pn c H H2 := (Keep.ext e1).trans kp2
    refine ⟨_, rfl, _, rfl, (by show 4 ≤ sizeLine; decide), fun q3 nq3 => ?_⟩
    have e3 := Ext.upd (o := .lst [V.int 1, V.int 2, V.int 3, V.int 6]) nq3
    obtain ⟨np3, nc3⟩ := hp2.ne nq3
    refine ⟨pn, c, n + 1, .ref q3, rfl, hp2.ext e3, by omega, .inl ⟨q3, _, rfl, np3.symm, nc3.symm, upd_same, (by show 0 < 4; decide), (by show 4 ≤ 1000; decide), fun x H4 hx hp4 kp4 => ?_⟩⟩
    obtain ⟨U, rfl, hU⟩ : ∃ U : Int, x = .int U ∧ (1 ≤ U ∧ U ≤ 6) := by
      simp only [List.mem_cons, List.mem_nil_iff, or_false] at hx
      rcases hx with rfl | rfl | rfl | rfl <;> exact ⟨_, rfl, by decide, by decide⟩
    have kp04 : Keep pn c H H4 := kp02.trans ((Keep.ext e3).trans kp4)
    refine ⟨pn, c, n + 2, U, rfl, hp4, by omega, by omega, by omega, fun j H5 j0 j1 hp5 kp5 => ?_⟩
    have kp05 := kp04.trans kp5
    refine ⟨_, _, rfl, rfl, ?_⟩
    obtain ⟨W, hW, w1, w6⟩ : ∃ W : Nat, (1 : Int) + j = W ∧ 1 ≤ W ∧ W ≤ 6 := ⟨(1 + j).toNat, by omega, by omega, by omega⟩
    show gName 2 (V.int (1 + j)) _ _ _
    rw [hW]
    have bm : ∀ {a : Int}, -6 ≤ a → a ≤ 12 → (G * a).natAbs ≤ bnd := fun {a} h1 h2 => by
      rw [Int.natAbs_mul]
      have x1 : G.natAbs ≤ 100000000000000000000000000000 := by omega
      have x2 : a.natAbs ≤ 12 := by omega
      exact Nat.le_trans (Nat.mul_le_mul x1 x2) (by decide +kernel)
    refine ⟨_, rfl, _, rfl, by omega, by omega, fun D hD => ?_⟩
    rw [Int.toNat_natCast]
    obtain ⟨npD, ncD⟩ := hp5.ne hD
    refine lc_it walk_range (fun i Hx => ∃ acc : List Int, Hx D = some (.lst (acc.map V.int)) ∧ acc.length = i ∧ (∀ x ∈ acc, x.natAbs ≤ bnd) ∧ PenAt Hx pn c (n + 3 + i) ∧ Keep pn c H5 Hx) ⟨[], upd_same, rfl, by simp, hp5.upd npD ncD, Keep.new hD⟩ (fun _ _ _ _ => trivial) ?_ ?_
    · rintro i x Hx H' hi ⟨acc, g1, g2, g3, g4, g5⟩ ⟨rfl, rfl⟩
      have hi : i < W := hi
      refine ⟨rfl, _, rfl, _, rfl, pn, c, n + 3 + i, 9, rfl, g4, by omega, by decide, by decide, fun u H6 u0 u1 hp6 kp6 => ?_⟩
      refine ⟨_, _, rfl, rfl, _, _, rfl, rfl, .inr ⟨by omega, by omega⟩, _, kp6 _ _ g1 npD.symm ncD.symm, by rw [List.length_map]; show acc.length < 16777216; omega, acc ++ [G * (u - 4)], ?_, by simp [g2], ?_, hp6.upd npD ncD, fun b o e h1 h2 => ?_⟩
      · rw [upd_same, List.map_append]; rfl
      · intro x hx
        rcases List.mem_append.mp hx with hx | hx
        · exact g3 x hx
        · have : x = G * (u - 4) := by simpa using hx
          rw [this]
          exact bm (by omega) (by omega)
      · rw [upd_ne (ne_of_none e hD)]
        exact kp6 b o (g5 b o e h1 h2) h1 h2
    rintro H6 ⟨ps, g1, g2, g3, g4, g5⟩
    have kp06 := kp05.trans g5
    refine ⟨_, rfl, _, rfl, _, rfl, _, rfl, _, rfl, (by show 9 ≤ sizeLine; decide), fun q5 nq5 => ?_⟩
    have e7 := Ext.upd (o := .lst [V.int 0, V.int 1, V.int 1, V.int 2, V.int 3, V.int W, V.int (-1), V.int (-2), V.int 7]) nq5
    obtain ⟨np5, nc5⟩ := g4.ne nq5
    refine ⟨pn, c, n + 3 + W, .ref q5, rfl, g4.ext e7, by omega, .inl ⟨q5, _, rfl, np5.symm, nc5.symm, upd_same, (by show 0 < 9; decide), (by show 9 ≤ 1000; decide), fun x H8 hx hp8 kp8 => ?_⟩⟩
    obtain ⟨sa, rfl, hsa⟩ : ∃ a : Int, x = .int a ∧ (-2 ≤ a ∧ a ≤ 9) := by
      simp only [List.mem_cons, List.mem_nil_iff, or_false] at hx
      rcases hx with rfl | rfl | rfl | rfl | rfl | rfl | rfl | rfl | rfl <;> exact ⟨_, rfl, by omega, by omega⟩
    refine ⟨_, _, rfl, rfl, .inr ⟨by omega, by omega⟩, ?_⟩
    have kp68 : Keep pn c H6 H8 := (Keep.ext e7).trans kp8
    have g18 := kp68 _ _ g1 npD.symm ncD.symm
    have kp08 := kp06.trans kp68
    refine ⟨fun σ' H' => ∃ (P1 : Addr) (ps : List Int) (st : Int) (x4 x6 x7 x8 x9 : Option V), σ' = [some (.ref pn), some (.int G), some (.int W), some (.ref P1), x4, some (.int st), x6, x7, x8, x9] ∧ H' P1 = some (.lst (ps.map V.int)) ∧ P1 ≠ pn ∧ P1 ≠ c ∧ (1 ≤ ps.length ∧ ps.length ∣ 120) ∧ ps.length ≤ 12 ∧ (∀ x ∈ ps, x.natAbs ≤ bnd * 20) ∧ st.natAbs ≤ bnd ∧ PenAt H' pn c (n + 20) ∧ Keep pn c H H', ?_, ?_⟩
    · refine ⟨_, rfl, pn, c, n + 3 + W + 1, 3, rfl, hp8, by omega, by decide, by decide, fun y H9 y0 y1 hp9 kp9 => ?_⟩
      refine ⟨rfl, _, rfl, ?_⟩
      have kp09 := kp08.trans kp9
      have g19 := kp9 _ _ g18 npD.symm ncD.symm
      refine ite2 (fun _ => ?_) (fun _ => ?_)
      case refine_2 => exact ⟨D, ps, G * sa, _, _, _, _, _, rfl, g19, npD.symm, ncD.symm, ⟨by omega, by rw [g2]; exact dvd6 w1 w6⟩, by omega, fun x hx => Nat.le_trans (g3 x hx) (by decide +kernel), bm (by omega) (by omega), hp9.mono (by omega), kp09⟩
      refine ⟨_, rfl, _, rfl, pn, c, n + 3 + W + 2, W, rfl, hp9, by omega, by omega, by omega, fun r HA r0 r1 hpA kpA => ?_⟩
      refine ⟨_, _, rfl, rfl, ?_⟩
      obtain ⟨R, hR, r1', r6⟩ : ∃ R : Nat, (1 : Int) + r = R ∧ 1 ≤ R ∧ R ≤ 6 := ⟨(1 + r).toNat, by omega, by omega, by omega⟩
      show gName 6 (V.int (1 + r)) _ _ _
      rw [hR]
      refine ⟨_, rfl, pn, c, n + 3 + W + 3, 5, rfl, hpA, by omega, by decide, by decide, fun z HB z0 z1 hpB kpB => ?_⟩
      refine ⟨_, _, rfl, rfl, ?_⟩
      have g1B := kpB _ _ (kpA _ _ g19 npD.symm ncD.symm) npD.symm ncD.symm
      have kp0B := kp09.trans (kpA.trans kpB)
      have lps : (ps.map V.int).length = ps.length := List.length_map _
      refine ⟨_, rfl, _, _, rfl, rfl, .inl ⟨by decide, by decide⟩, _, rfl, by omega, by omega, fun D2 hD2 => ?_⟩
      rw [show ((2 : Int) * R).toNat = 2 * R by omega]
      obtain ⟨npD2, ncD2⟩ := hpB.ne hD2
      have nDD : D ≠ D2 := ne_of_none g1B hD2
      refine lc_it walk_range (fun i Hx => ∃ acc : List Int, Hx = upd HB D2 (.lst (acc.map V.int)) ∧ acc.length = i ∧ (∀ x ∈ acc, x.natAbs ≤ bnd * 20)) ⟨[], rfl, rfl, by simp⟩ (fun _ _ _ _ => trivial) ?_ ?_
      · rintro i x Hx H' hi ⟨acc, rfl, h2, h3⟩ ⟨rfl, rfl⟩
        have hi : i < 2 * R := hi
        have gD : (upd HB D2 (.lst (acc.map V.int))) D = some (.lst (ps.map V.int)) := by rw [upd_ne nDD]; exact g1B
        have mR := Int.emod_nonneg ((0 : Int) + i) (show (R : Int) ≠ 0 by omega)
        have mR2 := Int.emod_lt_of_pos ((0 : Int) + i) (show (0 : Int) < R by omega)
        have hix : (((0 : Int) + i) % R).toNat < ps.length := by omega
        refine ⟨rfl, _, rfl, _, rfl, .inl ⟨_, rfl, _, rfl, _, _, rfl, rfl, (by show (0 : Int) < (R : Int); omega), D, _, _, .int (ps[(((0 : Int) + i) % R).toNat]), rfl, rfl, SqL.of gD, atI_at (j := (((0 : Int) + i) % R).toNat) (by omega) (by rw [List.getElem?_map, List.getElem?_eq_getElem hix]; rfl), ?_⟩⟩
        have dv0 : 0 ≤ ((0 : Int) + i) / R := Int.ediv_nonneg (by omega) (by omega)
        have dv1 : ((0 : Int) + i) / R ≤ 12 := by
          have := Int.ediv_le_self (b := (R : Int)) (a := (0 : Int) + i) (by omega)
          omega
        have bz : -24 ≤ ((0 : Int) + i) / R * (z - 2) ∧ ((0 : Int) + i) / R * (z - 2) ≤ 24 := by
          generalize ((0 : Int) + i) / R = u at dv0 dv1
          have h1 : u * (z - 2) ≤ u * 2 := Int.mul_le_mul_of_nonneg_left (by omega) dv0
          have h2 : u * (-2) ≤ u * (z - 2) := Int.mul_le_mul_of_nonneg_left (by omega) dv0
          omega
        refine ⟨_, rfl, _, rfl, _, _, rfl, rfl, ⟨by omega, by omega⟩, _, rfl, _, _, rfl, rfl, .inl ⟨by omega, by omega⟩, _, rfl, _, _, rfl, rfl, .inl ⟨by omega, by omega⟩, _, _, rfl, rfl, _, upd_same, by rw [List.length_map]; show acc.length < 16777216; omega, acc ++ [ps[(((0 : Int) + i) % R).toNat] + ((0 : Int) + i) / R * (z - 2) * G], ?_, by simp [h2], ?_⟩
        · show upd (upd HB D2 _) D2 _ = _
          rw [upd_upd, List.map_append]
          rfl
        · intro x hx
          rcases List.mem_append.mp hx with hx | hx
          · exact h3 x hx
          · have ex : x = ps[(((0 : Int) + i) % R).toNat] + ((0 : Int) + i) / R * (z - 2) * G := by simpa using hx
            have a1 := g3 _ (List.getElem_mem hix)
            have a2 : (((0 : Int) + i) / R * (z - 2) * G).natAbs ≤ 24 * 100000000000000000000000000000 := by
              rw [Int.natAbs_mul]
              exact Nat.mul_le_mul (by omega) (by omega)
            have a3 := Int.natAbs_add_le (ps[(((0 : Int) + i) % R).toNat]) (((0 : Int) + i) / R * (z - 2) * G)
            rw [ex]
            refine Nat.le_trans a3 (Nat.le_trans (Nat.add_le_add a1 a2) ?_)
            decide +kernel
      · rintro Hx ⟨acc, rfl, h2, h3⟩
        refine ⟨_, rfl, _, _, rfl, rfl, .inl ⟨by decide, by decide⟩, _, rfl, _, _, rfl, rfl, .inl ⟨by omega, by omega⟩, ?_⟩
        refine ⟨D2, acc, 2 * (z - 2) * G, _, _, _, _, _, rfl, upd_same, npD2.symm, ncD2.symm, ⟨by omega, by rw [h2]; exact dvd12 r1' r6⟩, by omega, h3, ?_, (hpB.upd npD2 ncD2).mono (by omega), kp0B.trans (Keep.new hD2)⟩
        rw [Int.mul_comm]
        exact bm (by omega) (by omega)
    · rintro σ' H7 ⟨P1, qs, st, x4, x6, x7, x8, x9, rfl, t1, t2, t3, t4, t5, t6, t7, hp7, kp7⟩
      have lqs : (qs.map V.int).length = qs.length := List.length_map _
      refine ⟨_, rfl, pn, c, n + 20, 5, rfl, hp7, by omega, by decide, by decide, fun v H8 v0 v1 hp8 kp8 => ?_⟩
      refine ⟨_, rfl, by omega, by omega, fun D3 hD3 => ?_⟩
      obtain ⟨np3, nc3⟩ := hp8.ne hD3
      have t18 := kp8 _ _ t1 t2 t3
      have nP3 : P1 ≠ D3 := ne_of_none t18 hD3
      refine lc_it walk_range (fun i Hx => ∃ acc : List Int, Hx D3 = some (.lst (acc.map V.int)) ∧ acc.length = i ∧ (∀ x ∈ acc, x.natAbs ≤ bnd) ∧ PenAt Hx pn c (n + 21 + i) ∧ Keep pn c H8 Hx) ⟨[], upd_same, rfl, by simp, hp8.upd np3 nc3, Keep.new hD3⟩ (fun _ _ _ _ => trivial) ?_ ?_
      · rintro i x Hx H' hi ⟨acc, g1, g2, g3, g4, g5⟩ ⟨rfl, rfl⟩
        have hi : i < v.toNat := hi
        refine ⟨rfl, _, rfl, _, rfl, pn, c, n + 21 + i, 9, rfl, g4, by omega, by decide, by decide, fun u H6 u0 u1 hp6 kp6 => ?_⟩
        refine ⟨_, _, rfl, rfl, _, _, rfl, rfl, .inr ⟨by omega, by omega⟩, _, kp6 _ _ g1 np3.symm nc3.symm, by rw [List.length_map]; show acc.length < 16777216; omega, acc ++ [G * (u - 4)], ?_, by simp [g2], ?_, hp6.upd np3 nc3, fun b o e h1 h2 => ?_⟩
        · rw [upd_same, List.map_append]; rfl
        · intro x hx
          rcases List.mem_append.mp hx with hx | hx
          · exact g3 x hx
          · have : x = G * (u - 4) := by simpa using hx
            rw [this]
            exact bm (by omega) (by omega)
        · rw [upd_ne (ne_of_none e hD3)]
          exact kp6 b o (g5 b o e h1 h2) h1 h2
      rintro H9 ⟨hs, g1, g2, g3, g4, g5⟩
      have t19 := g5 _ _ t18 t2 t3
      have kp09 := kp7.trans (kp8.trans g5)
      refine ⟨fun σ' H' => ∃ (P2 : Addr) (hs : List Int) (x4 x6 x7 x9 : Option V), σ' = [some (.ref pn), some (.int G), some (.int W), some (.ref P1), x4, some (.int st), x6, x7, some (.ref P2), x9] ∧ H' P2 = some (.lst (hs.map V.int)) ∧ H' P1 = some (.lst (qs.map V.int)) ∧ hs.length ≤ 12 ∧ (∀ x ∈ hs, x.natAbs ≤ bnd * 40) ∧ PenAt H' pn c (n + 50) ∧ Keep pn c H H', ?_, ?_⟩
      · refine ⟨_, rfl, pn, c, n + 21 + v.toNat, 3, rfl, g4, by omega, by decide, by decide, fun y HA y0 y1 hpA kpA => ?_⟩
        refine ⟨rfl, _, rfl, ?_⟩
        have t1A := kpA _ _ t19 t2 t3
        have g1A := kpA _ _ g1 np3.symm nc3.symm
        have kp0A := kp09.trans kpA
        refine ite2 (fun _ => ?_) (fun _ => ?_)
        case refine_2 => exact ⟨D3, hs, _, _, _, _, rfl, g1A, t1A, by omega, fun x hx => Nat.le_trans (g3 x hx) (by decide +kernel), hpA.mono (by omega), kp0A⟩
        refine ⟨_, rfl, P1, rfl, ⟨_, SqL.of t1A⟩, fun D4 hD4 => ?_⟩
        have nP4 : P1 ≠ D4 := ne_of_none t1A hD4
        obtain ⟨np4, nc4⟩ := hpA.ne hD4
        refine lc_it (walk_list (K := K) (xs := qs.map V.int)) (fun i Hx => ∃ acc : List Int, Hx = upd HA D4 (.lst (acc.map V.int)) ∧ acc.length = i ∧ (∀ x ∈ acc, x.natAbs ≤ bnd * 40)) ⟨[], rfl, rfl, by simp⟩ (fun i Hx _ ⟨acc, e, _⟩ => SqL.of (by rw [e, upd_ne nP4]; exact t1A)) ?_ ?_
        · rintro i x Hx H' hi ⟨acc, rfl, h2, h3⟩ ⟨rfl, hx⟩
          have hi : i < qs.length := by rw [List.length_map] at hi; exact hi
          rw [List.getElem?_map, List.getElem?_eq_getElem hi] at hx
          cases hx
          refine ⟨rfl, _, rfl, _, rfl, _, _, rfl, rfl, _, upd_same, by rw [List.length_map]; show acc.length < 16777216; omega, acc ++ [qs[i] - st], ?_, by simp [h2], ?_⟩
          · show upd (upd HA D4 _) D4 _ = _
            rw [upd_upd, List.map_append]
            rfl
          · intro x hx
            rcases List.mem_append.mp hx with hx | hx
            · exact h3 x hx
            · have ex : x = qs[i] - st := by simpa using hx
              have a1 := t6 _ (List.getElem_mem hi)
              rw [ex]
              have a3 : (qs[i] - st).natAbs ≤ (qs[i]).natAbs + st.natAbs := by omega
              refine Nat.le_trans a3 (Nat.le_trans (Nat.add_le_add a1 t7) ?_)
              decide +kernel
        · rintro Hx ⟨acc, rfl, h2, h3⟩
          exact ⟨D4, acc, _, _, _, _, rfl, upd_same, by rw [upd_ne nP4]; exact t1A, by rw [List.length_map] at h2; omega, h3, (hpA.upd np4 nc4).mono (by omega), kp0A.trans (Keep.new hD4)⟩
      · rintro σ' HB ⟨P2, hs, x4, x6, x7, x9, rfl, s1, s2, s3, s4, hpB, kpB⟩
        have lhs : (hs.map V.int).length = hs.length := List.length_map _
        refine ⟨_, rfl, _, rfl, P2, P1, _, _, rfl, rfl, s1, s2, by rw [lqs, lhs]; show _ ≤ 16777216; omega, fun M nM => ?_⟩
        rw [← List.map_append]
        obtain ⟨npM, ncM⟩ := hpB.ne nM
        have eM : Ext HB (upd HB M (.lst ((hs ++ qs).map V.int))) := Ext.upd nM
        have fM : (upd HB M (.lst ((hs ++ qs).map V.int))) M = some (.lst ((hs ++ qs).map V.int)) := upd_same
        refine ⟨_, rfl, P1, _, rfl, .inl (SqL.of (eM _ _ s2)), _, rfl, (by show 3 ≤ sizeLine; decide), fun L nL => ?_⟩
        rw [lqs]
        obtain ⟨npL, ncL⟩ := (hpB.ext eM).ne nL
        have eL := Ext.upd (o := .lst [V.ref M, V.int qs.length, V.int st]) nL
        have sd : st.natAbs ≤ 2 ^ 140 := Nat.le_trans t7 (by decide +kernel)
        have sx : ∀ x ∈ hs ++ qs, x.natAbs ≤ 2 ^ 140 := fun x hx => by
          rcases List.mem_append.mp hx with hx | hx
          · exact Nat.le_trans (s4 x hx) (by decide +kernel)
          · exact Nat.le_trans (t6 x hx) (by decide +kernel)
        have ee : (2 : Nat) ^ 140 ≤ 2 ^ 150 := by decide
        exact k L (hs ++ qs) qs.length st _ ⟨⟨M, upd_same, eL _ _ fM, npL.symm, ncL.symm, npM.symm, ncM.symm⟩, t4.1, by rw [List.length_append]; omega, by rw [List.length_append]; omega, Nat.le_trans sd ee, fun x hx => Nat.le_trans (sx x hx) ee⟩ (by rw [List.length_append]; omega) t4.2 t5 ⟨sd, sx⟩ (((hpB.ext eM).ext eL).mono (by omega)) (kpB.trans (Keep.ext (eM.trans eL)))
end
end K09
end
section
set_option Elab.async false
set_option autoImplicit false
set_option linter.all false
set_option maxRecDepth 100000
set_option maxHeartbeats 4000000
set_option pp.maxSteps 1500
namespace K09
open PySem PySem.Spec PyProof.Rows L2 Ls RowM
open C8 (pss_cut tCut)
open TL
theorem search_eq {f : Nat → Int} {S N s q : Nat} {e d : Int} (h : EQ f S N e) (h1 : 1 ≤ q) (hs : s ≤ S) (g : ∀ n, s ≤ n → n < S + N + N → f (n + q) = f n + d) : EQ f s q d := ⟨h1, fun n hn => by
  induction n using Nat.strongRecOn with
  | _ n ih =>
    by_cases hl : n < S + N + N
    · exact g n hn hl
    · have p1 := h.pos
      have a1 := ih (n - N) (by omega) (by omega)
      have a2 := h.per (n - N + q) (by omega)
      have a3 := h.per (n - N) (by omega)
      rw [show n - N + q + N = n + q by omega] at a2
      rw [show n - N + N = n by omega] at a3
      omega⟩
theorem ToldAt.ext {H H' : Hp} {L : Addr} {xs : List Int} {p : Nat} {d : Int} (h : ToldAt H L xs p d) (e : Ext H H') : ToldAt H' L xs p d := by
  obtain ⟨⟨M, a1, a2⟩, r⟩ := h
  exact ⟨⟨M, e _ _ a1, e _ _ a2⟩, r⟩
section
variable {P : Program} {w : World} {K : PySem.W.Frag} {mg : Str → Option Value} {base : Heap} {CE CN CT CB CR : Addr} {tM tP tF : Tok}
def spLeastL : Sp := fun vs H Q _ => ∃ (L : Addr) (xs : List Int) (p : Nat) (d : Int), vs = [.ref L] ∧ ToldAt H L xs p d ∧ ∀ (s q : Nat) (e : Int) (t : Addr) (H' : Hp), Can (ext xs p d) s q e → Ext H H' → H' t = some (.tup [.int s, .int q, .int e]) → Q (.ref t) H'
abbrev s__law_least : Stmt := top 38
abbrev N__law_least : List Str := ["_law_told_here", "_law_some", "_law_span", "_law_pace_so", "_law_most", "_law_low_so", "_law_few", "_law_gain", "_law_n"]
theorem sc__law_least : FnScope N__law_least ["_law_told_here"] (defScope s__law_least) := ⟨rfl, rfl, rfl, by decide +kernel, rfl, by decide +kernel, by decide +kernel⟩
theorem ok_least {fa : Addr} {fd : FuncData} (F : Fun K "_law_least" "_law_least" s__law_least fa fd) (T : Tx K mg CE CN CT CB CR tM tP tF) (c__law_at : Cal P w K mg base CX0 1 "_law_at" spAt) : FnOk P w K mg base CX0 3 fa fd ["_law_told_here"] spLeastL := by
  refine F.ok sc__law_least (fun vs H Q E h => ?_) (fun cdv A outer s0 H vs Q E hr h => ?_)
  · obtain ⟨L, xs, p, d, rfl, _⟩ := h
    rfl
  · obtain ⟨L, xs, p, d, rfl, ht, k⟩ := h
    obtain ⟨⟨M, hL, hM⟩, h1, hp, hx, _⟩ := id ht
    obtain ⟨s, q, e, can⟩ := (ext_eq h1 hp (d := d)).can
    have l1 := can.low _ _ _ (ext_eq h1 hp)
    have l2 := can.few _ _ _ (ext_eq h1 hp)
    have q1 := can.eq.pos
    have lx : (xs.map V.int).length = xs.length := List.length_map _
    refine ⟨_, (pss_cons (ps_asg (pv 0) (pg_lst rfl (pgs_cons (pg_name (i := 1) sc__law_least.nd rfl (by first | exact Or.inl rfl | exact Or.inr rfl)) (pgs_cons (pg_name (i := 2) sc__law_least.nd rfl (by first | exact Or.inl rfl | exact Or.inr rfl)) (pgs_cons (pg_name (i := 3) sc__law_least.nd rfl (by first | exact Or.inl rfl | exact Or.inr rfl)) pgs_nil)))))
      (pss_cons (ps_set (i := 4) sc__law_least.nd rfl (by first | exact Or.inl rfl | exact Or.inr rfl) (pe_op op_add (pe_callB call_len_seq (by rfl) (T.bn _ (by decide +kernel)) (by decide +kernel) (pa_cons (pv 1) pa_nil)) (pv 2)))
      (pss_cons (ps_for PassesOwn.never rfl (pi_range1 rfl (T.bn _ (by decide +kernel)) (pa_cons (pe_op op_add (pe_op op_sub (pe_callB call_len_seq (by rfl) (T.bn _ (by decide +kernel)) (by decide +kernel) (pa_cons (pv 1) pa_nil)) (pv 2)) pe_int) pa_nil)) (pg_name (i := 5) sc__law_least.nd rfl (by first | exact Or.inl rfl | exact Or.inr rfl))
      (pss_one (ps_for PassesOwn.never rfl (pi_range2 rfl (T.bn _ (by decide +kernel)) (pa_cons pe_int (pa_cons (pe_op op_add (pv 2) pe_int) pa_nil))) (pg_name (i := 6) sc__law_least.nd rfl (by first | exact Or.inl rfl | exact Or.inr rfl))
      (pss_cons (ps_set (i := 7) sc__law_least.nd rfl (by first | exact Or.inl rfl | exact Or.inr rfl) (pe_op op_sub (pe_cal c__law_at (hr.mono (by decide)) (by rfl) pass0 (pa_cons (pv 0) (pa_cons (pe_op op_add (pv 5) (pv 6)) pa_nil))) (pe_cal c__law_at (hr.mono (by decide)) (by rfl) pass0 (pa_cons (pv 0) (pa_cons (pv 5) pa_nil)))))
      (pss_one (ps_if (pt_cmpR (op_eqNil hr) (pe_lc (own := [("_law_n", 8)]) rfl sc__law_least.nd (pi_range2 rfl (T.bn _ (by decide +kernel)) (pa_cons (pv 5) (pa_cons (pv 4) pa_nil))) (blkOk_by (own := [("_law_n", 8)]) (N := N__law_least) (sc := defScope s__law_least) (by decide +kernel)) (fun _ _ _ _ _ => (pg_name (i := 8) sc__law_least.nd rfl (by first | exact Or.inl rfl | exact Or.inr rfl))) (fun _ _ _ _ _ => pts_one (pt_cmpR op_ne (pe_op op_sub (pe_cal c__law_at (hr.mono (by decide)) (by rfl) pass0 (pa_cons (pv 0) (pa_cons (pe_op op_add (pv 8) (pv 6)) pa_nil))) (pe_cal c__law_at (hr.mono (by decide)) (by rfl) pass0 (pa_cons (pv 0) (pa_cons (pv 8) pa_nil)))) (pv 7) (nomark _))) (fun _ _ _ _ _ => (pv 8))) (pe_lst pa_nil) (nomark _)) (pss_one (ps_ret (pe_tup (pa_cons (pv 5) (pa_cons (pv 6) (pa_cons (pv 7) pa_nil)))))) pss_nil))))))
      (pss_one (ps_ret pe_non))))), ?_⟩
    refine ⟨_, rfl, L, _, rfl, SqL.of hL, rfl, _, _, rfl, _, _, rfl, _, _, rfl, rfl, ?_⟩
    refine ⟨_, rfl, M, _, rfl, .inl (SqL.of hM), _, rfl, _, _, rfl, rfl, ?_⟩
    rw [lx]
    refine ⟨_, rfl, M, _, rfl, .inl (SqL.of hM), _, rfl, _, _, rfl, rfl, ?_⟩
    refine ⟨_, _, rfl, rfl, _, rfl, by omega, by omega, ?_⟩
    rw [lx, show ((xs.length : Int) - p + 1).toNat = xs.length - p + 1 by omega]
    have hb : (2 : Nat) ^ 20 < 2 ^ 850 := by decide
    refine for_range (n := xs.length - p + 1) (fun i σ H' => ∃ x5 x6 x7, σ = [some (.ref L), some (.ref M), some (.int p), some (.int d), some (.int ((xs.length : Int) + p)), x5, x6, x7, none] ∧ Ext H H' ∧ i ≤ s) ⟨_, _, _, rfl, Ext.rfl', Nat.zero_le _⟩ ?_ ?_
    case refine_2 =>
      rintro σ H' ⟨x5, x6, x7, rfl, e1, hi⟩
      omega
    rintro i σ H1 hi ⟨x5, x6, x7, rfl, e1, is⟩
    have hi : i < xs.length - p + 1 := hi
    refine ⟨_, rfl, _, _, rfl, rfl, _, _, rfl, ⟨by omega, by omega, by omega, by omega⟩, ?_⟩
    rw [show ((p : Int) + 1 - 1).toNat = p by omega]
    refine for_range (n := p) (fun j σ H' => ∃ x6 x7, σ = [some (.ref L), some (.ref M), some (.int p), some (.int d), some (.int ((xs.length : Int) + p)), some (.int ((0 : Int) + i)), x6, x7, none] ∧ Ext H H' ∧ (i < s ∨ j < q)) ⟨_, _, rfl, e1, .inr q1⟩ ?_ ?_
    case refine_2 =>
      rintro σ H' ⟨x6, x7, rfl, e2, hj⟩
      exact ⟨_, _, _, rfl, e2, by omega⟩
    rintro j σ H2 hj ⟨x6, x7, rfl, e2, hij⟩
    have hj : j < p := hj
    have tk2 := ht.ext e2
    have b850 : ∀ n, n < 10000 → n < 2 ^ 850 := fun n hn => Nat.lt_of_lt_of_le hn (by decide)
    refine ⟨_, rfl, _, rfl, _, rfl, _, _, rfl, rfl, L, xs, p, d, 0 + i + (1 + j), rfl, tk2, b850 _ (by omega), _, rfl, _, rfl, L, xs, p, d, 0 + i, rfl, tk2, b850 _ (by omega), _, _, rfl, rfl, ?_⟩
    refine ⟨_, rfl, _, rfl, _, _, rfl, ⟨by omega, by omega, by omega, by omega⟩, fun D hD => ?_⟩
    rw [show ((xs.length : Int) + p - (0 + i)).toNat = xs.length + p - i by omega]
    obtain ⟨g, hg⟩ : ∃ g, ext xs p d (0 + i + (1 + j)) - ext xs p d (0 + i) = g := ⟨_, rfl⟩
    refine lc_it walk_range (fun a Hx => ∃ acc : List V, Hx = upd H2 D (.lst acc) ∧ acc.length ≤ a ∧ (acc.isEmpty = true ↔ ∀ b, b < a → ext xs p d (0 + i + b + (1 + j)) - ext xs p d (0 + i + b) = g)) ⟨[], rfl, Nat.le_refl _, ⟨fun _ b hb => absurd hb (by omega), fun _ => rfl⟩⟩ (fun _ _ _ _ => trivial) ?_ ?_
    · rintro a x Hx H' ha ⟨acc, rfl, c1, c2⟩ ⟨rfl, rfl⟩
      have ha : a < xs.length + p - i := ha
      have tkD := tk2.ext (Ext.upd (o := .lst acc) hD)
      refine ⟨rfl, _, rfl, _, rfl, _, rfl, _, _, rfl, rfl, L, xs, p, d, 0 + i + a + (1 + j), rfl, tkD, b850 _ (by omega), _, rfl, _, rfl, L, xs, p, d, 0 + i + a, rfl, tkD, b850 _ (by omega), _, _, rfl, rfl, _, rfl, rfl, _, rfl, ?_⟩
      by_cases he : ext xs p d (0 + i + a + (1 + j)) - ext xs p d (0 + i + a) = g
      · refine iteNo (by show (!decide (V.int (_ - _) = V.int (_ - _))) = false; rw [decide_eq_true (congrArg V.int (he.trans hg.symm))]; rfl) ⟨acc, rfl, by omega, c2.trans ⟨fun h b hb => ?_, fun h b hb => h b (by omega)⟩⟩
        by_cases hba : b = a
        · rw [hba]; exact he
        · exact h b (by omega)
      · refine iteYes (by show (!decide (V.int (_ - _) = V.int (_ - _))) = true; rw [decide_eq_false (fun z => he ((V.int.inj z).trans hg))]; rfl) ⟨_, rfl, acc, upd_same, by show acc.length < 16777216; omega, acc ++ [.int ((0 : Int) + i + a)], ?_, by rw [List.length_append]; show acc.length + 1 ≤ a + 1; omega, ?_⟩
        · rw [upd_upd]
        · refine ⟨fun h => ?_, fun h => absurd (h a (by omega)) he⟩
          cases acc <;> cases h
    rintro H3 ⟨acc, rfl, c1, c2⟩
    refine ⟨(by show 0 ≤ sizeLine; decide), fun u nu => ?_⟩
    have e3 := e2.trans (Ext.upd (o := .lst acc) hD)
    have e4 := e3.trans (Ext.upd (o := .lst []) nu)
    have nuD : D ≠ u := ne_of_none (upd_same (H := H2) (o := .lst acc)) nu
    refine ⟨D, u, acc, rfl, rfl, by rw [upd_ne nuD]; exact upd_same, upd_same, _, rfl, ?_⟩
    by_cases hE : acc.isEmpty = true
    · have all := c2.mp hE
      have eqn : EQ (ext xs p d) (0 + i) (1 + j) g := search_eq (ext_eq h1 hp) (by omega) (by omega) fun n hn hn2 => by
        have := all (n - (0 + i)) (by omega)
        rw [show 0 + i + (n - (0 + i)) = n by omega] at this
        omega
      have m1 := can.low _ _ _ eqn
      have m2 := can.few _ _ _ eqn
      have ei : 0 + i = s := by omega
      have ej : 1 + j = q := by omega
      rw [ei, ej] at eqn
      have eg := can.eq.same eqn
      refine iteYes hE ⟨_, rfl, _, rfl, _, rfl, (by show 3 ≤ sizeLine; decide), fun t nt => ?_⟩
      refine k s q e t _ can (e4.trans (Ext.upd nt)) ?_
      rw [upd_same]
      show some (HO.tup [V.int ((0 : Int) + i), V.int ((1 : Int) + j), V.int (ext xs p d (0 + i + (1 + j)) - ext xs p d (0 + i))]) = _
      rw [hg, ← eg, show (0 : Int) + i = s by omega, show (1 : Int) + j = q by omega]
    · refine iteNo (by simpa using hE) ⟨_, _, rfl, e4, ?_⟩
      refine Classical.byContradiction fun no => hE (c2.mpr fun b hb => ?_)
      have ei : i = s := by omega
      have ej : 1 + j = q := by omega
      have x1 := can.eq.per (0 + i + b) (by omega)
      have x2 := can.eq.per (0 + i) (by omega)
      rw [ej] at hg ⊢
      omega
end
end K09
end
section
set_option Elab.async false
set_option linter.all false
set_option maxRecDepth 100000
set_option maxHeartbeats 1000000
namespace Ls
open PySem
namespace Gw
def Rets (fs : List Frame) : Prop := ∀ F ∈ fs, ∃ k h g l c p kp, F = Frame.ret k h g l c p kp
theorem Rets.nil : Rets [] := fun _ h => by cases h
theorem Rets.cons {F : Frame} {fs : List Frame} (h : Rets (F :: fs)) : Rets fs := fun G hG => h G (List.mem_cons_of_mem _ hG)
theorem Rets.app {fs gs : List Frame} (h : Rets fs) (h' : Rets gs) : Rets (fs ++ gs) := fun F hF => (List.mem_append.mp hF).elim (h F) (h' F)
theorem Rets.split : ∀ {fs : List Frame}, Rets fs → splitAtGen fs = none
  | [], _ => rfl
  | F :: fs, h => by
    obtain ⟨k, hd, g, l, c, p, kp, rfl⟩ := h F (List.mem_cons_self ..)
    show (splitAtGen fs).map _ = none
    rw [Rets.split h.cons]
    rfl
def RetsE : End → Prop
  | .ret _ => True
  | .susp _ _ _ _ _ _ fs => Rets fs
def evil : GenState → GenState
  | .suspended _ l c p fs cl => .suspended (fun _ => .unsupported "asleep") l c p (fs.map fun F => .ret (fun _ => .unsupported "asleep") none false [] F.where_.1 F.where_.2 []) cl
  | x => x
theorem evil_seen (st : GenState) : (evil st).seen = st.seen := by
  cases st with
  | suspended k l c p fs cl =>
    show (GenStatus.suspended, some ((c, p) :: (fs.map _).map Frame.where_)) = (GenStatus.suspended, some ((c, p) :: fs.map Frame.where_))
    rw [List.map_map]
    rfl
  | _ => rfl
theorem evil_bare (st : GenState) : (evil st).bare = st.bare := by cases st <;> rfl
theorem no_run {M : Model} {Γ : Ctx} {p : Pos} {z : String} : ∀ {fs : List Frame} {s s' : Shared} {e : End}, ¬ Runs M Γ p (.unsupported z) fs s e s' := by
  have h0 : ∀ {Γ : Ctx} {s s' : Shared} {e : End}, ¬ Runs M Γ p (.unsupported z) [] s e s' := fun h => by cases h
  intro fs s s' e h
  cases fs with
  | nil => exact h0 h
  | cons F fs =>
    cases h with
    | segRet a b => exact h0 a
    | segGen a b => exact h0 a
    | segSuspOut a b => exact h0 b
    | segSuspGen a b c d => exact h0 b
structure Rl (E : Nat → Option GenState) (a b : Array GenState) : Prop where
  size : a.size = b.size
  here : ∀ i st, E i = some st → a[i]? = some (evil st) ∧ b[i]? = some st ∧ st.status = .suspended
  else_ : ∀ i, E i = none → a[i]? = b[i]? ∧ ∀ k l c p fs cl, a[i]? = some (.suspended k l c p fs cl) → Rets fs
variable {E : Nat → Option GenState} {a b : Array GenState}
theorem Rl.seen (r : Rl E a b) {g : Nat} {st : GenState} (h : a[g]? = some st) : ∃ st', b[g]? = some st' ∧ st'.seen = st.seen := by
  cases q : E g with
  | none => exact ⟨st, by rw [← (r.else_ g q).1]; exact h, rfl⟩
  | some x =>
    obtain ⟨h1, h2, _⟩ := r.here g x q
    rw [h] at h1
    cases h1
    exact ⟨x, h2, (evil_seen x).symm⟩
theorem Rl.push (r : Rl E a b) (c : Code) : Rl E (a.push (.fresh c)) (b.push (.fresh c)) := by
  refine ⟨by rw [Array.size_push, Array.size_push, r.size], fun i st h => ?_, fun i h => ?_⟩
  · obtain ⟨h1, h2, h3⟩ := r.here i st h
    obtain ⟨l1, _⟩ := Array.getElem?_eq_some_iff.mp h1
    obtain ⟨l2, _⟩ := Array.getElem?_eq_some_iff.mp h2
    rw [Array.getElem?_push, Array.getElem?_push, if_neg (by omega), if_neg (by omega)]
    exact ⟨h1, h2, h3⟩
  · obtain ⟨h1, h2⟩ := r.else_ i h
    rw [Array.getElem?_push, Array.getElem?_push, r.size]
    split
    · exact ⟨rfl, fun k l c p fs cl z => by cases z⟩
    · exact ⟨h1, h2⟩
theorem Rl.set (r : Rl E a b) {g : Nat} (hg : E g = none) {x : GenState} (hx : ∀ k l c p fs cl, x = .suspended k l c p fs cl → Rets fs) : Rl E (a.setIfInBounds g x) (b.setIfInBounds g x) := by
  refine ⟨by rw [Array.size_setIfInBounds, Array.size_setIfInBounds, r.size], fun i st h => ?_, fun i h => ?_⟩
  · have ne : g ≠ i := fun z => by rw [z, h] at hg; cases hg
    rw [Array.getElem?_setIfInBounds_ne ne, Array.getElem?_setIfInBounds_ne ne]
    exact r.here i st h
  · by_cases e : g = i
    · subst e
      rw [Array.getElem?_setIfInBounds_self, Array.getElem?_setIfInBounds_self, r.size]
      refine ⟨rfl, fun k l c p fs cl z => ?_⟩
      split at z
      · exact hx _ _ _ _ _ _ (Option.some.inj z)
      · cases z
    · rw [Array.getElem?_setIfInBounds_ne e, Array.getElem?_setIfInBounds_ne e]
      exact r.else_ i h
theorem Rl.of_at (r : Rl E a b) {g : Nat} {st : GenState} (h : a[g]? = some st) : (E g = none ∧ b[g]? = some st ∧ ∀ k l c p fs cl, st = .suspended k l c p fs cl → Rets fs) ∨ ∃ k l c p fs cl, st = evil (.suspended k l c p fs cl) := by
  cases q : E g with
  | none => exact .inl ⟨rfl, by rw [← (r.else_ g q).1]; exact h, fun k l c p fs cl z => (r.else_ g q).2 k l c p fs cl (by rw [h, z])⟩
  | some x =>
    obtain ⟨h1, _, h3⟩ := r.here g x q
    rw [h] at h1
    cases x with
    | suspended k l c p fs cl => exact .inr ⟨k, l, c, p, fs, cl, Option.some.inj h1⟩
    | _ => cases h3
theorem rets_of {e : End} (h : RetsE e) : ∀ k l c p fs cl, e.genState = .suspended k l c p fs cl → Rets fs := by
  intro k l c p fs cl z
  cases e with
  | ret r => cases z
  | susp v g l k c p fs => cases z; exact h
theorem runs_asleep {M : Model} {Γ : Ctx} {p : Pos} {t : Sem PySem.Fin} {fs : List Frame} {s s' : Shared} {e : End} (h : Runs M Γ p t fs s e s') (E : Nat → Option GenState) :
    ∀ G : Array GenState, Rets fs → Rl E s.gens G → ∃ G', Rl E s'.gens G' ∧ Runs M Γ p t fs { s with gens := G } e { s' with gens := G' } ∧ RetsE e := by
  induction h with
  | done => exact fun G _ r => ⟨G, r, .done, trivial⟩
  | raise => exact fun G _ r => ⟨G, r, .raise, trivial⟩
  | again hq _ ih => exact fun G hf r => let ⟨G', r', x, y⟩ := ih G hf r; ⟨G', r', .again hq x, y⟩
  | rule _ ih => exact fun G hf r => let ⟨G', r', x, y⟩ := ih G hf r; ⟨G', r', .rule x, y⟩
  | «at» _ ih => exact fun G hf r => let ⟨G', r', x, y⟩ := ih G hf r; ⟨G', r', .at x, y⟩
  | load ho _ ih => exact fun G hf r => let ⟨G', r', x, y⟩ := ih G hf r; ⟨G', r', .load ho x, y⟩
  | update ho _ ih => exact fun G hf r => let ⟨G', r', x, y⟩ := ih G hf r; ⟨G', r', .update ho x, y⟩
  | loadIfAlive _ ih => exact fun G hf r => let ⟨G', r', x, y⟩ := ih G hf r; ⟨G', r', .loadIfAlive x, y⟩
  | point _ ih => exact fun G hf r => let ⟨G', r', x, y⟩ := ih G hf r; ⟨G', r', .point x, y⟩
  | alloc _ ih => exact fun G hf r => let ⟨G', r', x, y⟩ := ih G hf r; ⟨G', r', .alloc x, y⟩
  | fresh _ ih => exact fun G hf r => let ⟨G', r', x, y⟩ := ih G hf r; ⟨G', r', .fresh x, y⟩
  | ask _ ih => exact fun G hf r => let ⟨G', r', x, y⟩ := ih G hf r; ⟨G', r', .ask x, y⟩
  | choose hn _ ih => exact fun G hf r => let ⟨G', r', x, y⟩ := ih G hf r; ⟨G', r', .choose hn x, y⟩
  | os _ ih => exact fun G hf r => let ⟨G', r', x, y⟩ := ih G hf r; ⟨G', r', .os x, y⟩
  | handled _ ih => exact fun G hf r => let ⟨G', r', x, y⟩ := ih G hf r; ⟨G', r', .handled x, y⟩
  | genState hg _ ih =>
    intro G hf r
    obtain ⟨st', h1, h2⟩ := r.seen hg
    obtain ⟨G', r', x, y⟩ := ih G hf r
    exact ⟨G', r', .genState h1 (by rw [h2]; exact x), y⟩
  | stack _ ih => exact fun G hf r => let ⟨G', r', x, y⟩ := ih G hf r; ⟨G', r', .stack x, y⟩
  | thread _ ih => exact fun G hf r => let ⟨G', r', x, y⟩ := ih G hf r; ⟨G', r', .thread x, y⟩
  | newGen _ ih =>
    intro G hf r
    obtain ⟨G', r', x, y⟩ := ih _ hf (r.push _)
    refine ⟨G', r', .newGen ?_, y⟩
    rw [r.size] at x
    exact x
  | call _ _ ih1 ih2 =>
    intro G hf r
    obtain ⟨G1, r1, x1, _⟩ := ih1 G .nil r
    obtain ⟨G2, r2, x2, y⟩ := ih2 G1 hf r1
    exact ⟨G2, r2, .call x1 x2, y⟩
  | callSusp _ ih =>
    intro G hf r
    obtain ⟨G1, r1, x1, y⟩ := ih G .nil r
    refine ⟨G1, r1, .callSusp x1, Rets.app y fun F hF => ?_⟩
    rw [List.mem_singleton.mp hF]
    exact ⟨_, _, _, _, _, _, _, rfl⟩
  | yield => exact fun G hf r => ⟨G, r, .yield, .nil⟩
  | resumeFresh hg _ hq _ ih1 ih2 =>
    intro G hf r
    rcases r.of_at hg with ⟨q, h1, h2⟩ | ⟨_, _, _, _, _, _, z⟩
    rotate_left
    · cases z
    obtain ⟨G1, r1, x1, y1⟩ := ih1 _ .nil (r.set q fun _ _ _ _ _ _ z => by cases z)
    obtain ⟨G2, r2, x2, y2⟩ := ih2 _ hf (r1.set q (rets_of y1))
    exact ⟨G2, r2, .resumeFresh h1 x1 hq x2, y2⟩
  | resumeSuspended hg hrun hq _ ih1 ih2 =>
    intro G hf r
    rcases r.of_at hg with ⟨q, h1, h2⟩ | ⟨_, _, _, _, _, _, z⟩
    rotate_left
    · cases z
      exact absurd hrun no_run
    obtain ⟨G1, r1, x1, y1⟩ := ih1 _ (h2 _ _ _ _ _ _ rfl) (r.set q fun _ _ _ _ _ _ z => by cases z)
    obtain ⟨G2, r2, x2, y2⟩ := ih2 _ hf (r1.set q (rets_of y1))
    exact ⟨G2, r2, .resumeSuspended h1 x1 hq x2, y2⟩
  | resumeJustStarted hg hv _ ih =>
    intro G hf r
    rcases r.of_at hg with ⟨q, h1, h2⟩ | ⟨_, _, _, _, _, _, z⟩
    rotate_left
    · cases z
    obtain ⟨G', r', x, y⟩ := ih G hf r
    exact ⟨G', r', .resumeJustStarted h1 hv x, y⟩
  | resumeThrowFresh hg _ ih =>
    intro G hf r
    rcases r.of_at hg with ⟨q, h1, h2⟩ | ⟨_, _, _, _, _, _, z⟩
    rotate_left
    · cases z
    obtain ⟨G', r', x, y⟩ := ih _ hf (r.set q fun _ _ _ _ _ _ z => by cases z)
    exact ⟨G', r', .resumeThrowFresh h1 x, y⟩
  | resumeRunning hg _ ih =>
    intro G hf r
    rcases r.of_at hg with ⟨q, h1, h2⟩ | ⟨_, _, _, _, _, _, z⟩
    rotate_left
    · cases z
    obtain ⟨G', r', x, y⟩ := ih G hf r
    exact ⟨G', r', .resumeRunning h1 x, y⟩
  | resumeFinished hg _ ih =>
    intro G hf r
    rcases r.of_at hg with ⟨q, h1, h2⟩ | ⟨_, _, _, _, _, _, z⟩
    rotate_left
    · cases z
    obtain ⟨G', r', x, y⟩ := ih G hf r
    exact ⟨G', r', .resumeFinished h1 x, y⟩
  | segRet _ _ ih1 ih2 =>
    intro G hf r
    obtain ⟨G1, r1, x1, _⟩ := ih1 G .nil r
    obtain ⟨G2, r2, x2, y⟩ := ih2 G1 hf.cons r1
    exact ⟨G2, r2, .segRet x1 x2, y⟩
  | segGen _ _ ih1 ih2 =>
    intro G hf r
    obtain ⟨_, _, _, _, _, _, _, z⟩ := hf _ (List.mem_cons_self ..)
    cases z
  | segSuspOut hs _ ih =>
    intro G hf r
    obtain ⟨G1, r1, x1, y⟩ := ih G .nil r
    exact ⟨G1, r1, .segSuspOut hs x1, Rets.app y hf⟩
  | segSuspGen hs _ _ _ ih1 ih2 =>
    intro G hf r
    rw [hf.split] at hs
    cases hs
theorem wp_asleep {α : Type} {M : Model} {Γ : Ctx} (t : Sem α) (E : Nat → Option GenState) : ∀ {Q : α → Pos → Shared → Prop} {X : Value → Pos → Shared → Prop} {p : Pos} {s : Shared} (G : Array GenState), Rl E s.gens G → Sem.wp M Γ t Q X p s →
    Sem.wp M Γ t (fun v p' s' => ∃ Ga, Rl E Ga s'.gens ∧ Q v p' { s' with gens := Ga }) (fun x p' s' => ∃ Ga, Rl E Ga s'.gens ∧ X x p' { s' with gens := Ga }) p { s with gens := G } := by
  induction t with
  | pure v => intro Q X p s G r h; exact ⟨_, r, h⟩
  | raise x => intro Q X p s G r h; exact ⟨_, r, h⟩
  | unsupported _ => intro Q X p s G r h; exact h
  | finish _ => intro Q X p s G r h; exact h
  | rule _ k ih => intro Q X p s G r h; exact ih () G r h
  | «at» p' k ih => intro Q X p s G r h; exact ih () G r h
  | load x _ k ih => intro Q X p s G r h; obtain ⟨o, ho, h⟩ := h; exact ⟨o, ho, ih o G r h⟩
  | update x _ f k ih => intro Q X p s G r h; exact ⟨h.1, ih () (s := { s with heap := s.heap.update x f }) G r h.2⟩
  | loadIfAlive x k ih => intro Q X p s G r h; exact ih _ G r h
  | point _ k ih => intro Q X p s G r h; exact ih () G r h
  | register _ _ => intro Q X p s G r h; exact h
  | alloc o k ih => intro Q X p s G r h; exact ih _ (s := { s with heap := s.heap.push o }) G r h
  | fresh k ih => intro Q X p s G r h; exact ih _ (s := { s with toks := s.toks + 1 }) G r h
  | ask k ih => intro Q X p s G r h; exact ih _ G r h
  | choose src m k ih => intro Q X p s G r h; exact ⟨h.1, ih _ (s := { s with drawn := s.drawn.bump src }) G r h.2⟩
  | os q _ k ih => intro Q X p s G r h; exact ih _ (s := { s with os := (Os.step s.os q).1 }) G r h
  | call c hd _ _ k ih =>
    intro Q X p s G r h
    obtain ⟨x, s', hr, h⟩ := h
    obtain ⟨G', r', z, _⟩ := runs_asleep hr E G .nil r
    exact ⟨x, _, z, ih x (s := s') G' r' h⟩
  | handled own k ih => intro Q X p s G r h; exact ih _ G r h
  | genState g k ih =>
    intro Q X p s G r h
    obtain ⟨st, hs, h⟩ := h
    obtain ⟨st', h1, h2⟩ := r.seen hs
    exact ⟨st', h1, by rw [h2]; exact ih _ G r h⟩
  | newGen c k ih =>
    intro Q X p s G r h
    have z := ih _ (s := { s with gens := s.gens.push (.fresh c) }) _ (r.push c) h
    show Sem.wp M Γ (k G.size) _ _ p _
    rw [← r.size]
    exact z
  | resume g rs _ k ih =>
    intro Q X p s G r h
    obtain ⟨res, s', hw, h⟩ := h
    have hw : ∃ G', Rl E s'.gens G' ∧ Wakes M Γ p g rs { s with gens := G } res { s' with gens := G' } := by
      unfold Wakes at hw ⊢
      cases q : E g with
      | some st =>
        obtain ⟨h1, h2, h3⟩ := r.here g st q
        rw [h1] at hw
        cases st with
        | suspended k l c p fs cl =>
          obtain ⟨_, _, hr, _⟩ := hw
          exact absurd hr no_run
        | _ => cases h3
      | none =>
        obtain ⟨h1, h2⟩ := r.else_ g q
        show ∃ G', Rl E s'.gens G' ∧ (match G[g]? with | none => _ | some (.fresh c) => _ | some (.suspended k₀ _ c₀ p₀ fs _) => _ | some .running => _ | some .finished => _)
        rw [← h1]
        cases z : s.gens[g]? with
        | none => rw [z] at hw; exact hw.elim
        | some st =>
          rw [z] at hw
          cases st with
          | fresh c =>
            cases rs with
            | send v =>
              cases v with
              | none =>
                obtain ⟨e₁, s₁, hr, hq, er, es⟩ := hw
                obtain ⟨G1, r1, x1, y1⟩ := runs_asleep hr E _ .nil (r.set q fun _ _ _ _ _ _ z => by cases z)
                subst es
                exact ⟨_, r1.set q (rets_of y1), e₁, _, x1, hq, er, rfl⟩
              | _ =>
                obtain ⟨er, es⟩ := hw
                subst es
                exact ⟨G, r, er, rfl⟩
            | throw v =>
              obtain ⟨er, es⟩ := hw
              subst es
              have r' := r.set (x := GenState.finished) q (fun _ _ _ _ _ _ z => by cases z)
              exact ⟨_, r', er, rfl⟩
          | suspended k l c p fs cl =>
            obtain ⟨e₁, s₁, hr, hq, er, es⟩ := hw
            obtain ⟨G1, r1, x1, y1⟩ := runs_asleep hr E _ (h2 _ _ _ _ _ _ z) (r.set q fun _ _ _ _ _ _ z => by cases z)
            subst es
            exact ⟨_, r1.set q (rets_of y1), e₁, _, x1, hq, er, rfl⟩
          | running =>
            obtain ⟨er, es⟩ := hw
            subst es
            exact ⟨G, r, er, rfl⟩
          | finished =>
            obtain ⟨er, es⟩ := hw
            subst es
            exact ⟨G, r, er, rfl⟩
    obtain ⟨G', r', hw⟩ := hw
    exact ⟨res, _, hw, ih res (s := s') G' r' h⟩
  | yield _ _ _ _ => intro Q X p s G r h; exact h
  | stack k ih => intro Q X p s G r h; exact ih _ G r h
  | fork _ _ => intro Q X p s G r h; exact h
  | thread k ih => intro Q X p s G r h; exact ih _ G r h
  | await _ _ _ _ _ => intro Q X p s G r h; exact h
def sleepers (G : Array GenState) : Nat → Option GenState := fun i => match G[i]? with
  | some (.suspended k l c p fs cl) => some (.suspended k l c p fs cl)
  | _ => none
theorem rl_sleepers (G : Array GenState) : Rl (sleepers G) (G.map evil) G := by
  refine ⟨Array.size_map, fun i st h => ?_, fun i h => ?_⟩
  · unfold sleepers at h
    split at h
    · rename_i k l c p fs cl q
      cases h
      exact ⟨by rw [Array.getElem?_map, q]; rfl, q, rfl⟩
    · cases h
  · have : ∀ x, G[i]? = some x → x.status ≠ .suspended := fun x q z => by
      unfold sleepers at h
      rw [q] at h
      cases x with
      | suspended k l c p fs cl =>
        have h' : some (GenState.suspended k l c p fs cl) = none := h
        cases h'
      | _ => cases z
    rw [Array.getElem?_map]
    cases q : G[i]? with
    | none => exact ⟨rfl, fun _ _ _ _ _ _ z => by cases z⟩
    | some x =>
      have nx := this x q
      cases x with
      | suspended k l c p fs cl => exact absurd rfl nx
      | _ => exact ⟨rfl, fun _ _ _ _ _ _ z => by cases z⟩
theorem wpAny_asleep {α : Type} {M : Model} {A : Around} {t : Sem α} {Q : α → Shared → Prop} {X : Value → Shared → Prop} {s : Shared} (h : wpAny M A t Q X { s with gens := s.gens.map evil }) :
    wpAny M A t (fun v s' => ∃ Ga, Rl (sleepers s.gens) Ga s'.gens ∧ Q v { s' with gens := Ga }) (fun x s' => ∃ Ga, Rl (sleepers s.gens) Ga s'.gens ∧ X x { s' with gens := Ga }) s :=
  fun Γ p hΓ => wp_asleep t (sleepers s.gens) (s := { s with gens := s.gens.map evil }) s.gens (rl_sleepers _) (h Γ p hΓ)
theorem Rl.stay {G a b : Array GenState} (r : Rl (sleepers G) a b) {g : Nat} {k : Resume → Sem PySem.Fin} {l : List Value} {c : Code} {p : Pos} {fs : List Frame} {cl : Bool} (h : G[g]? = some (.suspended k l c p fs cl)) : b[g]? = some (.suspended k l c p fs cl) :=
  (r.here g _ (by unfold sleepers; rw [h])).2.1
theorem Rl.bare {E : Nat → Option GenState} {a b : Array GenState} (r : Rl E a b) (h : ∀ x ∈ a, x.bare = true) : ∀ x ∈ b, x.bare = true := fun x hx => by
  obtain ⟨i, hi, e⟩ := Array.mem_iff_getElem.mp hx
  have hb : b[i]? = some x := by rw [Array.getElem?_eq_getElem hi, e]
  cases q : E i with
  | none => exact h x (Array.mem_of_getElem? (by rw [(r.else_ i q).1]; exact hb))
  | some st =>
    obtain ⟨h1, h2, _⟩ := r.here i st q
    rw [hb] at h2
    cases h2
    rw [← evil_bare]
    exact h _ (Array.mem_of_getElem? h1)
theorem map_evil_bare {G : Array GenState} (h : ∀ x ∈ G, x.bare = true) : ∀ x ∈ G.map evil, x.bare = true := fun x hx => by
  obtain ⟨y, hy, e⟩ := Array.mem_map.mp hx
  rw [← e, evil_bare]
  exact h y hy
end Gw
end Ls
end
section
set_option Elab.async false
set_option autoImplicit false
set_option linter.all false
set_option maxRecDepth 100000
set_option maxHeartbeats 4000000
namespace Ls
namespace Gw
open PySem PySem.Spec PyProof.Rows L2 GenW
def cutH (n : Nat) (h : Heap) : Heap := ⟨h.objs.extract 0 n, h.life⟩
theorem cut_size {n : Nat} {h : Heap} (hn : n ≤ h.objs.size) : (cutH n h).objs.size = n := by
  show (h.objs.extract 0 n).size = n
  rw [Array.size_extract]
  omega
theorem cut_at {n b : Nat} {h : Heap} : (cutH n h).objs[b]? = if b < n then h.objs[b]? else none := by
  show (h.objs.extract 0 n)[b]? = _
  rw [Array.getElem?_extract, Nat.zero_add]
  by_cases hb : b < n
  · rw [if_pos hb]
    split
    · rfl
    · exact (Array.getElem?_eq_none (by omega)).symm
  · rw [if_neg hb, if_neg (by omega)]
theorem cut_get {n : Nat} {h : Heap} {b : Addr} {o : Obj} : (cutH n h).get? b = some o ↔ b < n ∧ h.get? b = some o := by
  unfold Heap.get?
  rw [cut_at]
  by_cases hb : b < n
  · rw [if_pos hb]
    exact ⟨fun x => ⟨hb, x⟩, fun x => x.2⟩
  · rw [if_neg hb]
    exact ⟨fun x => (by cases x), fun x => absurd x.1 hb⟩
theorem cut_frames {n : Nat} {h h' base : Heap} : ∀ {l : List Env}, (cutH n h).FunFrames base l → h'.FunFrames base l → (cutH n h').FunFrames base l
  | [], _, _ => trivial
  | env :: l, a, b => by
    obtain ⟨a1, ⟨L, o, a2, a3, a4, a5⟩, a6⟩ := a
    obtain ⟨b1, ⟨L', o', b2, b3, b4, b5⟩, b6⟩ := b
    rw [a2] at b2
    cases b2
    exact ⟨a1, ⟨L, o', a2, a3, cut_get.mpr ⟨(cut_get.mp a4).1, b4⟩, b5⟩, cut_frames a6 b6⟩
def Sg (M : Model) (A : Around) (c : Code) (t : Sem PySem.Fin) (fs : List Frame) (s : Shared) (F : End → Shared → Prop) : Prop :=
  ∀ (Γ : PySem.Ctx) (p : Pos), Γ.code = c → Γ.Woken A → ∃ e z, Runs M Γ p t fs s e z ∧ F e z
section
variable {M : Model} {A : Around} {c : Code} {fs : List Frame} {s : Shared} {F : End → Shared → Prop}
theorem sg_wrap {α : Type} {m : Sem α} {K : α → Sem PySem.Fin} {J : Value → Sem PySem.Fin} {gd : Bool → Bool} {lv : List Value → List Value}
    (h : wpAny M (A.over c fs) m (fun a z => Sg M A c (K a) fs z F) (fun x z => Sg M A c (J x) fs z F) s) : Sg M A c (m.wrap K J gd lv) fs s F := by
  intro Γ p hc hw
  subst hc
  exact runs_wrap_of_wp K J gd lv m (h (Γ.over fs) p (hw.over fs)) (fun a q z y => y Γ q rfl hw) fun x q z y => y Γ q rfl hw
theorem sg_bw {α β : Type} {m : Sem α} {f : α → Sem β} {K : β → Sem PySem.Fin} {J : Value → Sem PySem.Fin} {gd : Bool → Bool} {lv : List Value → List Value}
    (h : wpAny M (A.over c fs) m (fun a z => Sg M A c ((f a).wrap K J gd lv) fs z F) (fun x z => Sg M A c (J x) fs z F) s) : Sg M A c ((m >>= f).wrap K J gd lv) fs s F := by
  rw [Sem.bind_eq_wrap' m f, Sem.wrap_wrap m]
  exact sg_wrap h
theorem sg_at {q : Pos} {k : Unit → Sem PySem.Fin} (h : Sg M A c (k ()) fs s F) : Sg M A c (.at q k) fs s F := sg_wrap (m := standAt q) (K := k) (J := .raise) (gd := id) (lv := id) (wpAny_standAt h)
theorem sg_point {l : List Value} {k : Unit → Sem PySem.Fin} (h : Sg M A c (k ()) fs s F) : Sg M A c (.point l k) fs s F := sg_wrap (m := point) (K := k) (J := .raise) (gd := id) (lv := fun _ => l) (wpAny_point h)
theorem sg_call {d : Code} {hd : Option Value} {g : Bool} {l : List Value} {k : Result → Sem PySem.Fin} (h : ∀ p, Sg M A d (M.den d) (.ret k hd g l c p [] :: fs) s F) : Sg M A c (.call d hd g l k) fs s F := by
  intro Γ p hc hw
  subst hc
  obtain ⟨e, z, hr, he⟩ := h p (Γ.goto d) p rfl (hw.goto d)
  exact ⟨e, z, runs_call_seg hr, he⟩
theorem sg_leaf {k : Result → Sem PySem.Fin} {hd : Option Value} {g : Bool} {l kp : List Value} {d : Code} {q : Pos} (r : Result) (h : Sg M A d (k r) fs s F) : Sg M A c (leafOf r) (.ret k hd g l d q kp :: fs) s F := by
  intro Γ p hc hw
  subst hc
  obtain ⟨e, z, hr, he⟩ := h (Γ.goto d) q rfl (hw.goto d)
  exact ⟨e, z, Runs.pop r hr, he⟩
theorem sg_again {d : Code} (hq : d.quiet = true) (h : Sg M A d (M.den d) fs s F) : Sg M A c (.pure (.again d)) fs s F := by
  intro Γ p hc hw
  subst hc
  obtain ⟨e, z, hr, he⟩ := h (Γ.goto d) p rfl (hw.goto d)
  exact ⟨e, z, Runs.head (c₁ := d) (fun _ _ y => .again hq y) hr, he⟩
theorem sg_end (r : Result) (h : F (.ret r) s) : Sg M A c (leafOf r) [] s F := fun Γ p _ _ => ⟨.ret r, s, Runs.leaf r, h⟩
theorem sg_yield {v : Value} {g : Bool} {l : List Value} {k : Resume → Sem PySem.Fin} (hs : splitAtGen fs = none) (h : ∀ p, F (.susp v g l k c p fs) s) : Sg M A c (.yield v g l k) fs s F := by
  intro Γ p hc hw
  subst hc
  exact ⟨_, s, Runs.yield' fs hs, h p⟩
end
def Goes (M : Model) (A : Around) (gs : GenState) (s : Shared) (F : End → Shared → Prop) : Prop :=
  match gs with
  | .fresh c => Sg M A c (M.den c) [] s F
  | .suspended k _ c _ fs _ => Sg M A c (k (.send .none)) fs s F
  | _ => False
theorem wpAny_wake {M : Model} {A : Around} {g : Nat} {gs : GenState} {s : Shared} {F : End → Shared → Prop} {l : List Value} {α : Type} {k : GenResult → Sem α} {Q : α → Shared → Prop} {E : Value → Shared → Prop} (hg : s.gens[g]? = some gs) (h : Goes M A gs (s.setGen g .running) F)
    (hF : ∀ e z, F e z → e.quiet = true ∧ wpAny M A (k e.result) Q E (z.setGen g e.genState)) : wpAny M A (.resume g (.send .none) l k) Q E s := by
  intro Γ p hi
  rw [Sem.wp_resume]
  have hw : ∀ c, (Γ.wake c p).Woken A := fun c => hi.wake c p
  cases gs with
  | fresh c =>
    obtain ⟨e, z, hr, he⟩ := h (Γ.wake c p) p rfl (hw c)
    obtain ⟨h1, h2⟩ := hF e z he
    exact ⟨_, _, by unfold Wakes; rw [hg]; exact ⟨e, z, hr, h1, rfl, rfl⟩, h2 Γ p hi⟩
  | suspended k₀ l₀ c₀ p₀ fs₀ cl =>
    obtain ⟨e, z, hr, he⟩ := h (Γ.wake c₀ p) p₀ rfl (hw c₀)
    obtain ⟨h1, h2⟩ := hF e z he
    exact ⟨_, _, by unfold Wakes; rw [hg]; exact ⟨e, z, hr, h1, rfl, rfl⟩, h2 Γ p hi⟩
  | running => exact h.elim
  | finished => exact h.elim
def aw (X : Cx) (n : Nat) (s : Shared) (H : Hp) : Cx := { X with s_0 := { s with heap := cutH n s.heap }, H_0 := H }
def ownL (X : Cx) (s : Shared) : List (Addr × Obj) := pinsAt [X.env.locals] s.heap
structure Stands (priv : List (Addr × Obj)) (H : Hp) (h : Heap) : Prop where
  at_ : ∀ p ∈ priv, h.get? p.1 = some p.2
  free : ∀ p ∈ priv, H p.1 = none
structure Woke (X : Cx) (n : Nat) (priv gd : List (Addr × Obj)) (s : Shared) (H : Hp) : Prop where
  sz : n ≤ s.heap.objs.size
  st : Stands priv H s.heap
  bs : ∀ b o, X.base.get? b = some o → s.heap.get? b = some o ∧ H b = none
  fr : s.heap.FunFrames X.base X.outer
  ff : ∀ b ∈ X.fs, H b = none
  bare : AllBare s.gens
  hok : HOk X.prog X.w H s.heap
  ga : ∀ p ∈ gd, s.heap.get? p.1 = some p.2 ∧ H p.1 = none ∧ p.1 ∉ X.fs ∧ ∀ v, p.2.data ≠ .cell v
  dj : ∀ p ∈ gd, ∀ q ∈ priv, p.1 ≠ q.1
structure Fam (X : Cx) (n : Nat) : Prop where
  L : n ≤ X.env.locals
  cl : X.env.cells = []
  ex : X.ex = []
  bz : X.base.objs.size ≤ n
section
variable {X : Cx} {n : Nat}
theorem rewake (Fm : Fam X n) {sw s s' : Shared} {Hw H H' : Hp} {ip g0 gd : List (Addr × Obj)} {σ : L2.St} (I : Inv (aw X n sw Hw) (g0 ++ ip) σ H s) (W : Woke X n (X.pn ++ ip ++ ownL X s) gd s' H') : Inv (aw X n s' H') (gd ++ ip) σ H' s' := by
  obtain ⟨m, hn, hl⟩ := I.loc
  obtain ⟨oL, es, ep, eL, dL⟩ := id hn
  have mL : (X.env.locals, oL) ∈ X.pn ++ ip ++ ownL X s := List.mem_append_right _ (mem_pinsAt (List.mem_singleton.mpr rfl) eL)
  have eL' : s'.heap.get? X.env.locals = some oL := W.st.at_ _ mL
  have noc : ∀ x c, ¬ (X.env.cells.lookup x = some c) := fun x c z => by rw [Fm.cl] at z; cases z
  have nx : ∀ b, b ∉ X.ex := fun b z => by rw [Fm.ex] at z; cases z
  refine ⟨⟨I.ok.mod, I.ok.kind, I.ok.glob, I.ok.blt, ?_, I.ok.inj, I.ok.has, fun x c _ z => absurd z (noc x c), I.ok.hd, I.ok.frames, I.ok.stk, fun b hb => absurd hb (nx b), fun b o e => ?_, ?_, fun b _ _ => nx b, fun b hb => absurd hb (nx b), ?_, W.ff⟩,
    rfl, W.bare, Un.kept fun b o e => (cut_get.mp e).2, ⟨m, ⟨oL, es, ep, eL', dL⟩, fun i x v e1 e2 e3 => ?_⟩, fun x c z => absurd z (noc x c), W.st.free _ mL, fun x c z => absurd z (noc x c), fun p hp => ?_, W.hok, I.len⟩
  · show (cutH n s'.heap).objs.size ≤ X.env.locals
    rw [cut_size W.sz]
    exact Fm.L
  · obtain ⟨h1, h2⟩ := W.bs b o e
    exact ⟨cut_get.mpr ⟨Nat.lt_of_lt_of_le (Heap.lt_size e) Fm.bz, h1⟩, h2⟩
  · show X.base.objs.size ≤ (cutH n s'.heap).objs.size
    rw [cut_size W.sz]
    exact Fm.bz
  · exact cut_frames (h := sw.heap) I.ok.funs W.fr
  · obtain ⟨u, ru, lk⟩ := hl i x v e1 e2 e3
    refine ⟨u, ru, ?_⟩
    rcases lk with lk | ⟨_, c, z, _⟩
    · exact .inl lk
    · exact absurd z (noc x c)
  · have old : ∀ p ∈ X.pn ++ ip, s'.heap.get? p.1 = some p.2 ∧ H' p.1 = none ∧ p.1 ≠ X.env.locals ∧ p.1 ∉ X.fs ∧ ∀ v, p.2.data ≠ .cell v := fun p hp => by
      obtain ⟨_, _, h3, h4, h5⟩ := I.pin p ((List.mem_append.mp hp).elim (List.mem_append_left _) fun z => List.mem_append_right _ (List.mem_append_right _ z))
      exact ⟨W.st.at_ p (List.mem_append_left _ hp), W.st.free p (List.mem_append_left _ hp), h3, h4, h5⟩
    rcases List.mem_append.mp hp with hp | hp
    · exact old p (List.mem_append_left _ hp)
    · rcases List.mem_append.mp hp with hp | hp
      · obtain ⟨h1, h2, h4, h5⟩ := W.ga p hp
        exact ⟨h1, h2, W.dj p hp _ mL, h4, h5⟩
      · exact old p (List.mem_append_right _ hp)
end
def Rly (Mv : Addr → Prop) (H H' : Hp) : Prop := ∀ b o, H b = some o → ¬ Mv b → H' b = some o
theorem Rly.refl {Mv : Addr → Prop} {H : Hp} : Rly Mv H H := fun _ _ h _ => h
structure Wg where
  n : Nat
  Y : Nat → Hp → V → Hp → Prop
structure After (X : Cx) (n : Nat) (sw : Shared) (Hw : Hp) (s : Shared) (H : Hp) : Prop where
  os : s.os = sw.os
  bare : AllBare s.gens
  un : Un X.fs [] Hw H (cutH n sw.heap) s.heap
  hok : HOk X.prog X.w H s.heap
structure Own (n : Nat) (priv : List (Addr × Obj)) (H : Hp) (h : Heap) : Prop where
  st : Stands priv H h
  ge : ∀ p ∈ priv, n ≤ p.1
  nc : ∀ p ∈ priv, ∀ v, p.2.data ≠ .cell v
def Dj (gd ip : List (Addr × Obj)) : Prop := ∀ p ∈ gd, ∀ q ∈ ip, p.1 ≠ q.1
def Kept (gd : List (Addr × Obj)) (s : Shared) (H : Hp) : Prop := ∀ p ∈ gd, s.heap.get? p.1 = some p.2 ∧ H p.1 = none
def Fend (X : Cx) (n : Nat) (sw : Shared) (Hw : Hp) (gd : List (Addr × Obj)) (e : End) (s : Shared) : Prop :=
  match e with
  | .ret r => (r = .ok (.ret .none) ∨ r = .ok .next) ∧ (∃ H, After X n sw Hw s H ∧ Ext Hw H ∧ Kept gd s H) ∧ ∀ p ∈ X.pn, s.heap.get? p.1 = some p.2
  | .susp .. => False
def Fyld (X : Cx) (n : Nat) (wg : Wg) (i : Nat) (next : GenState → List (Addr × Obj) → Hp → Prop) (sw : Shared) (Hw : Hp) (gd : List (Addr × Obj)) (e : End) (s : Shared) : Prop :=
  match e with
  | .ret _ => False
  | .susp v g l k c p fs => (End.susp v g l k c p fs).quiet = true ∧ ∃ x H priv, RelV x v ∧ wg.Y i Hw x H ∧ Ext Hw H ∧ After X n sw Hw s H ∧ Kept gd s H ∧ Dj gd priv ∧ Own n priv H s.heap ∧ (∀ q ∈ X.pn, q ∈ priv) ∧ next (End.susp v g l k c p fs).genState priv H
def Slp (X : Cx) (n : Nat) (A : Around) (wg : Wg) (Mv : Addr → Prop) : Nat → Nat → GenState → List (Addr × Obj) → Hp → Prop
  | 0 => fun i gs priv Hl => ∀ sw Hw gd, Woke X n priv gd sw Hw → Rly Mv Hl Hw → Goes (model X.prog X.w) A gs sw (Fend X n sw Hw gd)
  | m + 1 => fun i gs priv Hl => ∀ sw Hw gd, Woke X n priv gd sw Hw → Rly Mv Hl Hw → Goes (model X.prog X.w) A gs sw (Fyld X n wg i (Slp X n A wg Mv m (i + 1)) sw Hw gd)
def Fm (X : Cx) (n : Nat) (A : Around) (wg : Wg) (Mv : Addr → Prop) : Nat → Nat → Shared → Hp → List (Addr × Obj) → End → Shared → Prop
  | 0 => fun i sw Hw gd => Fend X n sw Hw gd
  | m + 1 => fun i sw Hw gd => Fyld X n wg i (Slp X n A wg Mv m (i + 1)) sw Hw gd
theorem slp_eq {X : Cx} {n : Nat} {A : Around} {wg : Wg} {Mv : Addr → Prop} {m i : Nat} {gs : GenState} {priv : List (Addr × Obj)} {Hl : Hp} :
    Slp X n A wg Mv m i gs priv Hl ↔ ∀ sw Hw gd, Woke X n priv gd sw Hw → Rly Mv Hl Hw → Goes (model X.prog X.w) A gs sw (Fm X n A wg Mv m i sw Hw gd) := by
  cases m <;> rfl
structure Ge where
  nx : Nat → Hp → L2.St → Hp → Prop
  rt : Nat → Hp → V → Hp → Prop
  bk : Nat → Hp → L2.St → Hp → Prop := fun _ _ _ _ => False
  ct : Nat → Hp → L2.St → Hp → Prop := fun _ _ _ _ => False
abbrev TGw := Ge → Nat → Hp → L2.St → Hp → Prop
def Ge.to (D : Ge) (i : Nat) (Hw : Hp) : Ends := { nx := D.nx i Hw, rt := D.rt i Hw, bk := D.bk i Hw, ct := D.ct i Hw }
structure Ew where
  X : Cx
  n : Nat
  A : Around
  wg : Wg
  Mv : Addr → Prop
structure Gc (G : Ew) (ip : List (Addr × Obj)) (c : Code) (fs : List Frame) (gd : Bool → Bool) : Prop where
  over : G.A.over c fs = G.X.A
  split : splitAtGen fs = none
  guard : fs.any Frame.guarded = false
  gd : gd false = false
  ge : ∀ p ∈ ip, G.n ≤ p.1
structure Gk (G : Ew) (ip : List (Addr × Obj)) (c : Code) (fs : List Frame) (K : Flow → Sem PySem.Fin) (D : Ge) : Prop where
  ok : ∀ (m i : Nat) (sw : Shared) (Hw : Hp) (gl : List (Addr × Obj)) (s : Shared) (f : Flow), i + m = G.wg.n → G.n ≤ sw.heap.objs.size → Dj gl (G.X.pn ++ ip) → SP (aw G.X G.n sw Hw) (gl ++ ip) (D.to i Hw) f s → Sg (model G.X.prog G.X.w) G.A c (K f) fs s (Fm G.X G.n G.A G.wg G.Mv m i sw Hw gl)
structure GW (G : Ew) (st : Stmt) (t : TGw) : Prop where
  run : ∀ (m i : Nat) (sw : Shared) (Hw : Hp) (ip : List (Addr × Obj)) (c : Code) (fs : List Frame) (K : Flow → Sem PySem.Fin) (J : Value → Sem PySem.Fin) (gd : Bool → Bool) (lv : List Value → List Value) (s : Shared) (σ : L2.St) (H : Hp) (D : Ge) (gl : List (Addr × Obj)),
    Gc G ip c fs gd → Gk G ip c fs K D → i + m = G.wg.n → G.n ≤ sw.heap.objs.size → Dj gl (G.X.pn ++ ip) → Inv (aw G.X G.n sw Hw) (gl ++ ip) σ H s → t D i Hw σ H →
    Sg (model G.X.prog G.X.w) G.A c ((exec st G.X.env).wrap K J gd lv) fs s (Fm G.X G.n G.A G.wg G.Mv m i sw Hw gl)
structure GWs (G : Ew) (st : List Stmt) (t : TGw) : Prop where
  run : ∀ (m i : Nat) (sw : Shared) (Hw : Hp) (ip : List (Addr × Obj)) (c : Code) (fs : List Frame) (K : Flow → Sem PySem.Fin) (J : Value → Sem PySem.Fin) (gd : Bool → Bool) (lv : List Value → List Value) (s : Shared) (σ : L2.St) (H : Hp) (D : Ge) (gl : List (Addr × Obj)),
    Gc G ip c fs gd → Gk G ip c fs K D → i + m = G.wg.n → G.n ≤ sw.heap.objs.size → Dj gl (G.X.pn ++ ip) → Inv (aw G.X G.n sw Hw) (gl ++ ip) σ H s → t D i Hw σ H →
    Sg (model G.X.prog G.X.w) G.A c ((execs st G.X.env).wrap K J gd lv) fs s (Fm G.X G.n G.A G.wg G.Mv m i sw Hw gl)
structure Calm (G : Ew) : Prop where
  xe : ∀ v s, ¬ G.X.xe v s
  calm : G.X.calm = true
  fam : Fam G.X G.n
  pn : ∀ p ∈ G.X.pn, G.n ≤ p.1
section
variable {G : Ew} {st : Stmt} {rest : List Stmt}
def tPlainW (t : TS) : TGw := fun D i Hw σ H => t (D.to i Hw) σ H
theorem gw_ps (C : Calm G) {t : TS} (h : ∀ sw Hw, PS (aw G.X G.n sw Hw) st t) : GW G st (tPlainW t) := by
  refine ⟨fun m i sw Hw ip c fs K J gd lv s σ H D gl g k hm hz dj I ht => sg_wrap ?_⟩
  rw [g.over]
  exact wpAny_mono ((h sw Hw).run (gl ++ ip) s σ H (D.to i Hw) I ht) (fun f z hs => k.ok m i sw Hw gl z f hm hz dj hs) fun x z hx => absurd hx (C.xe x z)
def tNilW : TGw := fun D i Hw σ H => D.nx i Hw σ H
theorem gws_nil : GWs G [] tNilW := ⟨fun m i sw Hw ip c fs K J gd lv s σ H D gl g k hm hz dj I ht => k.ok m i sw Hw gl s .next hm hz dj ⟨σ, H, I, ht⟩⟩
def tThenW (t u : TGw) : TGw := fun D i Hw σ H => t { D with nx := fun i' Hw' σ' H' => u D i' Hw' σ' H' } i Hw σ H
theorem gws_cons {t u : TGw} (a : GW G st t) (b : GWs G rest u) : GWs G (st :: rest) (tThenW t u) := by
  refine ⟨fun m i sw Hw ip c fs K J gd lv s σ H D gl g k hm hz dj I ht => ?_⟩
  rw [execs_cons_wrap]
  refine a.run m i sw Hw ip c fs _ J gd lv s σ H _ gl g ⟨fun m' i' sw' Hw' gl' z f hm' hz' dj' hs => ?_⟩ hm hz dj I ht
  cases f with
  | next =>
    obtain ⟨σ', H', I', q⟩ := hs
    exact b.run m' i' sw' Hw' ip c fs K J gd lv z σ' H' D gl' g k hm' hz' dj' I' q
  | brk => exact k.ok m' i' sw' Hw' gl' z .brk hm' hz' dj' hs
  | cont => exact k.ok m' i' sw' Hw' gl' z .cont hm' hz' dj' hs
  | ret u => exact k.ok m' i' sw' Hw' gl' z (.ret u) hm' hz' dj' hs
theorem gws_one {t : TGw} (a : GW G st t) : GWs G [st] (tThenW t tNilW) := gws_cons a gws_nil
def tYieldW (G : Ew) (te : TE) : TGw := fun D i Hw σ H => te σ H fun x H1 => i < G.wg.n ∧ Ext Hw H1 ∧ G.wg.Y i Hw x H1 ∧ ∀ H2, Rly G.Mv H1 H2 → D.nx (i + 1) H2 σ H2
theorem gw_yield (C : Calm G) {e : Expr} {yp pos : Pos} {te : TE} (he : ∀ sw Hw, PE (aw G.X G.n sw Hw) e te) (hco : G.X.env.scope.isCoroutine = false := by rfl) (hi : interactive G.X.env = false := by rfl) : GW G (.Expr (.Yield (some e) yp) pos) (tYieldW G te) := by
  refine ⟨fun m i sw Hw ip c fs K J gd lv s σ H D gl g k hm hz dj I ht => ?_⟩
  rw [exec_Expr G.X.env _ pos hi rfl]
  show Sg _ _ c (.at pos fun _ => ((eval e G.X.env >>= fun v => (standAt yp >>= fun _ => yieldOut G.X.env v)) >>= fun x => dropValue (.Yield (some e) yp) pos x).wrap K J gd lv) fs s _
  have hy : ∀ v, yieldOut G.X.env v = yieldValue v := fun v => by simp only [yieldOut, hco, Bool.false_eq_true, if_false]
  simp only [hy]
  refine sg_at ?_
  rw [Sem.bind_eq_wrap', Sem.bind_eq_wrap', Sem.wrap_wrap, Sem.wrap_wrap]
  refine sg_wrap ?_
  rw [g.over]
  refine wpAny_mono ((he sw Hw).run (gl ++ ip) s σ H _ I ht) (fun v z hq => ?_) fun x z hx => absurd hx (C.xe x z)
  obtain ⟨x, H1, I1, rv, hin, hE, hY, nx⟩ := hq
  obtain ⟨m, rfl⟩ : ∃ m', m = m' + 1 := ⟨m - 1, by omega⟩
  refine sg_at (sg_yield g.split fun p => ?_)
  obtain ⟨mm, ⟨oL, es, ep, eL, dL, _⟩, _⟩ := id I1.loc
  replace eL : z.heap.get? G.X.env.locals = some oL := eL
  have ownAt : ∀ p ∈ ownL G.X z, p = (G.X.env.locals, oL) := fun p hp => by
    obtain ⟨h1, h2⟩ := of_pinsAt hp
    have e1 : p.1 = G.X.env.locals := List.mem_singleton.mp h1
    rw [e1, eL] at h2
    obtain ⟨p1, p2⟩ := p
    cases e1
    cases h2
    rfl
  have inP : ∀ p ∈ G.X.pn ++ ip, p ∈ (aw G.X G.n sw Hw).pn ++ (gl ++ ip) := fun p hp => (List.mem_append.mp hp).elim (List.mem_append_left _) fun y => List.mem_append_right _ (List.mem_append_right _ y)
  refine ⟨by simp [End.quiet, g.gd, g.guard], x, H1, G.X.pn ++ ip ++ ownL G.X z, rv, hY, hE, ⟨I1.os, I1.bare, ?_, I1.hok⟩, fun p hp => ⟨(I1.pin p (List.mem_append_right _ (List.mem_append_left _ hp))).1, (I1.pin p (List.mem_append_right _ (List.mem_append_left _ hp))).2.1⟩, fun p hp q hq => ?_, ⟨⟨fun p hp => ?_, fun p hp => ?_⟩, fun p hp => ?_, fun p hp => ?_⟩, fun q hq => List.mem_append_left _ (List.mem_append_left _ hq), ?_⟩
  · have u := I1.base
    show Un G.X.fs [] Hw H1 (cutH G.n sw.heap) z.heap
    have : (aw G.X G.n sw Hw).ex = [] := C.fam.ex
    rw [this] at u
    exact u
  · rcases List.mem_append.mp hq with hq | hq
    · exact dj p hp q hq
    · rw [ownAt q hq]
      exact (I1.pin p (List.mem_append_right _ (List.mem_append_left _ hp))).2.2.1
  · rcases List.mem_append.mp hp with hp | hp
    · exact (I1.pin p (inP p hp)).1
    · rw [ownAt p hp]; exact eL
  · rcases List.mem_append.mp hp with hp | hp
    · exact (I1.pin p (inP p hp)).2.1
    · rw [ownAt p hp]; exact I1.free
  · rcases List.mem_append.mp hp with hp | hp
    · rcases List.mem_append.mp hp with hp | hp
      · exact C.pn p hp
      · exact g.ge p hp
    · rw [ownAt p hp]; exact C.fam.L
  · rcases List.mem_append.mp hp with hp | hp
    · exact (I1.pin p (inP p hp)).2.2.2.2
    · rw [ownAt p hp]
      intro v q
      have q : oL.data = .cell v := q
      rw [dL] at q
      cases q
  · refine slp_eq.mpr fun sw' Hw' gl' W' hr => ?_
    have I2 := rewake C.fam I1 W'
    exact k.ok m (i + 1) sw' Hw' gl' sw' .next (by omega) W'.sz (fun p hp q hq => W'.dj p hp q (List.mem_append_left _ hq)) ⟨σ, Hw', I2, nx Hw' hr⟩
end
end Gw
end Ls
end
section
set_option Elab.async false
set_option autoImplicit false
set_option linter.all false
set_option maxRecDepth 100000
set_option maxHeartbeats 4000000
namespace Ls
namespace Gw
open PySem PySem.Spec PyProof.Rows L2 GenW
theorem gc_in {G : Ew} {ip : List (Addr × Obj)} {c d : Code} {fs : List Frame} {gd : Bool → Bool} {k : Result → Sem PySem.Fin} {l kp : List Value} {p : Pos} (g : Gc G ip c fs gd) (hw : d.weight = 0) (hu : d.cUnits = 0) : Gc G ip d (.ret k none (gd false) l c p kp :: fs) id where
  over := (over_loop hw hu).trans g.over
  split := by
    show (splitAtGen fs).map _ = none
    rw [g.split]
    rfl
  guard := by
    show (gd false || fs.any Frame.guarded) = false
    rw [g.gd, g.guard]
    rfl
  gd := rfl
  ge := g.ge
theorem Gc.pins {G : Ew} {ip ip' : List (Addr × Obj)} {c : Code} {fs : List Frame} {gd : Bool → Bool} (g : Gc G ip c fs gd) (h : ∀ p ∈ ip', G.n ≤ p.1) : Gc G ip' c fs gd := ⟨g.over, g.split, g.guard, g.gd, h⟩
def tForG (wi : TI) (g : TG) (tb : TGw) : TGw := fun D i Hw σ H => wi σ H fun J H1 => ∃ W : Nat → Nat → Nat → Hp → L2.St → Hp → Prop, (∃ m, W 0 m i Hw σ H1) ∧ ∀ j m i Hw σ H, W j m i Hw σ H →
  (J.stop j H ∧ D.nx i Hw σ H) ∨ (J.go j H ∧ ∃ N : Nat → Hp → L2.St → Hp → Prop, (∀ i' Hw' σ' H', N i' Hw' σ' H' → ∃ m', m' < m ∧ W (j + 1) m' i' Hw' σ' H') ∧ ∀ x H', J.yld j H x H' → g x σ H' fun σ2 H2 => tb { D with nx := N, ct := N, bk := D.nx } i Hw σ2 H2)
section
variable {G : Ew}
theorem gw_for (C : Calm G) {tg iter : PySem.Expr} {body : List Stmt} {pos : Pos} {wi : TI} {g : TG} {tb : TGw} (hi : ∀ sw Hw, PI (aw G.X G.n sw Hw) tg iter wi) (hg : ∀ sw Hw, PG (aw G.X G.n sw Hw) tg g) (hb : GWs G body tb)
    (hs : ∀ x, foldedSetIterable iter G.X.env x = pure x := by intro _; rfl) : GW G (.For tg iter body [] pos) (tForG wi g tb) := by
  refine ⟨fun m i sw Hw ip c fs K J gd lv s σ H D gq gc k hm hz dj I ht => ?_⟩
  have xno : ∀ {F : End → Shared → Prop} {d : Code} {t : Sem PySem.Fin} {l : List Frame} {v : Value} {z : Shared}, G.X.xe v z → Sg (model G.X.prog G.X.w) G.A d t l z F := fun {F d t l v z} h => absurd h (C.xe v z)
  rw [exec_For]
  refine sg_bw (wpAny_standAt (sg_bw ?_))
  rw [gc.over]
  refine wpAny_mono ((hi sw Hw).run (gq ++ ip) s σ H _ I ht) (fun v s1 h1 => ?_) fun x z hx => xno hx
  refine sg_bw (wpAny_of_eq (hs v) (sg_bw (wpAny_standAt (sg_bw (wpAny_holding ?_)))))
  rw [gc.over]
  refine wpAny_mono h1 (fun itv s2 h2 => ?_) fun x z hx => xno hx
  obtain ⟨it, fp, tn, Jt, H2, e, I2, T, st2, f2, W, ⟨m0, w0⟩, turn⟩ := h2
  subst e
  refine sg_call fun p => ?_
  have gl : ∀ {ip' : List (Addr × Obj)} (kk : Result → Sem PySem.Fin), (∀ p ∈ ip', G.n ≤ p.1) → Gc G ip' (.forLoop tg (.ref it) body [] G.X.env) (.ret kk none (gd false) (lv []) c p [] :: fs) id := fun {ip'} kk h => gc_in (gc.pins h) rfl rfl
  have fge : ∀ b ∈ fp, G.n ≤ b := fun b hb => by
    obtain ⟨_, _, _, q3, _⟩ := f2 b hb
    rcases q3 with q3 | q3
    · have : b ∈ G.X.ex := q3
      rw [C.fam.ex] at this
      cases this
    · have : (cutH G.n sw.heap).objs.size ≤ b := q3
      rwa [cut_size hz] at this
  have stat : ∀ {sw' : Shared} {Hw' H' : Hp} {gl' : List (Addr × Obj)}, G.n ≤ sw'.heap.objs.size → (∀ p ∈ gl', ∀ b ∈ fp, p.1 ≠ b) → (∀ b ∈ fp, H' b = none) → ∀ b ∈ fp, FpOk (aw G.X G.n sw' Hw') (gl' ++ ip) H' b := fun {sw' Hw' H' gl'} hz' hd hn b hb => by
    obtain ⟨_, q1, q2, q3, q4, q5⟩ := f2 b hb
    refine ⟨hn b hb, q1, q2, .inr (by show (cutH G.n sw'.heap).objs.size ≤ b; rw [cut_size hz']; exact fge b hb), q4, fun p hp => ?_⟩
    rcases List.mem_append.mp hp with hp | hp
    · exact q5 p (List.mem_append_left _ hp)
    · rcases List.mem_append.mp hp with hp | hp
      · exact hd p hp b hb
      · exact q5 p (List.mem_append_right _ (List.mem_append_right _ hp))
  have gapart : ∀ p ∈ gq, ∀ b ∈ fp, p.1 ≠ b := fun p hp b hb => by
    obtain ⟨_, _, _, _, _, q5⟩ := f2 b hb
    exact q5 p (List.mem_append_right _ (List.mem_append_left _ hp))
  have loop : ∀ (r j m i : Nat) (sw : Shared) (Hw : Hp) (gl' : List (Addr × Obj)) (s : Shared) (σ : L2.St) (H : Hp), i + m = G.wg.n → G.n ≤ sw.heap.objs.size → Dj gl' (G.X.pn ++ ip) → (∀ p ∈ gl', ∀ b ∈ fp, p.1 ≠ b) → W j r i Hw σ H → Inv (aw G.X G.n sw Hw) (gl' ++ ip) σ H s → tn j s.heap → (∀ b ∈ fp, H b = none) →
      Sg (model G.X.prog G.X.w) G.A (.forLoop tg (.ref it) body [] G.X.env) ((model G.X.prog G.X.w).den (.forLoop tg (.ref it) body [] G.X.env))
        (.ret (fun r => ((match r with | .ok f => (.pure f : Sem Flow) | .error e => .raise e).onRaise (cameBack G.X.env)).wrap K J gd lv) none (gd false) (lv []) c p [] :: fs) s (Fm G.X G.n G.A G.wg G.Mv m i sw Hw gl') := by
    intro r
    induction r using Nat.strongRecOn with
    | ind r ih =>
      intro j m i sw Hw gl' s σ H hm hz dj' ga' w I hst hfr
      show Sg _ _ _ ((forTurn tg (.ref it) body [] G.X.env).onRaise (fun x => do noteFrame x G.X.env; theTreesLotGoes x)) _ s _
      rw [Sem.onRaise_eq_wrap]
      simp only [forTurn]
      refine sg_bw (wpAny_standAt (sg_bw (wpAny_onRaise ?_)))
      rw [(gl _ gc.ge).over]
      rcases turn j r i Hw σ H w with ⟨stop, qn⟩ | ⟨go, N, hN, step⟩
      · refine wpAny_mono (T.done (aw G.X G.n sw Hw) rfl rfl rfl C.calm j (gl' ++ ip) s σ H G.X.xe I (stat hz ga' hfr) hst stop) (fun r' s4 ⟨hr, I4⟩ => ?_) fun x z hx => absurd hx (C.xe x z)
        subst hr
        exact sg_again rfl (sg_leaf (.ok .next) (k.ok m i sw Hw gl' s4 .next hm hz dj' ⟨σ, H, I4, qn⟩))
      · refine wpAny_mono (T.item (aw G.X G.n sw Hw) rfl rfl rfl C.calm j (gl' ++ ip) s σ H G.X.xe I (stat hz ga' hfr) hst go) (fun r' s4 ⟨u, hr, h4⟩ => ?_) fun x z hx => absurd hx (C.xe x z)
        subst hr
        refine sg_bw ?_
        rw [(gl _ gc.ge).over]
        refine wpAny_mono h4 (fun _ s5 ⟨x, H5, I5, r5, y5, st5, fr5⟩ => ?_) fun x z hx => xno hx
        have I5' := I5.pinned (stat hz ga' fr5) (T.obj _ _ st5)
        rw [List.append_assoc] at I5'
        refine sg_bw ?_
        rw [(gl _ gc.ge).over]
        refine wpAny_mono ((hg sw Hw).run _ s5 σ H5 x u _ I5' r5 (step x H5 y5)) (fun _ s6 ⟨σ6, H6, I6, q6⟩ => ?_) fun x z hx => xno hx
        rw [Sem.bind_eq_wrap', Sem.wrap_wrap]
        have ipn : ∀ p ∈ ip ++ pinsAt fp s5.heap, G.n ≤ p.1 := fun p hp => (List.mem_append.mp hp).elim (gc.ge p) fun z => fge p.1 (of_pinsAt z).1
        have un7 : ∀ {sw7 : Shared} {Hw7 : Hp} {gl7 : List (Addr × Obj)} {σ7 : L2.St} {H7 : Hp} {s7 : Shared}, Inv (aw G.X G.n sw7 Hw7) (gl7 ++ (ip ++ pinsAt fp s5.heap)) σ7 H7 s7 → Inv (aw G.X G.n sw7 Hw7) (gl7 ++ ip) σ7 H7 s7 := fun {sw7 Hw7 gl7 σ7 H7 s7} I7 => by
          rw [← List.append_assoc] at I7
          exact I7.unpinned
        have gfp : ∀ {gl7 : List (Addr × Obj)}, Dj gl7 (G.X.pn ++ (ip ++ pinsAt fp s5.heap)) → Dj gl7 (G.X.pn ++ ip) ∧ ∀ p ∈ gl7, ∀ b ∈ fp, p.1 ≠ b := fun {gl7} d => ⟨fun p hp q hq => d p hp q ((List.mem_append.mp hq).elim (List.mem_append_left _) fun y => List.mem_append_right _ (List.mem_append_left _ y)), fun p hp b hb => by
          obtain ⟨o, e, _⟩ := T.obj _ _ st5 b hb
          exact d p hp (b, o) (List.mem_append_right _ (List.mem_append_right _ (mem_pinsAt hb e)))⟩
        have again : ∀ {m7 i7 : Nat} {sw7 : Shared} {Hw7 : Hp} {gl7 : List (Addr × Obj)} {σ7 : L2.St} {H7 : Hp} {s7 : Shared}, i7 + m7 = G.wg.n → G.n ≤ sw7.heap.objs.size → Dj gl7 (G.X.pn ++ (ip ++ pinsAt fp s5.heap)) → Inv (aw G.X G.n sw7 Hw7) (gl7 ++ (ip ++ pinsAt fp s5.heap)) σ7 H7 s7 → N i7 Hw7 σ7 H7 →
            Sg (model G.X.prog G.X.w) G.A (.forLoop tg (.ref it) body [] G.X.env) (.pure (.again (.forLoop tg (.ref it) body [] G.X.env)))
              (.ret (fun r => ((match r with | .ok f => (.pure f : Sem Flow) | .error e => .raise e).onRaise (cameBack G.X.env)).wrap K J gd lv) none (gd false) (lv []) c p [] :: fs) s7 (Fm G.X G.n G.A G.wg G.Mv m7 i7 sw7 Hw7 gl7) := fun {m7 i7 sw7 Hw7 gl7 σ7 H7 s7} hm7 hz7 dj7 I7 n7 => by
          obtain ⟨m', hlt, w7⟩ := hN i7 Hw7 σ7 H7 n7
          have pin7 : ∀ b ∈ fp, ∀ o, s5.heap.get? b = some o → s7.heap.get? b = some o ∧ H7 b = none := fun b hb o e => by
            obtain ⟨z1, z2, _⟩ := I7.pin (b, o) (List.mem_append_right _ (List.mem_append_right _ (List.mem_append_right _ (mem_pinsAt hb e))))
            exact ⟨z1, z2⟩
          refine sg_again rfl (ih m' hlt (j + 1) m7 i7 sw7 Hw7 gl7 s7 σ7 H7 hm7 hz7 (gfp dj7).1 (gfp dj7).2 w7 (un7 I7) (T.keep _ _ _ st5 fun b hb o e => (pin7 b hb o e).1) fun b hb => ?_)
          obtain ⟨o, e, _⟩ := T.obj _ _ st5 b hb
          exact (pin7 b hb o e).2
        refine hb.run m i sw Hw (ip ++ pinsAt fp s5.heap) _ _ _ _ id id s6 σ6 H6 { D with nx := N, ct := N, bk := D.nx } gl' (gl _ ipn) ⟨fun m7 i7 sw7 Hw7 gl7 s7 f hm7 hz7 dj7 hs7 => ?_⟩ hm hz (fun p hp q hq => (List.mem_append.mp hq).elim (fun y => dj' p hp q (List.mem_append_left _ y)) fun y => (List.mem_append.mp y).elim (fun y => dj' p hp q (List.mem_append_right _ y)) fun y => ga' p hp q.1 (of_pinsAt y).1) I6 q6
        cases f with
        | next =>
          obtain ⟨σ7, H7, I7, n7⟩ := hs7
          exact again hm7 hz7 dj7 I7 n7
        | cont =>
          obtain ⟨σ7, H7, I7, n7⟩ := hs7
          exact again hm7 hz7 dj7 I7 n7
        | brk =>
          obtain ⟨σ7, H7, I7, q7⟩ := hs7
          exact sg_leaf (.ok .next) (k.ok m7 i7 sw7 Hw7 gl7 s7 .next hm7 hz7 (gfp dj7).1 ⟨σ7, H7, un7 I7, q7⟩)
        | ret v =>
          obtain ⟨x7, σ7, H7, I7, r7, q7⟩ := hs7
          exact sg_leaf (.ok (.ret v)) (k.ok m7 i7 sw7 Hw7 gl7 s7 (.ret v) hm7 hz7 (gfp dj7).1 ⟨x7, σ7, H7, un7 I7, r7, q7⟩)
  exact loop m0 0 m i sw Hw gq s2 σ H2 hm hz dj gapart w0 I2 st2 fun b hb => (f2 b hb).1
end
end Gw
end Ls
end
section
set_option Elab.async false
set_option autoImplicit false
set_option linter.all false
set_option maxRecDepth 100000
set_option maxHeartbeats 4000000
namespace Ls
namespace Gw
open PySem PySem.Spec PyProof.Rows L2 GenW
def gwx (P : Program) (w : World) (K : PySem.W.Frag) (mg : Str → Option Value) (base : Heap) (N : List Str) (qual : Str) (scope : Scope) (f : Addr) (cd : Value) (A : Around) (outer : List Env) (n : Nat) (pn : List (Addr × Obj)) : Cx where
  prog := P
  w := w
  K := K
  mg := mg
  base := base
  A := A.deeper (envOfC qual scope n f cd)
  N := N
  s_0 := {}
  H_0 := fun _ => none
  env := envOfC qual scope n f cd
  outer := outer
  stack := envOfC qual scope n f cd :: outer
  ex := []
  calm := true
  fn := fun _ => true
  pn := pn
  xe := fun _ _ => False
abbrev SpW := List V → Hp → (Addr → Prop) → (Wg → Prop) → Prop
def Made (P : Program) (w : World) (k : Nat) (outer : List Env) (base : Heap) (H : Hp) (s : Shared) (Mv : Addr → Prop) (R : Wg → Prop) (u : Value) (z : Shared) : Prop :=
  ∃ (a : Addr) (g : Nat) (c : Code) (wg : Wg) (go : Obj), u = .ref a ∧ R wg ∧ z.heap.get? a = some go ∧ z.heap.IsGen a g ∧ z.gens[g]? = some (.fresh c) ∧ z.os = s.os ∧ AllBare z.gens ∧ (∀ b o, s.heap.get? b = some o → z.heap.get? b = some o) ∧
    ∀ (A : Around) (Mw : Addr → Prop), Room k A → A.frames = some outer → (∀ b, Mw b → Mv b ∨ H b = none) → ∃ X priv, X.prog = P ∧ X.w = w ∧ X.base = base ∧ X.outer = outer ∧ X.pn = [(a, go)] ∧ (a, go) ∈ priv ∧ Own s.heap.objs.size priv H z.heap ∧
      ∀ sw Hw gd, Woke X s.heap.objs.size priv gd sw Hw → Rly Mw H Hw → (∀ b, Mw b → Hw b ≠ none) → Goes (model P w) A (.fresh c) sw (Fm X s.heap.objs.size A wg Mw wg.n 0 sw Hw gd)
structure GFw (P : Program) (w : World) (K : PySem.W.Frag) (mg : Str → Option Value) (base : Heap) (k : Nat) (f : Addr) (fd : FuncData) (ps : List Str) (sp : SpW) : Prop where
  len : ∀ vs H Mv R, sp vs H Mv R → vs.length = ps.length
  run : ∀ (A : Around) (outer : List Env) (s : Shared) (H : Hp) (args : Args) (us : List Value) (vs : List V) (Mv : Addr → Prop) (R : Wg → Prop), Room k A → Env0 P w K mg base A outer s H → BindsTo s fd args (ps.zip us) → Vals vs us → sp vs H Mv R →
    codeAny (model P w) A (.call (.ref f) args) (fun r z => match r with | .ok (.ret u) => Made P w k outer base H s Mv R u z | _ => False) s
theorem sg_func {P : Program} {w : World} {A : Around} {fs : List Frame} {s : Shared} {env : Env} {body : List Stmt} {F : End → Shared → Prop}
    (h : Sg (model P w) A (.func body env) ((execs body env).wrap (fun f => .pure (.done (.ret (match f with | .ret v => v | _ => .none)))) (fun e => (leaving env e).wrap (fun _ => .raise e) .raise id id) id id) fs s F) :
    Sg (model P w) A (.func body env) ((model P w).den (.func body env)) fs s F := by
  show Sg _ A _ (.point [] fun _ => ((execs body env).onRaise (leaving env)) >>= _) fs s F
  refine sg_point ?_
  rw [Sem.onRaise_eq_wrap, Sem.bind_eq_wrap', Sem.wrap_wrap]
  have q : ∀ (K1 K2 : Flow → Sem PySem.Fin) (J1 J2 : Value → Sem PySem.Fin), (∀ f, K1 f = K2 f) → (∀ e, J1 e = J2 e) → Sg (model P w) A (.func body env) ((execs body env).wrap K1 J1 id id) fs s F → Sg (model P w) A (.func body env) ((execs body env).wrap K2 J2 id id) fs s F := fun K1 K2 J1 J2 a b x => by rw [← funext a, ← funext b]; exact x
  exact q _ _ _ _ (fun f => by cases f <;> rfl) (fun e => by rw [Sem.bind_eq_wrap, Sem.wrap_wrap]; rfl) h
theorem gfw_of {P : Program} {w : World} {K : PySem.W.Frag} {mg : Str → Option Value} {base : Heap} {k : Nat} {f : Addr} {name qual : Str} {params : Arguments} {body : List Stmt} {scope : Scope} {dV kV doc pm cdv ct oc : Value} {an od : Option Addr}
    {osl : Array (Option Value)} {N ps : List Str} {sp : SpW} (lk : K.lookup f = some ⟨oc, od, .func (PySem.W.fnOf name qual params body scope dV kV doc pm an cdv ct), osl⟩) (hcd : PySem.W.codeIn K cdv qual = true) (S : GScope N ps scope)
    (hcell : ∀ n, cellsFrom n scope.names [] = []) (len : ∀ vs H Mv R, sp vs H Mv R → vs.length = ps.length)
    (hbody : ∀ (H : Hp) (vs : List V) (Mv : Addr → Prop) (R : Wg → Prop), sp vs H Mv R → ∃ wg, R wg ∧ ∀ (A : Around) (Mw : Addr → Prop) (outer : List Env) (n : Nat) (pn : List (Addr × Obj)), Room k (A.deeper (envOfC qual scope n f cdv)) → (∀ b, Mw b → Mv b ∨ H b = none) → Calm ⟨gwx P w K mg base N qual scope f cdv A outer n pn, n, A, wg, Mw⟩ →
      ∃ t, GWs ⟨gwx P w K mg base N qual scope f cdv A outer n pn, n, A, wg, Mw⟩ body t ∧
        ∀ H2, Rly Mw H H2 → (∀ b, Mw b → H2 b ≠ none) → t { nx := fun i Hw _ H' => i = wg.n ∧ Ext Hw H', rt := fun i Hw v H' => v = .non ∧ i = wg.n ∧ Ext Hw H' } 0 H2 (start N vs) H2) :
    GFw P w K mg base (k + 1) f (PySem.W.fnOf name qual params body scope dV kV doc pm an cdv ct) ps sp := by
  refine ⟨len, fun A outer s H args us vs Mv R hr e0 hb r hsp => ?_⟩
  have hl := len _ _ _ _ hsp
  have KX : K.In s.heap := e0.mod.kin.keeps fun b o e => (e0.bs b o e).1
  have lim : s.heap.NoLimit := e0.mod.nolimit.keeps fun b o e => (e0.bs b o e).1
  have kd : ∀ y ∈ ps.zip us, scope.names.lookup y.1 = some .local ∨ (scope.names.lookup y.1 = some .cell ∧ ((cellsFrom (s.heap.objs.size + 1) scope.names []).lookup y.1).isSome = true) := fun y hy => by
    obtain ⟨m, v⟩ := y
    exact (S.par m (List.of_mem_zip hy).1).imp id fun q => ⟨q, PySem.W.cellsFrom_some _ _ _ (.inl q)⟩
  refine codeAny_call_generator hr.depth (KX _ _ lk) rfl S.co S.gen rfl (PySem.W.codeRec_of KX hcd) (hb _ _ _ _ ?_)
  refine wpAny_newFunctionEnv_cells S.kind kd fun env he s1 x => ?_
  subst he
  refine ⟨lim.keeps x.toInCall.keep, ?_⟩
  have kp1 : ∀ b o, s.heap.get? b = some o → s1.heap.get? b = some o := x.toInCall.keep
  obtain ⟨h1, tk, es1, _⟩ := x.done
  have os1 : s1.os = s.os := by rw [es1]
  have gen1 : s1.gens = s.gens := by rw [es1]
  have sz1 : s.heap.objs.size ≤ s1.heap.objs.size := Nat.le_of_lt x.toInCall.ns.lt
  have main : ∀ (go : Obj) (nm qn : Value) (tk2 : Nat), go.cls = .type "generator" → go.data = .fields #[.int s1.gens.size 0, nm, qn] → go.slots = #[] → (∀ h : Heap, (h.push go).get? h.objs.size = some go) →
      Made P w (k + 1) outer base H s Mv R (.ref s1.heap.objs.size) { s1 with gens := s1.gens.push (.fresh (.func body (envOfC qual scope s.heap.objs.size f cdv))), toks := tk2, heap := s1.heap.push go } := by
    intro go nm qn tk2 gc gd gs gp
    have gat : (s1.heap.push go).get? s1.heap.objs.size = some go := gp _
    obtain ⟨wg, hR, hbd⟩ := hbody H vs Mv R hsp
    refine ⟨s1.heap.objs.size, s1.gens.size, _, wg, go, rfl, hR, gat, ⟨go, nm, qn, gat, gc, gd, gs⟩, Array.getElem?_push_size .., os1, AllBare.push (by rw [gen1]; exact e0.bare) rfl, fun b o e => Heap.get?_push_of_some _ (kp1 b o e), ?_⟩
    intro Aw Mw hrw hfr hmw
    have e0w : Env0 P w K mg base Aw outer s H := ⟨hfr, e0.mod, e0.bs, e0.bsz, e0.funs, e0.frf, e0.hok, e0.bare⟩
    have I1 : Inv (gcxOf P w K mg base N qual scope f cdv Aw outer s H (fun _ _ _ => False) []) [] (start N vs) H s1 := inv_startG S hrw.hd e0w hl r x
    have nocell : ∀ x c, ¬ ((envOfC qual scope s.heap.objs.size f cdv).cells.lookup x = some c) := fun x c z => by
      have : (envOfC qual scope s.heap.objs.size f cdv).cells = [] := hcell _
      rw [this] at z
      cases z
    have fm : Fam (gwx P w K mg base N qual scope f cdv Aw outer s.heap.objs.size [(s1.heap.objs.size, go)]) s.heap.objs.size := ⟨Nat.le_refl _, hcell _, rfl, e0.bsz⟩
    have cm : Calm ⟨gwx P w K mg base N qual scope f cdv Aw outer s.heap.objs.size [(s1.heap.objs.size, go)], s.heap.objs.size, Aw, wg, Mw⟩ := ⟨fun _ _ z => z, rfl, fm, fun p hp => by
      rw [List.mem_singleton.mp hp]
      exact sz1⟩
    obtain ⟨t, ht, hq⟩ := hbd Aw Mw outer s.heap.objs.size [(s1.heap.objs.size, go)] (hrw.deeper _) hmw cm
    have kz : ∀ b o, s1.heap.get? b = some o → (s1.heap.push go).get? b = some o := fun b o e => Heap.get?_push_of_some _ e
    have fsl : ∀ b ∈ frs outer, b < s.heap.objs.size := fun b hb => by
      obtain ⟨_, o, ho, _⟩ := e0.funs.mem hb
      exact Heap.lt_size ho
    have cutFr : ∀ l : List Env, s.heap.FunFrames base l → (cutH s.heap.objs.size s.heap).FunFrames base l := by
      intro l
      induction l with
      | nil => exact fun _ => trivial
      | cons env l ih =>
        intro z
        obtain ⟨z1, ⟨L, o, z2, z3, z4, z5⟩, z6⟩ := z
        exact ⟨z1, ⟨L, o, z2, z3, cut_get.mpr ⟨Heap.lt_size z4, z4⟩, z5⟩, ih z6⟩
    have I2 : Inv (aw (gwx P w K mg base N qual scope f cdv Aw outer s.heap.objs.size [(s1.heap.objs.size, go)]) s.heap.objs.size s H) [] (start N vs) H { s1 with gens := s1.gens.push (.fresh (.func body (envOfC qual scope s.heap.objs.size f cdv))), toks := tk2, heap := s1.heap.push go } := by
      obtain ⟨m, hn, hlk⟩ := I1.loc
      refine ⟨⟨e0.mod, S.kind, rfl, rfl, by rw [show (aw (gwx P w K mg base N qual scope f cdv Aw outer s.heap.objs.size [(s1.heap.objs.size, go)]) s.heap.objs.size s H).s_0.heap.objs.size = _ from cut_size (Nat.le_refl _)]; exact Nat.le_refl _, I1.ok.inj, I1.ok.has, fun y c _ z => absurd z (nocell y c), fun _ => hrw.hd, Around.frames_deeper hfr, .inr ⟨rfl, rfl⟩, fun b z => (by cases z), fun b o e => ?_, ?_, fun b o e z => (by cases z), fun b z => (by cases z), cutFr _ e0.funs, e0.frf⟩,
        os1, AllBare.push (by rw [gen1]; exact e0.bare) rfl, Un.kept fun b o e => kz b o (kp1 b o (cut_get.mp e).2), ⟨m, hn.keeps kz, fun i y v z1 z2 z3 => ?_⟩, fun y c z => absurd z (nocell y c), I1.free, fun y c z => absurd z (nocell y c), fun p hp => ?_, e0.hok.kept fun b o e => kz b o (kp1 b o e), I1.len⟩
      · obtain ⟨z1, z2⟩ := e0.bs b o e
        exact ⟨cut_get.mpr ⟨Heap.lt_size z1, z1⟩, z2⟩
      · show base.objs.size ≤ (cutH s.heap.objs.size s.heap).objs.size
        rw [cut_size (Nat.le_refl _)]
        exact e0.bsz
      · obtain ⟨u, ru, lk⟩ := hlk i y v z1 z2 z3
        refine ⟨u, ru, ?_⟩
        rcases lk with lk | ⟨_, c, z, _⟩
        · exact .inl lk
        · exact absurd z (nocell y c)
      · have : p = (s1.heap.objs.size, go) := List.mem_singleton.mp hp
        rw [this]
        exact ⟨gat, e0.hok.fresh sz1, Nat.ne_of_gt x.toInCall.ns.lt, fun z => absurd (fsl _ z) (Nat.not_lt.mpr sz1), fun v z => by rw [gd] at z; cases z⟩
    obtain ⟨mm, ⟨oL, es, ep, eL, dL, _⟩, _⟩ := id I2.loc
    replace eL : (s1.heap.push go).get? s.heap.objs.size = some oL := eL
    refine ⟨gwx P w K mg base N qual scope f cdv Aw outer s.heap.objs.size [(s1.heap.objs.size, go)], [(s1.heap.objs.size, go)] ++ [] ++ ownL (gwx P w K mg base N qual scope f cdv Aw outer s.heap.objs.size [(s1.heap.objs.size, go)]) { s1 with gens := s1.gens.push (.fresh (.func body (envOfC qual scope s.heap.objs.size f cdv))), toks := tk2, heap := s1.heap.push go }, rfl, rfl, rfl, rfl, rfl, List.mem_append_left _ (List.mem_append_left _ (List.mem_singleton.mpr rfl)), ?_, ?_⟩
    · have each : ∀ p ∈ [(s1.heap.objs.size, go)] ++ [] ++ ownL (gwx P w K mg base N qual scope f cdv Aw outer s.heap.objs.size [(s1.heap.objs.size, go)]) { s1 with gens := s1.gens.push (.fresh (.func body (envOfC qual scope s.heap.objs.size f cdv))), toks := tk2, heap := s1.heap.push go }, p = (s1.heap.objs.size, go) ∨ p = (s.heap.objs.size, oL) := fun p hp => by
        rcases List.mem_append.mp hp with hp | hp
        · exact .inl (List.mem_singleton.mp hp)
        · obtain ⟨z1, z2⟩ := of_pinsAt hp
          have e1 : p.1 = s.heap.objs.size := List.mem_singleton.mp z1
          rw [e1] at z2
          have z2 : (s1.heap.push go).get? s.heap.objs.size = some p.2 := z2
          rw [eL] at z2
          obtain ⟨p1, p2⟩ := p
          cases e1
          cases z2
          exact .inr rfl
      refine ⟨⟨fun p hp => ?_, fun p hp => ?_⟩, fun p hp => ?_, fun p hp => ?_⟩
      · rcases each p hp with e | e <;> rw [e]
        · exact gat
        · exact eL
      · rcases each p hp with e | e <;> rw [e]
        · exact e0.hok.fresh sz1
        · exact e0.hok.fresh (Nat.le_refl _)
      · rcases each p hp with e | e <;> rw [e]
        · exact sz1
        · exact Nat.le_refl _
      · rcases each p hp with e | e <;> rw [e] <;> intro v z
        · rw [gd] at z; cases z
        · rw [dL] at z; cases z
    · intro sw Hw gl W hrl hmn
      have I3 := rewake (g0 := []) fm I2 W
      refine sg_func (ht.run wg.n 0 sw Hw [] _ [] _ _ id id sw (start N vs) Hw _ gl ⟨over_func, rfl, rfl, rfl, fun p hp => by cases hp⟩ ⟨fun m i sw' Hw' gl' z fl hm hz dj hs => ?_⟩ (Nat.zero_add _) W.sz (fun p hp q hq => W.dj p hp q (List.mem_append_left _ hq)) I3 (hq Hw hrl hmn))
      have fin : ∀ {σ' : L2.St} {H' : Hp}, Inv (aw (gwx P w K mg base N qual scope f cdv Aw outer s.heap.objs.size [(s1.heap.objs.size, go)]) s.heap.objs.size sw' Hw') (gl' ++ []) σ' H' z → i = wg.n → Ext Hw' H' → Fm (gwx P w K mg base N qual scope f cdv Aw outer s.heap.objs.size [(s1.heap.objs.size, go)]) s.heap.objs.size Aw wg Mw m i sw' Hw' gl' (.ret (.ok (.ret .none))) z := fun {σ' H'} I' e1 e2 => by
        have m0 : m = 0 := by have hm : i + m = wg.n := hm; omega
        subst m0
        exact ⟨.inl rfl, ⟨H', ⟨I'.os, I'.bare, I'.base, I'.hok⟩, e2, fun p hp => ⟨(I'.pin p (List.mem_append_right _ (List.mem_append_left _ hp))).1, (I'.pin p (List.mem_append_right _ (List.mem_append_left _ hp))).2.1⟩⟩, fun p hp => (I'.pin p (List.mem_append_left _ hp)).1⟩
      cases fl with
      | next =>
        obtain ⟨σ', H', I', e1, e2⟩ := hs
        exact sg_end (.ok (.ret .none)) (fin I' e1 e2)
      | brk => obtain ⟨_, _, _, q⟩ := hs; exact q.elim
      | cont => obtain ⟨_, _, _, q⟩ := hs; exact q.elim
      | ret u =>
        obtain ⟨v, σ', H', I', rv, ev, e1, e2⟩ := hs
        subst ev
        cases (show u = Value.none from rv)
        exact sg_end (.ok (.ret .none)) (fin I' e1 e2)
  exact main _ _ _ _ rfl rfl rfl fun h => Heap.get?_push_size _ rfl
end Gw
end Ls
end
section
set_option Elab.async false
set_option autoImplicit false
set_option linter.all false
set_option maxRecDepth 100000
set_option maxHeartbeats 4000000
namespace Ls
namespace Gw
open PySem PySem.Spec PyProof.Rows L2 GenW
section
variable {X : Cx} {pins : List (Addr × Obj)} {σ : L2.St} {H H1 : Hp} {s s1 : Shared} {n : Nat}
theorem woken (I : Inv X pins σ H s) (un : Un (frs X.stack) [] H H1 (cutH n s.heap) s1.heap) (hL : X.env.locals < n) (hc : ∀ x c, X.env.cells.lookup x = some c → c < n) (hp : ∀ p ∈ X.pn ++ pins, p.1 < n) (hok : HOk X.prog X.w H1 s1.heap) (hb : AllBare s1.gens) (ho : s1.os = s.os) : Inv X pins σ H1 s1 := by
  have old : ∀ b o, X.s_0.heap.get? b = some o → b < n := fun b o e => Nat.lt_trans (Nat.lt_of_lt_of_le (Heap.lt_size e) I.ok.above) hL
  have neL : ∀ b o, X.s_0.heap.get? b = some o → b ≠ X.env.locals := fun b o e => Nat.ne_of_lt (Nat.lt_of_lt_of_le (Heap.lt_size e) I.ok.above)
  have any : ∀ {b : Addr} {o : Obj}, s.heap.get? b = some o → b < n → H b = none → ∃ sl, s1.heap.get? b = some { o with slots := sl } := fun {b o} e lt f => un.any (cut_get.mpr ⟨lt, e⟩) f (by simp)
  have cellK : ∀ x c, X.env.cells.lookup x = some c → ∀ v, s.heap.IsCell c v → s1.heap.IsCell c v := fun x c e v ⟨o, h1, h2⟩ => by
    obtain ⟨sl, q⟩ := any h1 (hc x c e) (I.freeC x c e)
    exact ⟨_, q, h2⟩
  refine ⟨I.ok, ho.trans I.os, hb, ⟨fun b o e f nb nx => ?_, fun b o e f nb nx => ?_, fun b o e f nx => ?_, fun b o e nx => ?_, fun b xs e => un.tups b xs (I.base.tups b xs e), fun b o u e => un.frzs b o u (I.base.frzs b o u e), fun b ps e => ?_⟩, ?_, fun x c e => ?_, ?_, fun x c e => ?_, fun p hp' => ?_, hok, I.len⟩
  · refine un.keep b o (cut_get.mpr ⟨old b o e, I.base.keep b o e f nb nx⟩) (I.base.free b o e f nx) (fun z => ?_) (by simp)
    exact (List.mem_cons.mp (I.stkSub b z)).elim (neL b o e) nb
  · obtain ⟨sl, q⟩ := I.base.slot b o e f nb nx
    obtain ⟨sl', q'⟩ := any q (old b o e) (I.base.free b o e f nx)
    exact ⟨sl', q'⟩
  · obtain ⟨o', q⟩ := I.base.there b o e nx
    exact un.free b o' (cut_get.mpr ⟨old b o e, q⟩) (I.base.free b o e f nx) (by simp)
  · obtain ⟨o', q⟩ := I.base.there b o e nx
    exact un.there b o' (cut_get.mpr ⟨old b o e, q⟩) (by simp)
  · obtain ⟨m1, q1⟩ := I.base.tbls b ps e
    obtain ⟨m2, q2⟩ := un.tbls b _ q1
    exact ⟨m1 ++ m2, by rw [q2, Array.append_assoc]⟩
  · obtain ⟨m, hn, hl⟩ := I.loc
    obtain ⟨oL, es, ep, eL, r⟩ := id hn
    obtain ⟨sl, q⟩ := any eL hL I.free
    refine ⟨m, ⟨_, es, ep, q, r⟩, fun i x v e1 e2 e3 => ?_⟩
    obtain ⟨u, ru, lk⟩ := hl i x v e1 e2 e3
    refine ⟨u, ru, ?_⟩
    rcases lk with lk | ⟨k, c, e, z⟩
    · exact .inl lk
    · exact .inr ⟨k, c, e, cellK x c e _ z⟩
  · obtain ⟨v, z⟩ := I.cell x c e
    exact ⟨v, cellK x c e v z⟩
  · obtain ⟨m, ⟨oL, _, _, eL, _⟩, _⟩ := I.loc
    exact un.free _ oL (cut_get.mpr ⟨hL, eL⟩) I.free (by simp)
  · obtain ⟨v, o, e1, _⟩ := I.cell x c e
    exact un.free c o (cut_get.mpr ⟨hc x c e, e1⟩) (I.freeC x c e) (by simp)
  · obtain ⟨e, f, ne, nf, d⟩ := I.pin p hp'
    have lt := cut_get.mpr ⟨hp p hp', e⟩
    exact ⟨un.keep p.1 p.2 lt f (fun z => (List.mem_cons.mp (I.stkSub p.1 z)).elim ne nf) (by simp), un.free p.1 p.2 lt f (by simp), ne, nf, d⟩
theorem regen {G : Array GenState} (I : Inv X pins σ H { s with gens := G }) (h : AllBare s.gens) : Inv X pins σ H s :=
  ⟨I.ok, I.os, h, I.base, I.loc, I.cell, I.free, I.freeC, I.pin, I.hok, I.len⟩
theorem regen' (G : Array GenState) (I : Inv X pins σ H s) (h : AllBare G) : Inv X pins σ H { s with gens := G } :=
  ⟨I.ok, I.os, h, I.base, I.loc, I.cell, I.free, I.freeC, I.pin, I.hok, I.len⟩
end
theorem next_goes {P : Program} {w : World} {A : Around} {a : Addr} {g : Nat} {gs : GenState} {s : Shared} {F : End → Shared → Prop} {Q : Option Value → Shared → Prop} {E : Value → Shared → Prop} (hh : A.handled = none) (hl : s.heap.NoLimit) (hd : A.depth < recursionLimit)
    (hg : s.heap.IsGen a g) (hs : s.gens[g]? = some gs) (live : gs.status = .fresh ∨ gs.status = .suspended) (hgo : Goes (model P w) A.in1 gs (s.setGen g .running) F)
    (hend : ∀ r z, F (.ret r) z → (r = .ok (.ret .none) ∨ r = .ok .next) ∧ ∀ h', (∀ b o, z.heap.get? b = some o → h'.get? b = some o) → Q none { z.setGen g .finished with heap := h' })
    (hyld : ∀ v gd l k c p fs z, F (.susp v gd l k c p fs) z → (End.susp v gd l k c p fs).quiet = true ∧ Q (some v) (z.setGen g (End.susp v gd l k c p fs).genState)) :
    wpAny (model P w) A (pyNext (.ref a)) Q E s := by
  unfold pyNext
  refine wpAny_bind (wpAny_attempt (wpAny_callSpecial?_slot (name := Str.ofString "__next__") hg.typeIs slot_gen_next (wpAny_call_entry slot_gen_next hg.typeIs entry_gen_next ?_ (args_gen_next _))))
  show wpAny _ A.in1 (Builtin.Generator.genWake (.ref a) (.send .none)) _ _ s
  unfold Builtin.Generator.genWake
  refine wpAny_bind (wpAny_holding (wpAny_genNumber hg (wpAny_bind (wpAny_genState hs ?_))))
  have tail : ∀ (kk : GenResult → Sem Value), True := fun _ => trivial
  cases gs with
  | running => rcases live with z | z <;> cases z
  | finished => rcases live with z | z <;> cases z
  | _ =>
    refine wpAny_bind (wpAny_roomToWake hl hd ?_)
    show wpAny _ A.in1 (.resume g (.send .none) [] _) _ _ s
    refine wpAny_wake hs hgo fun e z hz => ?_
    cases e with
    | ret r =>
      obtain ⟨hr, hq⟩ := hend r z hz
      refine ⟨rfl, ?_⟩
      have hres : End.result (.ret r) = .returned .none := by rcases hr with hr | hr <;> rw [hr] <;> rfl
      first | rw [hres] | simp only [hres]
      show wpAny _ A.in1 (newExc (.type "StopIteration") [] >>= _) _ _ _
      refine wpAny_bind ?_
      simp only [newExc, newTuple]
      refine wpAny_bind (wpAny_newObj_type ?_ (by size_fits))
      refine wpAny_bind (m := firstArgMember _ _) (wpAny_of_eq (a := Value.none) (by first | rfl | (simp only [firstArgMember]; rfl)) ?_)
      refine wpAny_newObj_type ?_ (by size_fits)
      simp only [raiseNew]
      refine wpAny_bind (wpAny_bind (wpAny_handled ?_))
      first | rw [show A.in1.handled = none from hh] | rw [hh]
      refine wpAny_throw ?_
      refine wpAny_bind (wpAny_isInstance (T := "StopIteration") (b := true) ⟨_, Heap.get?_push_size _ rfl, rfl⟩ isSubtype_stop ?_)
      exact wpAny_pure (hq _ fun b o hb => Heap.get?_push_of_some _ (Heap.get?_push_of_some _ hb))
    | susp v gd l k c p fs =>
      obtain ⟨h1, h2⟩ := hyld v gd l k c p fs z hz
      exact ⟨h1, wpAny_pure ⟨v, rfl, wpAny_pure h2⟩⟩
abbrev TWg := L2.St → Hp → (Addr → Prop) → (Wg → Hp → Prop) → Prop
structure PWg (X : Cx) (k : Nat) (e : Expr) (tw : TWg) : Prop where
  run : ∀ (pins : List (Addr × Obj)) (s : Shared) (σ : L2.St) (H : Hp) (Mv : Addr → Prop) (R : Wg → Hp → Prop), Inv X pins σ H s → tw σ H Mv R → wpAny (model X.prog X.w) X.A (eval e X.env)
    (fun u z => ∃ H1 sc, Inv X pins σ H1 sc ∧ Made X.prog X.w k X.stack X.base H1 sc Mv (fun wg => R wg H1) u z) X.xe s
def GenFree (X : Cx) : Prop := ∀ (x : Value) (s : Shared) (G : Array GenState) (E : Nat → Option GenState), Rl E G s.gens → X.xe x { s with gens := G } → X.xe x s
theorem GenFree.never {X : Cx} (h : X.xe = fun _ _ => False) : GenFree X := fun x s G E _ z => by rw [h] at z; exact z.elim
def tForW (tw : TWg) (g : TG) (tb : TS) : TS := fun D σ H => ∃ Mv, tw σ H Mv fun wg H1 => (∀ b, Mv b → H1 b ≠ none) ∧ ∃ W : Nat → L2.St → Hp → Prop, W 0 σ H1 ∧ (∀ i σ H, i < wg.n → W i σ H → ∀ x H', Ext H H' → wg.Y i H x H' → g x σ H' fun σ2 H2 => tb { D with nx := fun σ3 H3 => Rly Mv H' H3 ∧ W (i + 1) σ3 H3, ct := fun σ3 H3 => Rly Mv H' H3 ∧ W (i + 1) σ3 H3, bk := D.nx } σ2 H2) ∧
  ∀ σ H, W wg.n σ H → ∀ H', Ext H H' → D.nx σ H'
section
variable {X : Cx}
theorem ps_forW {k : Nat} {tg iter : Expr} {body : List Stmt} {pos : Pos} {tw : TWg} {g : TG} {tb : TS} (hr : Room (k + 1) X.A) (hx : GenFree X) (hp : PassesOwn (model X.prog X.w) X.A X.env X.xe) (hc : X.calm = true) (hi : PWg X k iter tw) (hg : PG X tg g) (hb : PSs X body tb)
    (hs : ∀ x, foldedSetIterable iter X.env x = pure x := by intro _; rfl) : PS X (.For tg iter body [] pos) (tForW tw g tb) := by
  refine ⟨fun pins s σ H D I h => ?_⟩
  obtain ⟨Mv, h⟩ := h
  refine wpAny_For (thn (hi.run pins s σ H Mv _ I h) fun v s1 h1 => ?_) hs
  obtain ⟨H1, sc, Ic, a, g0, c0, wg, go, rfl, ⟨hmn, W, w0, turn, fin⟩, ea, ig, hgs, hos, hba, kp, mk⟩ := h1
  obtain ⟨Xg, priv0, e1, e2, e3, e4, e5, e6, own0, slp0⟩ := mk X.A.in1 Mv hr.in1 Ic.ok.frames fun b hb => .inl hb
  have I1 : Inv X pins σ H1 s1 := Ic.call' (ch := []) hos (Un.kept kp) (Ic.hok.kept kp) hba fun b z => by simp at z
  refine wpAny_pyIter_gen ig ?_
  have oL : X.env.locals < sc.heap.objs.size := Ic.lt
  have oC : ∀ x c, X.env.cells.lookup x = some c → c < sc.heap.objs.size := fun x c e => by
    obtain ⟨v, q⟩ := Ic.cell x c e
    exact q.lt
  have oP : ∀ p ∈ X.pn ++ pins, p.1 < sc.heap.objs.size := fun p hp => Heap.lt_size (Ic.pin p hp).1
  have isg : ∀ {h : Heap}, h.get? a = some go → h.IsGen a g0 := fun {h} e => by
    obtain ⟨o, nm, qn, e1, r⟩ := ig
    rw [ea] at e1
    cases e1
    exact ⟨_, nm, qn, e, r⟩
  refine codeAny_forLoop_any (fun m z => ∃ i σ' H' gs priv, m + i = wg.n + 1 ∧ i ≤ wg.n ∧ Inv X pins σ' H' z ∧ W i σ' H' ∧ z.gens[g0]? = some gs ∧ (gs.status = .fresh ∨ gs.status = .suspended) ∧ Own sc.heap.objs.size priv H' z.heap ∧ (a, go) ∈ priv ∧ ∀ sw gd, Woke Xg sc.heap.objs.size priv gd sw H' → Goes (model X.prog X.w) X.A.in1 gs sw (Fm Xg sc.heap.objs.size X.A.in1 wg Mv (wg.n - i) i sw H' gd)) ?_ (wg.n + 1)
    ⟨0, σ, H1, _, priv0, by omega, Nat.zero_le _, I1, w0, hgs, .inl rfl, own0, e6, fun sw gd W => slp0 sw H1 gd W Rly.refl hmn⟩
  rintro m z ⟨i, σ3, H3, gs, priv, hmi, hin, I3, w3, hg3, live, own3, ap, sl⟩
  have gsz3 : g0 + 1 ≤ z.gens.size := (Array.getElem?_eq_some_iff.mp hg3).1
  have wk : Woke Xg sc.heap.objs.size priv [] (z.setGen g0 .running) H3 := ⟨Nat.le_trans (own3.ge _ ap) (Nat.le_of_lt (Heap.lt_size (own3.st.at_ _ ap))), own3.st, by rw [e3]; exact fun b o e => I3.bs b o e, by rw [e3, e4]; exact I3.stack, by show ∀ b ∈ frs Xg.outer, _; rw [e4]; exact I3.stkFree, allBare_setGen I3.bare rfl, by rw [e1, e2]; exact I3.hok, fun p hp => (by cases hp), fun p hp => (by cases hp)⟩
  have go' := sl (z.setGen g0 .running) [] wk
  refine wpAny_passesOwn hp (wpAny_gsz (n := g0 + 1) gsz3 (next_goes (I3.ok.hd hc) I3.nolimit hr.depth (isg (own3.st.at_ _ ap)) hg3 live go' (fun r z4 hz4 => ?_) (fun v gd l k0 c p fs z4 hz4 => ?_)))
  ·
    have hin' : i = wg.n := by
      rcases Nat.lt_or_ge i wg.n with q | q
      · obtain ⟨d, hd⟩ : ∃ d, wg.n - i = d + 1 := ⟨wg.n - i - 1, by omega⟩
        rw [hd] at hz4
        exact hz4.elim
      · omega
    subst hin'
    rw [Nat.sub_self] at hz4
    obtain ⟨hr4, ⟨H4, af, ex, _⟩, _⟩ := hz4
    refine ⟨hr4, fun h' hk _ => wpAny_execs_nil ⟨σ3, H4, ?_, fin σ3 H3 w3 H4 ex⟩⟩
    have un4 := af.un
    rw [show Xg.fs = frs X.stack by show frs Xg.outer = _; rw [e4]] at un4
    have hok4 := af.hok
    rw [e1, e2] at hok4
    exact woken (s1 := { z4.setGen g0 .finished with heap := h' }) I3 (un4.trans (Un.kept hk)) oL oC oP (hok4.kept hk) (allBare_setGen af.bare rfl) af.os
  ·
    have hlt : i < wg.n := by
      rcases Nat.lt_or_ge i wg.n with q | q
      · exact q
      · rw [Nat.sub_eq_zero_of_le q] at hz4
        exact hz4.elim
    obtain ⟨d, hd⟩ : ∃ d, wg.n - i = d + 1 := ⟨wg.n - i - 1, by omega⟩
    rw [hd] at hz4
    obtain ⟨hq, x, H4, priv4, rv, hY, hE, af, _, _, own4, pn4, sl4⟩ := hz4
    refine ⟨hq, fun gsz5 => ?_⟩
    have un4 := af.un
    rw [show Xg.fs = frs X.stack by show frs Xg.outer = _; rw [e4]] at un4
    have hok4 := af.hok
    rw [e1, e2] at hok4
    have ap4 : (a, go) ∈ priv4 := pn4 _ (by rw [e5]; exact List.mem_singleton.mpr rfl)
    have bare5 : AllBare (z4.setGen g0 (End.susp v gd l k0 c p fs).genState).gens := allBare_setGen af.bare (End.bare_of_quiet hq)
    have I5 : Inv X pins σ3 H4 (z4.setGen g0 (End.susp v gd l k0 c p fs).genState) := woken (s1 := z4.setGen g0 (End.susp v gd l k0 c p fs).genState) I3 un4 oL oC oP hok4 bare5 af.os
    have l5 : (z4.setGen g0 (End.susp v gd l k0 c p fs).genState).gens[g0]? = some (End.susp v gd l k0 c p fs).genState := setGen_at (by rw [setGen_size] at gsz5; omega)
    have own5 : Own sc.heap.objs.size priv4 H4 (z4.setGen g0 (End.susp v gd l k0 c p fs).genState).heap := own4
    generalize hz5 : z4.setGen g0 (End.susp v gd l k0 c p fs).genState = z5 at *
    obtain ⟨og, nm, qn, eg, cg, dg, _⟩ := isg (own5.st.at_ _ ap4)
    refine go_of eg cg dg (by decide) ?_
    have I5' : Inv X (pins ++ priv4) σ3 H4 z5 := I5.pins_of fun q hq' => (List.mem_append.mp hq').elim (fun y => I5.pin q (List.mem_append_right _ y)) fun y => by
      have ge := own5.ge q y
      refine ⟨own5.st.at_ q y, own5.st.free q y, fun e => ?_, fun e => ?_, own5.nc q y⟩
      · rw [e] at ge; exact absurd oL (Nat.not_lt.mpr ge)
      · obtain ⟨_, o, ho, _⟩ := Ic.ok.funs.mem e
        exact absurd (Nat.lt_of_lt_of_le (Heap.lt_size ho) (Nat.le_trans Ic.sz ge)) (Nat.lt_irrefl _)
    refine wpAny_passesOwn hp (wpAny_mono (wpAny_asleep (hg.run (pins ++ priv4) { z5 with gens := z5.gens.map evil } σ3 H4 x v _ (regen' _ I5' (map_evil_bare bare5)) rv (turn i σ3 H3 hlt w3 x H4 hE hY))) (fun _ z6 q6 => ?_) fun y z6 q6 => ?_)
    rotate_left
    · obtain ⟨Ga, r6, q⟩ := q6
      exact hx y z6 Ga _ r6 q
    obtain ⟨Ga, r6, σ6, H6, I6, q6⟩ := q6
    have b6 : AllBare z6.gens := r6.bare I6.bare
    have I6' := regen I6 b6
    have l6 := r6.stay l5
    refine wpAny_passesOwn hp (wpAny_mono (wpAny_asleep (hb.run (pins ++ priv4) { z6 with gens := z6.gens.map evil } σ6 H6 _ (regen' _ I6' (map_evil_bare b6)) q6)) (fun f z7 q7 => ?_) fun y z7 q7 => ?_)
    rotate_left
    · obtain ⟨Gb, r7, q⟩ := q7
      exact hx y z7 Gb _ r7 q
    obtain ⟨Gb, r7, q7⟩ := q7
    have l7 := r7.stay l6
    have again : ∀ {σ7 : L2.St} {H7 : Hp}, Inv X (pins ++ priv4) σ7 H7 { z7 with gens := Gb } → Rly Mv H4 H7 ∧ W (i + 1) σ7 H7 → ∃ m', m' < m ∧ ∃ i σ' H' gs priv, m' + i = wg.n + 1 ∧ i ≤ wg.n ∧ Inv X pins σ' H' z7 ∧ W i σ' H' ∧ z7.gens[g0]? = some gs ∧ (gs.status = .fresh ∨ gs.status = .suspended) ∧ Own sc.heap.objs.size priv H' z7.heap ∧ (a, go) ∈ priv ∧ ∀ sw gd, Woke Xg sc.heap.objs.size priv gd sw H' → Goes (model X.prog X.w) X.A.in1 gs sw (Fm Xg sc.heap.objs.size X.A.in1 wg Mv (wg.n - i) i sw H' gd) := fun {σ7 H7} I7 n7 => by
      have I7' := regen I7 (r7.bare I7.bare)
      refine ⟨m - 1, by omega, i + 1, σ7, H7, _, priv4, by omega, hlt, I7'.unpinned, n7.2, l7, .inr rfl, ⟨⟨fun q hq' => (I7'.pin q (List.mem_append_right _ (List.mem_append_right _ hq'))).1, fun q hq' => (I7'.pin q (List.mem_append_right _ (List.mem_append_right _ hq'))).2.1⟩, own5.ge, own5.nc⟩, ap4, fun sw gq W' => ?_⟩
      rw [show wg.n - (i + 1) = d by omega, ← e1, ← e2]
      exact slp_eq.mp sl4 sw H7 gq W' n7.1
    cases f with
    | next => obtain ⟨σ7, H7, I7, n7⟩ := q7; exact again I7 n7
    | cont => obtain ⟨σ7, H7, I7, n7⟩ := q7; exact again I7 n7
    | brk => obtain ⟨σ7, H7, I7, n7⟩ := q7; exact ⟨σ7, H7, (regen I7 (r7.bare I7.bare)).unpinned, n7⟩
    | ret u => obtain ⟨y, σ7, H7, I7, ry, n7⟩ := q7; exact ⟨y, σ7, H7, (regen I7 (r7.bare I7.bare)).unpinned, ry, n7⟩
end
end Gw
end Ls
end
section
set_option Elab.async false
set_option autoImplicit false
set_option linter.all false
set_option maxRecDepth 100000
set_option maxHeartbeats 4000000
namespace Ls
namespace Gw
open PySem PySem.Spec PyProof.Rows L2 GenW
section
variable {X : Cx} {pins : List (Addr × Obj)} {σ : L2.St} {H H1 : Hp} {s s1 : Shared} {n : Nat} {D : Addr}
end
section
variable {X : Cx}
end
section
variable (P : Program) (w : World) (K : PySem.W.Frag) (mg : Str → Option Value) (base : Heap) (k : Nat)
structure GwM (C : Addr) (m : Str) (dvs : List V) (sp : SpW) : Prop where
  ex : ∃ f fd ps ds, Cls K C ∧ Meth K C m f ∧ GFw P w K mg base k f fd ps sp ∧ Binds K fd ps ds ∧ Vals dvs ds
end
section
variable {X : Cx} {k : Nat} {C f : Addr} {fd : FuncData} {ps : List Str} {sp : SpW} {dvs : List V} {ds : List Value} {m : Str} {pos apos : Pos} {o : Expr} {ta : TE}
theorem run_gfw {pins : List (Addr × Obj)} {σ : L2.St} {H : Hp} {s : Shared} {us : List Value} {vs : List V} {Mv : Addr → Prop} {R : Wg → Hp → Prop} {E1 : Value → Shared → Prop} (F : GFw X.prog X.w X.K X.mg X.base k f fd ps sp) (hr : Room k X.A) (hb : Binds X.K fd ps ds) (hd : Vals dvs ds)
    (I : Inv X pins σ H s) (r : Vals vs us) (h : sp (vs ++ dvs) H Mv fun wg => R wg H) : wpAny (model X.prog X.w) X.A (call (.ref f) us) (fun u z => ∃ H1 sc, Inv X pins σ H1 sc ∧ Made X.prog X.w k X.stack X.base H1 sc Mv (fun wg => R wg H1) u z) E1 s := by
  have r2 : Vals (vs ++ dvs) (us ++ ds) := r.append hd
  have hl2 : (us ++ ds).length = ps.length := by rw [← r2.length]; exact F.len _ _ _ _ h
  refine wpAny_call (codeAny_mono (F.run X.A X.stack s H ⟨us, []⟩ (us ++ ds) (vs ++ dvs) Mv (fun wg => R wg H) hr I.env0 (hb s us I.kIn hl2) r2 h) fun x z hq => ?_)
  cases x with
  | error e => exact False.elim hq
  | ok fl =>
    cases fl with
    | ret u => exact ⟨H, s, I, hq⟩
    | next => exact False.elim hq
    | brk => exact False.elim hq
    | cont => exact False.elim hq
def tMethW (C : Addr) (m : Str) (sp : SpW) (dvs : List V) (ta : TE) (t : TA) : TWg := fun σ H Mv R => ta σ H fun x H1 => ∃ a dx fs, x = .ref a ∧ H1 a = some (.ins C dx fs) ∧ fs.lookup m = none ∧ t σ H1 fun vs H2 => sp (x :: (vs ++ dvs)) H2 Mv fun wg => R wg H2
theorem pwg_m {pl : Sem Bool} {e : Expr} {es : List Expr} {t : TA} (c : GwM X.prog X.w X.K X.mg X.base k C m dvs sp) (hr : Room k X.A) (he : PE X o ta) (ha : PA X (e :: es) t)
    (hst : starEach (e :: es) X.env = (false, eval e X.env) :: starEach es X.env := by rfl) (hpl : (backTo pos (starEach es X.env)).any (·.1) = false := by rfl)
    (ht : eval (.Call (.Attribute o m apos) (e :: es) [] pos) X.env = (do
      let ov ← eval o X.env
      standAt apos.atName
      let (f, first) ← holding [ov] (getMethod ov m pl)
      callWith pos f first (backTo pos (starEach (e :: es) X.env)) (backToKw pos (keywordEach [] X.env))) := by rfl) : PWg X k (.Call (.Attribute o m apos) (e :: es) [] pos) (tMethW C m sp dvs ta t) := by
  obtain ⟨f, fd, ps, ds, c1, hm, F, hb, hd⟩ := c.ex
  refine ⟨fun pins s σ H Mv R I h => ?_⟩
  refine PySem.W.methodCall_KW (pl := pl) (thn (he.run pins s σ H _ I h) fun u s1 ⟨x, H1, I1, rx, a, dx, fs, ex, ea, l, q⟩ => ?_) ht
  subst ex
  obtain rfl : u = Value.ref a := rx
  refine getmeth_ok I1 ea c1 hm l ?_
  refine PySem.W.callWith_K (first := [.ref a]) (h₀ := X.base) I1.ok.mod.kin hm.kp (thn (ha.run pos pins s1 σ H1 _ I1 q) fun us s2 ⟨vs, H2, I2, r, q2⟩ => ⟨I2.kIn, ?_⟩) hst hpl
  exact run_gfw (us := .ref a :: us) (vs := .ref a :: vs) F hr hb hd I2 (.cons rfl r) q2
end
theorem gfw_fun {P : Program} {w : World} {K : PySem.W.Frag} {mg : Str → Option Value} {base : Heap} {k : Nat} {x qual : Str} {st : Stmt} {f : Addr} {fd : FuncData} {N ps : List Str} {sp : SpW} (F : Fun K x qual st f fd) (S : GScope N ps (defScope st)) (hcell : ∀ n, cellsFrom n (defScope st).names [] = [])
    (len : ∀ vs H Mv R, sp vs H Mv R → vs.length = ps.length)
    (hbody : ∀ (cdv : Value) (H : Hp) (vs : List V) (Mv : Addr → Prop) (R : Wg → Prop), sp vs H Mv R → ∃ wg, R wg ∧ ∀ (A : Around) (Mw : Addr → Prop) (outer : List Env) (n : Nat) (pn : List (Addr × Obj)), Room k (A.deeper (envOfC qual (defScope st) n f cdv)) → (∀ b, Mw b → Mv b ∨ H b = none) → Calm ⟨gwx P w K mg base N qual (defScope st) f cdv A outer n pn, n, A, wg, Mw⟩ →
      ∃ t, GWs ⟨gwx P w K mg base N qual (defScope st) f cdv A outer n pn, n, A, wg, Mw⟩ (defBody st) t ∧
        ∀ H2, Rly Mw H H2 → (∀ b, Mw b → H2 b ≠ none) → t { nx := fun i Hw _ H' => i = wg.n ∧ Ext Hw H', rt := fun i Hw v H' => v = .non ∧ i = wg.n ∧ Ext Hw H' } 0 H2 (start N vs) H2) : GFw P w K mg base (k + 1) f fd ps sp := by
  obtain ⟨oc, od, kV, doc, pm, an, cdv, ct, osl, rfl, lk, hcd⟩ := F.ex
  exact gfw_of lk hcd S hcell len (hbody cdv)
end Gw
end Ls
end
section
set_option Elab.async false
set_option autoImplicit false
set_option linter.all false
set_option maxRecDepth 100000
set_option maxHeartbeats 4000000
namespace Ls
open PySem PySem.Spec PyProof.Rows L2
theorem turn_long {P : Program} {w : World} {K : PySem.W.Frag} {tg : Expr} (it : Addr) (lo : Int) (n : Nat) : Turn P w K tg (Itr lo n) [it] it (fun i h => IsLongIter h it (lo + (i : Nat) * 1) ((n : Int) - (i : Nat)) 1) where
  mem := by simp
  obj := fun i h st b hb => by
    have e : b = it := by simpa using hb
    subst e
    exact ⟨_, st, fun v z => by
      have z' : Data.fields _ = Data.cell v := z
      cases z'⟩
  keep := fun i h h' st k => k it (by simp) _ st
  item := by
    intro X hP hw hK hc i pins s σ H E I hf st hg
    subst hP hw hK
    obtain ⟨f0, f1, f2, f3, f4, f5⟩ := hf it (by simp)
    have W := Walks.longrange (prog := X.prog) (w := X.w) (I.ok.hd hc) it lo 1 n
    refine W.item i s _ _ hg st fun v h' tk hv st' kk => ?_
    obtain ⟨t, rfl⟩ := hv
    have I1 : Inv X pins σ H { s with heap := h', toks := tk } := I.turned (fun b o hb e => kk b o (by simpa using hb) e) f0 f1 f3 f4 f5
    refine ⟨_, rfl, go_of (s := { s with heap := h', toks := tk }) (n := "longrange_iterator") st' rfl rfl (by decide) ⟨.int (lo + i), H, I1, ⟨t, ?_⟩, ⟨rfl, rfl⟩, st', fun b hb => (hf b hb).1⟩⟩
    rw [Int.mul_one]
  done := by
    intro X hP hw hK hc i pins s σ H E I hf st hg
    subst hP hw hK
    obtain ⟨f0, f1, f2, f3, f4, f5⟩ := hf it (by simp)
    exact wpAny_pyNext_long_end (I.ok.hd hc) st (by have : n ≤ i := hg; omega) fun h' eb => ⟨rfl, I.turned (t' := s.toks) (fun b o hb e => eb b o hb e) f0 f1 f3 f4 f5⟩
  self := fun _ _ _ _ _ st h => wpAny_pyIter_longiter st h
section
variable {X : Cx} {tg : Expr}
theorem long_it {pins : List (Addr × Obj)} {σ : L2.St} {H : Hp} {s : Shared} {R : It → Hp → Prop} {E : Value → Shared → Prop} {hi : Int} {t u v : Tok} {tk : Nat} (I : Inv X pins σ H s) (h1 : 2 ^ 63 ≤ hi)
    (q : R (Itr 0 hi.toNat) H) : wpAny (model X.prog X.w) X.A (pyIter (.ref s.heap.objs.size)) (PIE X pins σ tg R) E { s with heap := s.heap.push { cls := .type "range", data := .fields #[.int 0 t, .int hi u, .int 1 v] }, toks := tk } := by
  refine wpAny_pyIter_longrange (IsRange.new ..) ?_ ?_
  · unfold Builtin.Range.small
    have : Builtin.Range.rangeFitsLong hi = false := by
      unfold Builtin.Range.rangeFitsLong
      rw [Bool.and_eq_false_iff]
      exact .inr (decide_eq_false (by omega))
    simp only [this, Bool.and_false, Bool.false_and]
  have I1 : Inv X pins σ H { s with heap := s.heap.push { cls := .type "range", data := .fields #[.int 0 t, .int hi u, .int 1 v] }, toks := tk } := I.kept fun b o e => Heap.get?_push_of_some _ e
  refine ⟨(s.heap.push { cls := .type "range", data := .fields #[.int 0 t, .int hi u, .int 1 v] }).objs.size, [(s.heap.push { cls := .type "range", data := .fields #[.int 0 t, .int hi u, .int 1 v] }).objs.size], _, _, H, rfl,
    I1.kept (t' := tk) fun b o e => Heap.get?_push_of_some _ e, turn_long _ 0 hi.toNat, ?_, fun b hb => ?_, q⟩
  · have e1 : (0 : Int) + ((0 : Nat) : Int) * 1 = 0 := by simp
    have e2 : ((hi.toNat : Nat) : Int) - ((0 : Nat) : Int) = Builtin.Range.rangeSize 0 hi 1 := by rw [rangeSize_one]; split <;> omega
    show IsLongIter _ _ ((0 : Int) + ((0 : Nat) : Int) * 1) (((hi.toNat : Nat) : Int) - ((0 : Nat) : Int)) 1
    rw [e1, e2]
    exact Heap.get?_push_size _ rfl
  · have e : b = (s.heap.push { cls := .type "range", data := .fields #[.int 0 t, .int hi u, .int 1 v] }).objs.size := by simpa using hb
    subst e
    exact I1.fpOk (Nat.le_refl _) (I1.hok.fresh (Nat.le_refl _))
def iRng1L (ta : TA) : TI := fun σ H R => ta σ H fun vs H1 => ∃ j : Int, vs = [.int j] ∧ 2 ^ 63 ≤ j ∧ R (Itr 0 j.toNat) H1
theorem pi_range1L {a : Expr} {ta : TA} {p pos : Pos} (hg : Gl X "range") (hm : X.mg "range" = none) (ha : PA X [a] ta) (hs : starEach [a] X.env = [(false, eval a X.env)] := by rfl) : PI X tg (.Call (.Name "range" p) [a] [] pos) (iRng1L ta) := by
  refine ⟨fun pins s σ H R I h => ?_⟩
  refine Call_ (ld_blt I hg hm boot_range (PyProof.Rows.callWith_type1 (thn (ha.run pos pins s σ H _ I h) fun us s1 ⟨vs, H1, I1, r1, q1⟩ => ?_) hs rfl))
  obtain ⟨j, e, q1, q⟩ := q1
  subst e
  cases r1 with
  | cons r rr =>
    cases rr
    obtain ⟨t, rfl⟩ := r
    exact call_range_1 (long_it I1 q1 q)
end
end Ls
end
section
set_option Elab.async false
set_option autoImplicit false
set_option linter.all false
set_option maxRecDepth 100000
set_option maxHeartbeats 4000000
set_option pp.maxSteps 1500
namespace K09
open PySem PySem.Spec PyProof.Rows L2 Ls RowM
open C8 (pss_cut tCut)
open TL
theorem gfor_it {J : It} {n : Nat} {Gd : Hp → Prop} {Y : Nat → Hp → V → Hp → Prop} (w : Walk J n Gd Y) {g : TG} {tb : Gw.TGw} {D : Gw.Ge} {i : Nat} {Hw : Hp} {σ : L2.St} {H : Hp} (Pv : Nat → Nat → Hp → L2.St → Hp → Prop) (h0 : Pv 0 i Hw σ H) (hG : ∀ j i Hw σ H, j ≤ n → Pv j i Hw σ H → Gd H)
    (hs : ∀ j i Hw x σ H H', j < n → Pv j i Hw σ H → Y j H x H' → g x σ H' fun σ2 H2 => tb { D with nx := Pv (j + 1), ct := Pv (j + 1), bk := D.nx } i Hw σ2 H2) (hd : ∀ i Hw σ H, Pv n i Hw σ H → D.nx i Hw σ H) :
    ∃ W : Nat → Nat → Nat → Hp → L2.St → Hp → Prop, (∃ m, W 0 m i Hw σ H) ∧ ∀ j m i Hw σ H, W j m i Hw σ H →
      (J.stop j H ∧ D.nx i Hw σ H) ∨ (J.go j H ∧ ∃ N : Nat → Hp → L2.St → Hp → Prop, (∀ i' Hw' σ' H', N i' Hw' σ' H' → ∃ m', m' < m ∧ W (j + 1) m' i' Hw' σ' H') ∧ ∀ x H', J.yld j H x H' → g x σ H' fun σ2 H2 => tb { D with nx := N, ct := N, bk := D.nx } i Hw σ2 H2) := by
  refine ⟨fun j m i Hw σ H => m = n - j ∧ j ≤ n ∧ Pv j i Hw σ H, ⟨n, by simp, Nat.zero_le _, h0⟩, ?_⟩
  intro j m i Hw σ H hW
  obtain ⟨rfl, hj, p⟩ := hW
  have q := hG j i Hw σ H hj p
  by_cases hlt : j < n
  · exact .inr ⟨w.goes j H hlt q, Pv (j + 1), fun i' Hw' σ' H' p' => ⟨n - (j + 1), by omega, rfl, hlt, p'⟩, fun x H' y => hs j i Hw x σ H H' hlt p (w.yields j H x H' hlt q y)⟩
  · have e : j = n := by omega
    subst e
    exact .inl ⟨w.stops H q, hd i Hw σ H p⟩
def Lsts (Mv : Addr → Prop) (H : Hp) : Prop := ∀ b, Mv b → ∃ xs, H b = some (.lst xs)
theorem Lsts.not {Mv Mw : Addr → Prop} {H H2 : Hp} (h : Lsts Mv H) (hm : ∀ b, Mw b → Mv b ∨ H b = none) (r : Gw.Rly Mw H H2) : ∀ b o, H b = some o → (∀ xs, o ≠ .lst xs) → H2 b = some o := fun b o e n => r b o e fun z => by
  rcases hm b z with z | z
  · obtain ⟨xs, q⟩ := h b z
    rw [e] at q
    cases q
    exact n _ rfl
  · rw [e] at z; cases z
theorem RowAt.keepL {CR : Addr} {H H2 : Hp} {a : Addr} {f : Nat → Int} {s p : Nat} {d : Int} (h : RowAt CR H a f s p d) (k : ∀ b o, H b = some o → (∀ xs, o ≠ .lst xs) → H2 b = some o) : RowAt CR H2 a f s p d := by
  obtain ⟨dx, t, h1, h2⟩ := h.ex
  exact ⟨⟨dx, t, k _ _ h1 (fun xs z => nomatch z), k _ _ h2 (fun xs z => nomatch z)⟩, h.can, h.le⟩
def wgNm (f : Nat → Int) (n : Nat) : Gw.Wg := ⟨n, fun i H x H' => x = .int (f i) ∧ H' = H⟩
section
variable {P : Program} {w : World} {K : PySem.W.Frag} {mg : Str → Option Value} {base : Heap} {CE CN CT CB CR : Addr} {tM tP tF : Tok}
def spNumsW (CR : Addr) : Gw.SpW := fun vs H Mv R => ∃ (a : Addr) (f : Nat → Int) (s p : Nat) (d : Int) (n : Nat), vs = [.ref a, .int n] ∧ RowAt CR H a f s p d ∧ d.natAbs < big ∧ 2 ^ 63 ≤ n ∧ n < big ∧ Lsts Mv H ∧ R (wgNm f n)
theorem sc_Row_numbers : GScope N_Row_numbers ["self", "n"] (defScope s_Row_numbers) := gsc_Row_numbers
theorem ok_numsW {fa : Addr} {fd : FuncData} (F : Fun K "numbers" "Row.numbers" s_Row_numbers fa fd) (T : Tx K mg CE CN CT CB CR tM tP tF) (c_need_from : Cal P w K mg base (L2.CX P w) 3 "need_from" (spNeed CN)) (o_number : OwnM P w K mg base CX0 3 CR "number" (spNum CR)) :
    Gw.GFw P w K mg base 6 fa fd ["self", "n"] (spNumsW CR) := by
  refine Gw.gfw_fun F sc_Row_numbers (fun n => rfl) (fun vs H Mv R h => ?_) (fun cdv H vs Mv R h => ?_)
  · obtain ⟨a, f, s, p, d, n, rfl, _⟩ := h
    rfl
  · obtain ⟨a, f, s, p, d, n, rfl, h, hd, hn1, hn2, hL, hR⟩ := h
    refine ⟨wgNm f n, hR, fun A Mw outer nn pn hr hmw C => ?_⟩
    refine ⟨_, (Gw.gws_cons (Gw.gw_ps C (fun _ _ => (ps_expr (pe_cal c_need_from (hr.mono (by decide)) (by rfl) passN (pa_cons (pv 1) (pa_cons pe_int pa_nil))))))
      (Gw.gws_one (Gw.gw_for C (fun _ _ => (pi_range1L rfl (T.bn _ (by decide +kernel)) (pa_cons (pv 1) pa_nil))) (fun _ _ => (pg_name (i := 2) sc_Row_numbers.nd rfl (by first | exact Or.inl rfl | exact Or.inr rfl)))
      (Gw.gws_one (Gw.gw_yield C (fun _ _ => (pe_om o_number (hr.mono (by decide)) (pv 0) pass0 (pa_cons (pv 2) pa_nil)))))))), fun H2 r2 hmn => ?_⟩
    have keep := fun (H' : Hp) (q : Gw.Rly Mw H H') => hL.not hmw q
    refine ⟨_, rfl, .int n, .int n, 0, rfl, .int _, fun i e hi => ?_, fun hb => absurd (hb n rfl) (by omega)⟩
    refine ⟨_, rfl, n, rfl, by omega, ?_⟩
    rw [Int.toNat_natCast]
    refine gfor_it (walk_range (n := n)) (fun j i Hw σ' H' => ∃ x2, σ' = [some (.ref a), some (.int n), x2] ∧ i = j ∧ Gw.Rly Mw H H' ∧ H' = Hw) ⟨_, rfl, rfl, r2, rfl⟩ (fun _ _ _ _ _ _ _ => trivial) ?_ ?_
    · rintro j i Hw v σ' H3 _ hj ⟨x2, rfl, rfl, r3, rfl⟩ ⟨rfl, rfl⟩
      have h3 := h.keepL (keep _ r3)
      obtain ⟨dx, t, h1, h2⟩ := h3.ex
      refine ⟨_, rfl, a, dx, _, rfl, h1, rfl, _, rfl, a, f, s, p, d, i, by show [V.ref a, V.int (0 + (i : Int))] = _; rw [Int.zero_add], h3, hd, by omega, hj, Ext.rfl', ⟨rfl, rfl⟩, fun H4 r4 => ?_⟩
      exact ⟨_, rfl, rfl, fun b o e n => r4 b o (r3 b o e n) n, rfl⟩
    · rintro i Hw σ' H3 ⟨x2, rfl, rfl, r3, rfl⟩
      exact ⟨rfl, Ext.rfl'⟩
end
end K09
end
section
set_option Elab.async false
set_option autoImplicit false
set_option linter.all false
set_option maxRecDepth 100000
set_option maxHeartbeats 4000000
set_option pp.maxSteps 1500
namespace K09
open PySem PySem.Spec PyProof.Rows L2 Ls RowM
open C8 (pss_cut tCut)
open TL
def cds (d : Int) (p i : Nat) : List Nat := ((List.range i).map (· + 1)).filter fun k => decide (p % k = 0) && decide (d % (k : Int) = 0)
theorem cds_snoc (d : Int) (p i : Nat) : cds d p (i + 1) = cds d p i ++ (if (decide (p % (i + 1) = 0) && decide (d % ((i + 1 : Nat) : Int) = 0)) = true then [i + 1] else []) := by
  unfold cds
  rw [List.range_succ, List.map_append, List.filter_append]
  congr 1
  show List.filter _ [i + 1] = _
  rw [List.filter_cons]
  rfl
theorem cds_mem {d : Int} {p i k : Nat} : k ∈ cds d p i ↔ (1 ≤ k ∧ k ≤ i) ∧ p % k = 0 ∧ d % (k : Int) = 0 := by
  unfold cds
  rw [List.mem_filter, List.mem_map, Bool.and_eq_true, decide_eq_true_eq, decide_eq_true_eq]
  constructor
  · rintro ⟨⟨j, hj, rfl⟩, h⟩
    have := List.mem_range.mp hj
    exact ⟨⟨by omega, by omega⟩, h⟩
  · rintro ⟨⟨a, b⟩, h⟩
    exact ⟨⟨k - 1, List.mem_range.mpr (by omega), by omega⟩, h⟩
theorem cds_len (d : Int) (p i : Nat) : (cds d p i).length ≤ i := by
  unfold cds
  refine Nat.le_trans (List.length_filter_le _ _) ?_
  rw [List.length_map, List.length_range]
  exact Nat.le_refl _
theorem cds_max {d : Int} {p : Nat} (hp : 1 ≤ p) {m : Int} (h1 : m ∈ (cds d p p).map (Int.ofNat ·)) (h2 : ∀ y, y ∈ (cds d p p).map (Int.ofNat ·) → y ≤ m) : m = (Nat.gcd d.natAbs p : Nat) := by
  obtain ⟨k, hk, rfl⟩ := List.mem_map.mp h1
  obtain ⟨⟨k1, k2⟩, k3, k4⟩ := cds_mem.mp hk
  have g1 : 1 ≤ Nat.gcd d.natAbs p := Nat.gcd_pos_of_pos_right _ hp
  have g2 : Nat.gcd d.natAbs p ≤ p := Nat.gcd_le_right _ hp
  have a : k ∣ Nat.gcd d.natAbs p := Nat.dvd_gcd (Int.ofNat_dvd_left.mp (Int.dvd_of_emod_eq_zero k4)) (Nat.dvd_of_mod_eq_zero k3)
  have b := h2 _ (List.mem_map.mpr ⟨Nat.gcd d.natAbs p, cds_mem.mpr ⟨⟨g1, g2⟩, Nat.mod_eq_zero_of_dvd (Nat.gcd_dvd_right _ _), Int.emod_eq_zero_of_dvd (Int.ofNat_dvd_left.mpr (Nat.gcd_dvd_left _ _))⟩, rfl⟩)
  have c := Nat.le_of_dvd g1 a
  have b : ((Nat.gcd d.natAbs p : Nat) : Int) ≤ (k : Int) := b
  show (k : Int) = _
  omega
section
variable {P : Program} {w : World} {K : PySem.W.Frag} {mg : Str → Option Value} {base : Heap} {CE CN CT CB CR : Addr} {tM tP tF : Tok}
def spLpa : Sp := fun vs H Q _ => ∃ (d : Int) (p : Nat), vs = [.int d, .int p] ∧ 1 ≤ p ∧ p ≤ 1000 ∧ d.natAbs.log2 < 1920 ∧ ∀ t H', Ext H H' → H' t = some (.tup [.int (d / (Nat.gcd d.natAbs p : Nat)), .int ((p / Nat.gcd d.natAbs p : Nat))]) → Q (.ref t) H'
abbrev s__law_pace : Stmt := top 39
abbrev N__law_pace : List Str := ["_law_gain", "_law_few", "_law_common", "_law_k"]
theorem sc__law_pace : FnScope N__law_pace ["_law_gain", "_law_few"] (defScope s__law_pace) := ⟨rfl, rfl, rfl, by decide +kernel, rfl, by decide +kernel, by decide +kernel⟩
theorem ok_lpa {fa : Addr} {fd : FuncData} (F : Fun K "_law_pace" "_law_pace" s__law_pace fa fd) (T : Tx K mg CE CN CT CB CR tM tP tF) : FnOk P w K mg base CX0 1 fa fd ["_law_gain", "_law_few"] spLpa := by
  refine F.ok sc__law_pace (fun vs H Q E h => ?_) (fun cdv A outer s0 H vs Q E hr h => ?_)
  · obtain ⟨d, p, rfl, _⟩ := h
    rfl
  · obtain ⟨d, p, rfl, hp, hp2, _, k⟩ := h
    refine ⟨_, (pss_cons (ps_set (i := 2) sc__law_pace.nd rfl (by first | exact Or.inl rfl | exact Or.inr rfl) (pe_callB (cr_max rfl) (by rfl) (T.bn _ (by decide +kernel)) (by decide +kernel) (pa_cons (pe_lc (own := [("_law_k", 3)]) rfl sc__law_pace.nd (pi_range2 rfl (T.bn _ (by decide +kernel)) (pa_cons pe_int (pa_cons (pe_op op_add (pv 1) pe_int) pa_nil))) (blkOk_by (own := [("_law_k", 3)]) (N := N__law_pace) (sc := defScope s__law_pace) (by decide +kernel)) (fun _ _ _ _ _ => (pg_name (i := 3) sc__law_pace.nd rfl (by first | exact Or.inl rfl | exact Or.inr rfl))) (fun _ _ _ _ _ => pts_one ((pw_and (pt_cmpR op_eq (pe_op op_mod (pe_callTy call_int1 (by rfl) (T.bn _ (by decide +kernel)) (by decide +kernel) (pa_cons (pv 1) pa_nil)) (pv 3)) pe_int (nomark _)) (pw_and1 (pt_cmpR op_eq (pe_op op_mod (pe_callTy call_int1 (by rfl) (T.bn _ (by decide +kernel)) (by decide +kernel) (pa_cons (pv 0) pa_nil)) (pv 3)) pe_int (nomark _))))).pt) (fun _ _ _ _ _ => (pe_callTy call_int1 (by rfl) (T.bn _ (by decide +kernel)) (by decide +kernel) (pa_cons (pv 3) pa_nil)))) pa_nil)))
      (pss_one (ps_ret (pe_tup (pa_cons (pe_op op_fdiv (pv 0) (pv 2)) (pa_cons (pe_op op_fdiv (pv 1) (pv 2)) pa_nil)))))), ?_⟩
    have h4 : sizeLine = 16777216 := sizeLine_eq
    refine ⟨_, rfl, _, _, rfl, rfl, _, _, rfl, ⟨by omega, by omega, by omega, by omega⟩, fun D hD => ?_⟩
    rw [show ((p : Int) + 1 - 1).toNat = p by omega]
    refine lc_it walk_range (fun i Hx => Hx = upd H D (.lst ((cds d p i).map fun k => V.int (k : Nat)))) rfl (fun _ _ _ _ => trivial) ?_ ?_
    · rintro i x Hx H' hi rfl ⟨rfl, rfl⟩
      have i1 : (0 : Int) < 1 + (i : Int) := by omega
      refine ⟨rfl, _, rfl, .inl ⟨_, rfl, _, rfl, _, _, rfl, rfl, i1, ?_⟩⟩
      have hi : i < p := hi
      have l := cds_len d p i
      have e1 : (p : Int) % (1 + (i : Int)) = ((p % (i + 1) : Nat) : Int) := by rw [Int.natCast_emod, Int.natCast_add, Int.add_comm]; rfl
      have e2 : (1 : Int) + (i : Int) = ((i + 1 : Nat) : Int) := by omega
      have no : ¬ (p % (i + 1) = 0 ∧ d % ((i + 1 : Nat) : Int) = 0) → cds d p (i + 1) = cds d p i := fun h => by
        rw [cds_snoc, if_neg (by rw [Bool.and_eq_true, decide_eq_true_eq, decide_eq_true_eq]; exact h), List.append_nil]
      refine ⟨rfl, _, rfl, ?_⟩
      by_cases q1 : p % (i + 1) = 0
      · refine iteYes (decide_eq_true (by show V.int ((p : Int) % (1 + (i : Int))) = _; rw [e1, q1]; rfl)) ?_
        refine ⟨_, rfl, .inl ⟨_, rfl, _, rfl, _, _, rfl, rfl, i1, ?_⟩⟩
        refine ⟨rfl, _, rfl, ?_⟩
        by_cases q2 : d % ((i + 1 : Nat) : Int) = 0
        · refine iteYes (decide_eq_true (by show V.int (d % (1 + (i : Int))) = _; rw [e2, q2])) ?_
          refine ⟨_, rfl, .inl ⟨_, rfl, _, upd_same, by rw [List.length_map]; omega, ?_⟩⟩
          show upd (upd H D _) D _ = _
          rw [upd_upd, cds_snoc, if_pos (by rw [Bool.and_eq_true, decide_eq_true_eq, decide_eq_true_eq]; exact ⟨q1, q2⟩), List.map_append, e2]
          rfl
        · refine iteNo (decide_eq_false fun z => q2 (by rw [← e2]; exact V.int.inj z)) ?_
          show upd H D _ = _
          rw [no fun h => q2 h.2]
      · refine iteNo (decide_eq_false fun z => q1 (by have z : (p : Int) % (1 + (i : Int)) = 0 := V.int.inj z; rw [e1] at z; omega)) ?_
        show upd H D _ = _
        rw [no fun h => q1 h.1]
    · rintro Hx rfl
      have l := cds_len d p p
      refine ⟨D, (cds d p p).map (Int.ofNat ·), rfl, ?_, ?_, fun m m1 m2 => ?_⟩
      · rw [List.map_map]
        exact SqL.of upd_same
      · rw [List.length_map]
        exact List.length_pos_of_mem (cds_mem.mpr ⟨⟨Nat.le_refl 1, hp⟩, Nat.mod_one _, Int.emod_one _⟩)
      have g1 : 1 ≤ Nat.gcd d.natAbs p := Nat.gcd_pos_of_pos_right _ hp
      have g2 : Nat.gcd d.natAbs p ≤ p := Nat.gcd_le_right _ hp
      rw [cds_max hp m1 m2]
      refine ⟨_, rfl, _, rfl, _, _, rfl, rfl, ⟨by omega, by omega⟩, _, rfl, _, rfl, _, _, rfl, rfl, ⟨by omega, by omega⟩, (by show 2 ≤ sizeLine; decide), fun u nu => ?_⟩
      refine k u _ ((Ext.upd hD).trans (Ext.upd nu)) ?_
      rw [upd_same, Int.natCast_ediv]
def spLro (CR : Addr) : Sp := fun vs H Q _ => ∃ (L : Addr) (xs : List Int) (p : Nat) (d : Int) (b : Bool), vs = [.ref L, .bl b] ∧ ToldAt H L xs p d ∧ ∀ x H' s q e, s ≤ xs.length - p → q ≤ p → e.natAbs ≤ d.natAbs → Ext H H' → RowAt CR H' x (ext xs p d) s q e → Q (.ref x) H'
abbrev s__law_row : Stmt := top 41
abbrev N__law_row : List Str := ["_law_told_here", "_law_is_list", "_law_some", "_law_span", "_law_pace_so"]
theorem sc__law_row : FnScope N__law_row ["_law_told_here", "_law_is_list"] (defScope s__law_row) := ⟨rfl, rfl, rfl, by decide +kernel, rfl, by decide +kernel, by decide +kernel⟩
theorem ok_lro {fa : Addr} {fd : FuncData} (F : Fun K "_law_row" "_law_row" s__law_row fa fd) (T : Tx K mg CE CN CT CB CR tM tP tF) (c_Row : Mkc P w K mg base (L2.CX P w) 4 CR "Row" (spRow0 CT CR)) : FnOk P w K mg base CX0 6 fa fd ["_law_told_here", "_law_is_list"] (spLro CR) := by
  refine F.ok sc__law_row (fun vs H Q E h => ?_) (fun cdv A outer s0 H vs Q E hr h => ?_)
  · obtain ⟨L, xs, p, d, b, rfl, _⟩ := h
    rfl
  · obtain ⟨L, xs, p, d, b, rfl, ht, k⟩ := h
    obtain ⟨⟨M, hL, hM⟩, h1, hp, hx, _⟩ := id ht
    refine ⟨_, (pss_cons (ps_asg (pv 0) (pg_lst rfl (pgs_cons (pg_name (i := 2) sc__law_row.nd rfl (by first | exact Or.inl rfl | exact Or.inr rfl)) (pgs_cons (pg_name (i := 3) sc__law_row.nd rfl (by first | exact Or.inl rfl | exact Or.inr rfl)) (pgs_cons (pg_name (i := 4) sc__law_row.nd rfl (by first | exact Or.inl rfl | exact Or.inr rfl)) pgs_nil)))))
      (pss_one (ps_ret (pe_mkc c_Row (hr.mono (by decide)) (by rfl) passN (pa_cons (pe_ifExp (pt_val (pv 1)) (pe_callTy call_list_of (by rfl) (T.bn _ (by decide +kernel)) (by decide +kernel) (pa_cons (pv 2) pa_nil)) (pe_callTy call_tuple_of (by rfl) (T.bn _ (by decide +kernel)) (by decide +kernel) (pa_cons (pv 2) pa_nil))) (pa_cons (pv 3) (pa_cons (pv 4) pa_nil))))))), ?_⟩
    refine ⟨_, rfl, L, _, rfl, SqL.of hL, rfl, _, _, rfl, _, _, rfl, _, _, rfl, rfl, ?_⟩
    rw [fl_ints xs p d] at hM
    cases b with
    | true =>
      refine ⟨_, rfl, _, rfl, iteYes rfl ?_⟩
      refine ⟨_, rfl, M, _, rfl, .inl (SqL.of hM), fun q nq => ?_⟩
      have e1 := Ext.upd (o := .lst (fl (ext xs p d) xs.length)) nq
      refine ⟨_, rfl, _, rfl, ?_⟩
      exact mk_row2 (.inl upd_same) (ext_eq h1 hp) hp (by omega) fun s' p' d' x H' b1 b2 b3 e r => ⟨rfl, k x H' s' p' d' b1 b2 b3 (e1.trans e) r⟩
    | false =>
      refine ⟨_, rfl, _, rfl, iteNo rfl ?_⟩
      refine ⟨_, rfl, M, _, rfl, .inl ⟨SqL.of hM, fun q nq => ?_⟩⟩
      have e1 := Ext.upd (o := .tup (fl (ext xs p d) xs.length)) nq
      refine ⟨_, rfl, _, rfl, ?_⟩
      exact mk_row2 (.inr upd_same) (ext_eq h1 hp) hp (by omega) fun s' p' d' x H' b1 b2 b3 e r => ⟨rfl, k x H' s' p' d' b1 b2 b3 (e1.trans e) r⟩
end
end K09
end
section
set_option Elab.async false
set_option autoImplicit false
set_option linter.all false
set_option maxRecDepth 100000
set_option maxHeartbeats 4000000
set_option pp.maxSteps 1500
namespace K09
open PySem PySem.Spec PyProof.Rows L2 Ls RowM
open C8 (pss_cut tCut)
open TL
theorem ext_again {f : Nat → Int} {L q : Nat} {e : Int} (hq : EQ f (L - q) q e) (h : q ≤ L) : ext ((List.range L).map f) q e = f := by
  have l : ((List.range L).map f).length = L := by rw [List.length_map, List.length_range]
  have e1 := ext_eq (xs := (List.range L).map f) (d := e) hq.pos (by rw [l]; exact h)
  rw [l] at e1
  refine e1.same_fun hq fun n hn => ?_
  rw [ext_at (by rw [l]; omega), List.getD_eq_getElem?_getD, List.getElem?_map, List.getElem?_range (by omega)]
  rfl
theorem ext_small {xs : List Int} {p : Nat} {d : Int} (h1 : 1 ≤ p) (hp : p ≤ xs.length) (h : ∀ x ∈ xs, x.natAbs ≤ 2 ^ 150) (hd : d.natAbs ≤ 2 ^ 150) {n : Nat} (hn : n < 200) : (ext xs p d n).natAbs < 2 ^ 200 := by
  have g : ∀ i, i < xs.length → (xs.getD i 0).natAbs ≤ 2 ^ 150 := fun i hi => by
    rw [List.getD_eq_getElem?_getD, List.getElem?_eq_getElem hi]
    exact h _ (List.getElem_mem hi)
  have e0 : (2 : Nat) ^ 150 < 2 ^ 200 := by decide +kernel
  unfold ext
  by_cases hl : n < xs.length
  · rw [if_pos hl]
    exact Nat.lt_of_le_of_lt (g n hl) e0
  · rw [if_neg hl]
    have hm := Nat.mod_lt (n - xs.length) h1
    have a1 := g (xs.length - p + (n - xs.length) % p) (by omega)
    have a2 : (n - xs.length) / p ≤ n := Nat.le_trans (Nat.div_le_self _ _) (Nat.sub_le _ _)
    have a3 : ((((n - xs.length) / p + 1 : Nat) : Int) * d).natAbs ≤ 200 * 2 ^ 150 := by
      rw [Int.natAbs_mul]
      exact Nat.mul_le_mul (show (n - xs.length) / p + 1 ≤ 200 by omega) hd
    have a4 : (2 : Nat) ^ 150 + 200 * 2 ^ 150 < 2 ^ 200 := by decide +kernel
    have a5 := Int.natAbs_add_le (xs.getD (xs.length - p + (n - xs.length) % p) 0) ((((n - xs.length) / p + 1 : Nat) : Int) * d)
    exact Nat.lt_of_le_of_lt a5 (Nat.lt_of_le_of_lt (Nat.add_le_add a1 a3) a4)
section
variable {P : Program} {w : World} {K : PySem.W.Frag} {mg : Str → Option Value} {base : Heap} {CE CN CT CB CR : Addr} {tM tP tF : Tok}
def spLot : Sp := fun vs H Q _ => ∃ (pn c L : Addr) (n : Nat) (xs : List Int) (p : Nat) (d : Int), vs = [.ref pn, .ref L] ∧ PenAt H pn c n ∧ n + 10 < 1048576 ∧ ToldK pn c H L xs p d ∧ xs.length ≤ 30 ∧
  ∀ (L2 : Addr) (ys : List Int) (q : Nat) (e : Int) (H' : Hp), ToldAt H' L2 ys q e → ys.length ≤ 100 → ext ys q e = ext xs p d → PenAt H' pn c (n + 10) → Keep pn c H H' → Q (.ref L2) H'
abbrev s__law_other : Stmt := top 40
abbrev N__law_other : List Str := ["_law_pen_here", "_law_told_here", "_law_some", "_law_span", "_law_pace_so", "_law_times", "_law_many", "_law_n"]
theorem sc__law_other : FnScope N__law_other ["_law_pen_here", "_law_told_here"] (defScope s__law_other) := ⟨rfl, rfl, rfl, by decide +kernel, rfl, by decide +kernel, by decide +kernel⟩
theorem ok_lot {fa : Addr} {fd : FuncData} (F : Fun K "_law_other" "_law_other" s__law_other fa fd) (T : Tx K mg CE CN CT CB CR tM tP tF) (c__law_draw : Cal P w K mg base CX0 1 "_law_draw" spDraw) (c__law_at : Cal P w K mg base CX0 1 "_law_at" spAt) : FnOk P w K mg base CX0 3 fa fd ["_law_pen_here", "_law_told_here"] spLot := by
  refine F.ok sc__law_other (fun vs H Q E h => ?_) (fun cdv A outer s0 H vs Q E hr h => ?_)
  · obtain ⟨pn, c, L, n, xs, p, d, rfl, _⟩ := h
    rfl
  · obtain ⟨pn, c, L, n, xs, p, d, rfl, hp0, hn, ht, hx, k⟩ := h
    obtain ⟨M, hL, hM, nL1, nL2, nM1, nM2⟩ := ht.ex
    have h1 := ht.h1
    have hp := ht.hp
    have lx : (xs.map V.int).length = xs.length := List.length_map _
    refine ⟨_, (pss_cons (ps_asg (pv 1) (pg_lst rfl (pgs_cons (pg_name (i := 2) sc__law_other.nd rfl (by first | exact Or.inl rfl | exact Or.inr rfl)) (pgs_cons (pg_name (i := 3) sc__law_other.nd rfl (by first | exact Or.inl rfl | exact Or.inr rfl)) (pgs_cons (pg_name (i := 4) sc__law_other.nd rfl (by first | exact Or.inl rfl | exact Or.inr rfl)) pgs_nil)))))
      (pss_cons (ps_set (i := 5) sc__law_other.nd rfl (by first | exact Or.inl rfl | exact Or.inr rfl) (pe_op op_add pe_int (pe_cal c__law_draw (hr.mono (by decide)) (by rfl) pass0 (pa_cons (pv 0) (pa_cons pe_int pa_nil)))))
      (pss_cons (ps_set (i := 6) sc__law_other.nd rfl (by first | exact Or.inl rfl | exact Or.inr rfl) (pe_op op_add (pe_op op_add (pe_callB call_len_seq (by rfl) (T.bn _ (by decide +kernel)) (by decide +kernel) (pa_cons (pv 2) pa_nil)) (pe_op op_mul (pe_op op_sub (pv 5) pe_int) (pv 3))) (pe_cal c__law_draw (hr.mono (by decide)) (by rfl) pass0 (pa_cons (pv 0) (pa_cons pe_int pa_nil)))))
      (pss_one (ps_ret (pe_lst (pa_cons (pe_lc (own := [("_law_n", 7)]) rfl sc__law_other.nd (pi_range1 rfl (T.bn _ (by decide +kernel)) (pa_cons (pv 6) pa_nil)) (blkOk_by (own := [("_law_n", 7)]) (N := N__law_other) (sc := defScope s__law_other) (by decide +kernel)) (fun _ _ _ _ _ => (pg_name (i := 7) sc__law_other.nd rfl (by first | exact Or.inl rfl | exact Or.inr rfl))) (fun _ _ _ _ _ => pts_nil) (fun _ _ _ _ _ => (pe_cal c__law_at (hr.mono (by decide)) (by rfl) pass0 (pa_cons (pv 1) (pa_cons (pv 7) pa_nil))))) (pa_cons (pe_op op_mul (pv 5) (pv 3)) (pa_cons (pe_op op_mul (pv 5) (pv 4)) pa_nil))))))))), ?_⟩
    refine ⟨_, rfl, L, _, rfl, SqL.of hL, rfl, _, _, rfl, _, _, rfl, _, _, rfl, rfl, ?_⟩
    refine ⟨_, rfl, pn, c, n, 3, rfl, hp0, by omega, by decide, by decide, fun j H1 j0 j1 hp1 kp1 => ⟨_, _, rfl, rfl, ?_⟩⟩
    obtain ⟨t, rfl⟩ : ∃ t : Nat, j = t := ⟨j.toNat, by omega⟩
    have hM1 := kp1 _ _ hM nM1 nM2
    have ht1 := ht.keep kp1
    refine ⟨_, rfl, M, _, rfl, .inl (SqL.of hM1), ?_⟩
    refine ⟨_, rfl, _, _, rfl, rfl, _, rfl, _, _, rfl, rfl, .inl ⟨by omega, by omega⟩, _, _, rfl, rfl, ?_⟩
    refine ⟨_, rfl, pn, c, n + 1, 5, rfl, hp1, by omega, by decide, by decide, fun j2 H2 b0 b1 hp2 kp2 => ⟨_, _, rfl, rfl, ?_⟩⟩
    obtain ⟨u, rfl⟩ : ∃ u : Nat, j2 = u := ⟨j2.toNat, by omega⟩
    have ht2 := ht1.keep kp2
    have e1 : ((xs.length : Nat) : Int) + (1 + (t : Int) - 1) * (p : Int) + (u : Int) = ((xs.length + t * p + u : Nat) : Int) := by
      rw [show (1 : Int) + (t : Int) - 1 = t by omega]
      push_cast
      rfl
    show gName 6 (V.int ((((xs.map V.int).length : Nat) : Int) + (1 + (t : Int) - 1) * (p : Int) + (u : Int))) _ _ _
    rw [lx, e1]
    have t2 : t ≤ 2 := by omega
    have tp : t * p ≤ 2 * 30 := Nat.mul_le_mul t2 (by omega)
    obtain ⟨N, hN⟩ : ∃ N, xs.length + t * p + u = N := ⟨_, rfl⟩
    rw [hN]
    have hN2 : N ≤ 100 := by omega
    have tpN : (1 + t) * p ≤ N := by rw [Nat.add_mul, Nat.one_mul]; omega
    have h4 : sizeLine = 16777216 := sizeLine_eq
    refine ⟨_, rfl, _, rfl, by omega, by omega, fun D hD => ?_⟩
    rw [Int.toNat_natCast]
    refine lc_it walk_range (fun i Hx => Hx = upd H2 D (.lst (((List.range i).map (ext xs p d)).map V.int))) rfl (fun _ _ _ _ => trivial) ?_ ?_
    · rintro i x Hx H' hi rfl ⟨rfl, rfl⟩
      have hi : i < N := hi
      have tk := ht2.keep (Keep.ext (p := pn) (c := c) (Ext.upd (o := .lst (((List.range i).map (ext xs p d)).map V.int)) hD))
      refine ⟨rfl, _, rfl, _, rfl, L, xs, p, d, 0 + i, rfl, tk.here, Nat.lt_of_lt_of_le (show 0 + i < 128 by omega) (by decide), ?_⟩
      refine ⟨_, upd_same, by rw [List.length_map, List.length_map, List.length_range]; omega, ?_⟩
      show upd (upd H2 D _) D _ = _
      rw [upd_upd, List.range_succ, List.map_append, List.map_append, Nat.zero_add]
      rfl
    rintro Hx rfl
    have e2 := Ext.upd (o := .lst (((List.range N).map (ext xs p d)).map V.int)) hD
    refine ⟨_, rfl, _, rfl, _, _, rfl, rfl, .inl ⟨by omega, by omega⟩, _, rfl, _, rfl, _, _, rfl, rfl, .inl ⟨by omega, by omega⟩, (by show 3 ≤ sizeLine; decide), fun L2 nL => ?_⟩
    have e3 := Ext.upd (o := .lst [V.ref D, V.int ((1 + (t : Int)) * (p : Int)), V.int ((1 + (t : Int)) * d)]) nL
    have eq1 : (1 + (t : Int)) * (p : Int) = (((1 + t) * p : Nat) : Int) := by push_cast; rfl
    have eq2 : (1 + (t : Int)) * d = ((1 + t : Nat) : Int) * d := by push_cast; rfl
    have l2 : ((List.range N).map (ext xs p d)).length = N := by rw [List.length_map, List.length_range]
    have kp : Keep pn c H _ := (kp1.trans kp2).trans (Keep.ext (e2.trans e3))
    refine k L2 ((List.range N).map (ext xs p d)) ((1 + t) * p) (((1 + t : Nat) : Int) * d) _ ⟨⟨D, ?_, e3 _ _ upd_same⟩, ?_, by rw [l2]; exact tpN, by rw [l2]; omega, ?_, ?_⟩ (by rw [l2]; exact hN2) ?_ ((hp2.ext (e2.trans e3)).mono (by omega)) kp
    · rw [← eq1, ← eq2]
      exact upd_same
    · exact Nat.le_trans h1 (Nat.le_mul_of_pos_left p (by omega))
    · rw [Int.natAbs_mul]
      exact Nat.lt_of_le_of_lt (Nat.mul_le_mul (show 1 + t ≤ 3 by omega) ht.hd) (by decide +kernel)
    · intro x hx
      obtain ⟨i, hi, rfl⟩ := List.mem_map.mp hx
      have := List.mem_range.mp hi
      exact ext_small h1 hp ht.hn ht.hd (by omega)
    · refine ext_again (((ext_eq h1 hp).up ?_).times (by omega)) tpN
      rw [Nat.add_mul, Nat.one_mul]
      omega
end
end K09
end
section
set_option Elab.async false
set_option autoImplicit false
set_option linter.all false
set_option maxRecDepth 100000
set_option maxHeartbeats 4000000
set_option pp.maxSteps 1500
namespace K09
open PySem PySem.Spec PyProof.Rows L2 Ls RowM
open C8 (pss_cut tCut)
open TL
def flD (f : Nat → Int) (L : Nat) : List PyData := (List.range L).map fun i => .int (f i)
theorem tvs_fl {H : Hp} (f : Nat → Int) : ∀ l : List Nat, TVs H (l.map fun i => V.int (f i)) (l.map fun i => PyData.int (f i))
  | [] => .nil
  | i :: r => .cons (.int _) (tvs_fl f r)
theorem shw_fl {f : Nat → Int} {L : Nat} (h : ∀ n, n < L → (f n).natAbs < 10 ^ 70) : (∀ d ∈ flD f L, Shw 71 d) ∧ ∀ d ∈ flD f L, d.depth ≤ 0 := by
  refine ⟨fun d hd => ?_, fun d hd => ?_⟩
  · obtain ⟨i, hi, rfl⟩ := List.mem_map.mp hd
    exact Shw.int10 (by decide) (h i (List.mem_range.mp hi)) (by decide)
  · obtain ⟨i, hi, rfl⟩ := List.mem_map.mp hd
    exact Nat.zero_le _
theorem flD_len (f : Nat → Int) (L : Nat) : (flD f L).length = L := by unfold flD; simp
theorem RowAt.keepP {CR : Addr} {H H2 : Hp} {a pn c : Addr} {n : Nat} {f : Nat → Int} {s p : Nat} {d : Int} (h : RowAt CR H a f s p d) (hp : PenAt H pn c n) (k : Keep pn c H H2) : RowAt CR H2 a f s p d := by
  obtain ⟨dx, t, h1, h2⟩ := h.ex
  have keepR : ∀ {b : Addr} {o : HO}, H b = some o → (∀ zs, o ≠ .lst zs) → H2 b = some o := fun {b o} e n => by
    obtain ⟨ns, x1, x2, y1, y2, _⟩ := hp
    exact k b o e (fun z => by rw [z, y1] at e; exact n _ (Option.some.inj e).symm) (fun z => by rw [z, y2] at e; exact n _ (Option.some.inj e).symm)
  exact ⟨⟨dx, t, keepR h1 (fun zs z => nomatch z), keepR h2 (fun zs z => nomatch z)⟩, h.can, h.le⟩
section
variable {P : Program} {w : World} {K : PySem.W.Frag} {mg : Str → Option Value} {base : Heap} {CE CN CT CB CR : Addr} {tM tP tF : Tok}
def spLri (CR : Addr) : Sp := fun vs H Q _ => ∃ (pn c L : Addr) (n : Nat) (xs : List Int) (p : Nat) (d : Int), vs = [.ref pn, .ref L] ∧ PenAt H pn c n ∧ n + 10 < 1048576 ∧ ToldK pn c H L xs p d ∧ xs.length ≤ 30 ∧ ∀ H', PenAt H' pn c (n + 10) → Keep pn c H H' → Q (.bl true) H'
abbrev s__law_right : Stmt := top 42
abbrev N__law_right : List Str := ["_law_pen_here", "_law_told_here", "_law_low_so", "_law_few", "_law_gain", "_law_made", "_law_due_so", "_law_n", "_law_due", "_law_far", "_law_many", "_law_some", "_law_number"]
theorem sc__law_right : FnScope N__law_right ["_law_pen_here", "_law_told_here"] (defScope s__law_right) := ⟨rfl, rfl, rfl, by decide +kernel, rfl, by decide +kernel, by decide +kernel⟩
theorem ok_lri {fa rG : Addr} {fd : FuncData} (F : Fun K "_law_right" "_law_right" s__law_right fa fd) (T : Tx K mg CE CN CT CB CR tM tP tF) (hsys : (base.get? sysModules).isSome = true) (hC : ClR K CR) (rGet : FnR P w K mg base (L2.CX P w) 4 rG (spGet CN CR)) (hGet : OwnGet K CR rG)
    (c_start : Prp P w K mg base CX0 1 (· = CR) "start" (spStart CR)) (c_period : Prp P w K mg base CX0 1 (· = CR) "period" (spPeriod CR)) (c_step : Prp P w K mg base CX0 1 (· = CR) "step" (spStep CR)) (c_first : Prp P w K mg base CX0 1 (· = CR) "first" (spFirst CR)) (c_pace : Prp P w K mg base CX0 2 (· = CR) "pace" (spPace CR))
    (g_numbers : GenM P w K mg base 6 CR "numbers" (spNumsG CN CR)) (w_numbers : Gw.GwM P w K mg base 6 CR "numbers" [] (spNumsW CR))
    (c__law_draw : Cal P w K mg base CX0 1 "_law_draw" spDraw) (c__law_pick : Cal P w K mg base CX0 2 "_law_pick" (spPick K)) (c__law_at : Cal P w K mg base CX0 1 "_law_at" spAt) (c__law_least : Cal P w K mg base CX0 3 "_law_least" spLeastL) (c__law_pace : Cal P w K mg base CX0 1 "_law_pace" spLpa) (c__law_row : Cal P w K mg base CX0 6 "_law_row" (spLro CR)) :
    FnG P w K mg base CX0 12 fa fd ["_law_pen_here", "_law_told_here"] (spLri CR) := by
  refine okG F sc__law_right (fun vs H Q E h => ?_) (fun cdv A outer s0 H vs Q E hcd hgd hr h => ?_)
  · obtain ⟨pn, c, L, n, xs, p, d, rfl, _⟩ := h
    rfl
  · obtain ⟨pn, c, L, n, xs, p, d, rfl, hp0, hn, ht, hx, k⟩ := h
    obtain ⟨M, hL, hM, nL1, nL2, nM1, nM2⟩ := ht.ex
    have h1 := ht.h1
    have hp := ht.hp
    have lx : (xs.map V.int).length = xs.length := List.length_map _
    have h4 : sizeLine = 16777216 := sizeLine_eq
    refine ⟨_, (pss_cons (ps_asg (pe_cal c__law_least (hr.mono (by decide)) (by rfl) pass0 (pa_cons (pv 1) pa_nil)) (pg_tup rfl (pgs_cons (pg_name (i := 2) sc__law_right.nd rfl (by first | exact Or.inl rfl | exact Or.inr rfl)) (pgs_cons (pg_name (i := 3) sc__law_right.nd rfl (by first | exact Or.inl rfl | exact Or.inr rfl)) (pgs_cons (pg_name (i := 4) sc__law_right.nd rfl (by first | exact Or.inl rfl | exact Or.inr rfl)) pgs_nil)))))
      (pss_cons (ps_set (i := 5) sc__law_right.nd rfl (by first | exact Or.inl rfl | exact Or.inr rfl) (pe_cal c__law_row (hr.mono (by decide)) (by rfl) pass0 (pa_cons (pv 1) (pa_cons (pe_cmpR op_eq (pe_cal c__law_draw (hr.mono (by decide)) (by rfl) pass0 (pa_cons (pv 0) (pa_cons pe_int pa_nil))) pe_int (nomark _)) pa_nil))))
      (pss_cons (ps_set (i := 6) sc__law_right.nd rfl (by first | exact Or.inl rfl | exact Or.inr rfl) (pe_callTy call_tuple_of (by rfl) (T.bn _ (by decide +kernel)) (by decide +kernel) (pa_cons (pe_lc (own := [("_law_n", 7)]) rfl sc__law_right.nd (pi_range1 rfl (T.bn _ (by decide +kernel)) (pa_cons (pe_op op_add (pv 2) (pv 3)) pa_nil)) (blkOk_by (own := [("_law_n", 7)]) (N := N__law_right) (sc := defScope s__law_right) (by decide +kernel)) (fun _ _ _ _ _ => (pg_name (i := 7) sc__law_right.nd rfl (by first | exact Or.inl rfl | exact Or.inr rfl))) (fun _ _ _ _ _ => pts_nil) (fun _ _ _ _ _ => (pe_cal c__law_at (hr.mono (by decide)) (by rfl) pass0 (pa_cons (pv 1) (pa_cons (pv 7) pa_nil))))) pa_nil)))
      (pss_cons (ps_set (i := 8) sc__law_right.nd rfl (by first | exact Or.inl rfl | exact Or.inr rfl) (pe_lst (pa_cons (pv 2) (pa_cons (pv 3) (pa_cons (pv 4) (pa_cons (pv 6) (pa_cons (pe_cal c__law_pace (hr.mono (by decide)) (by rfl) pass0 (pa_cons (pv 4) (pa_cons (pv 3) pa_nil))) pa_nil)))))))
      (pss_cons (ps_if (pt_cmpR op_ne (pe_callB (call_repr hgd hr hsys) (by rfl) (T.bn _ (by decide +kernel)) (by decide +kernel) (pa_cons (pe_lst (pa_cons ((pe_prp c_start (hr.mono (by decide)) pass0) (pv 5)) (pa_cons ((pe_prp c_period (hr.mono (by decide)) pass0) (pv 5)) (pa_cons ((pe_prp c_step (hr.mono (by decide)) pass0) (pv 5)) (pa_cons ((pe_prp c_first (hr.mono (by decide)) pass0) (pv 5)) (pa_cons ((pe_prp c_pace (hr.mono (by decide)) pass0) (pv 5)) pa_nil)))))) pa_nil)) (pe_callB (call_repr hgd hr hsys) (by rfl) (T.bn _ (by decide +kernel)) (by decide +kernel) (pa_cons (pv 8) pa_nil)) (nomark _)) (pss_one (ps_ret pe_bl)) pss_nil)
      (pss_cons (ps_set (i := 9) sc__law_right.nd rfl (by first | exact Or.inl rfl | exact Or.inr rfl) (pe_op op_add (pe_op op_mul (pe_op op_pow pe_int pe_int) (pe_cal c__law_draw (hr.mono (by decide)) (by rfl) pass0 (pa_cons (pv 0) (pa_cons pe_int pa_nil)))) (pe_cal c__law_draw (hr.mono (by decide)) (by rfl) pass0 (pa_cons (pv 0) (pa_cons pe_int pa_nil)))))
      (pss_cons (ps_for PassesOwn.never rfl (pi_list (pe_op op_cat (pe_listRg rfl (by rfl) (T.bn _ (by decide +kernel)) (prg_1 (by rfl) (T.bn _ (by decide +kernel)) (pe_op op_add (pe_callB call_len_seq (by rfl) (T.bn _ (by decide +kernel)) (by decide +kernel) (pa_cons (pe_ix ix_list (pv 1) pe_int (fun _ _ => rfl)) pa_nil)) (pe_op op_mul pe_int (pe_ix ix_list (pv 1) pe_int (fun _ _ => rfl)))))) (pe_lst (pa_cons (pv 9) (pa_cons (pe_op op_add (pv 9) pe_int) (pa_cons (pe_op op_add (pe_op op_pow pe_int pe_int) (pv 9)) pa_nil)))))) (pg_name (i := 7) sc__law_right.nd rfl (by first | exact Or.inl rfl | exact Or.inr rfl))
      (pss_one (ps_if (pt_cmpR op_ne (pe_callB SkE.call_repr_int (by rfl) (T.bn _ (by decide +kernel)) (by decide +kernel) (pa_cons (pe_ixO rGet hGet (hr.mono (by decide)) passN (pv 5) (pv 7) (fun _ _ => rfl)) pa_nil)) (pe_callB SkE.call_repr_int (by rfl) (T.bn _ (by decide +kernel)) (by decide +kernel) (pa_cons (pe_cal c__law_at (hr.mono (by decide)) (by rfl) pass0 (pa_cons (pv 1) (pa_cons (pv 7) pa_nil))) pa_nil)) (nomark _)) (pss_one (ps_ret pe_bl)) pss_nil)))
      (pss_cons (ps_set (i := 10) sc__law_right.nd rfl (by first | exact Or.inl rfl | exact Or.inr rfl) (pe_cal c__law_pick (hr.mono (by decide)) (by rfl) pass0 (pa_cons (pv 0) (pa_cons (pe_lst (pa_cons pe_int (pa_cons pe_int (pa_cons pe_int (pa_cons pe_int (pa_cons pe_int pa_nil)))))) pa_nil))))
      (pss_cons (ps_if (pt_cmpR op_ne (pe_callB (call_repr hgd hr hsys) (by rfl) (T.bn _ (by decide +kernel)) (by decide +kernel) (pa_cons (pe_listGC (pgen_m g_numbers (hr.mono (by decide)) (pv 5) (pa_cons (pv 10) pa_nil)) passN noStop0 (hr.mono (by decide)) (by rfl) (T.bn _ (by decide +kernel)) (by decide +kernel)) pa_nil)) (pe_callB (call_repr hgd hr hsys) (by rfl) (T.bn _ (by decide +kernel)) (by decide +kernel) (pa_cons (pe_lc (own := [("_law_n", 7)]) rfl sc__law_right.nd (pi_range1 rfl (T.bn _ (by decide +kernel)) (pa_cons (pv 10) pa_nil)) (blkOk_by (own := [("_law_n", 7)]) (N := N__law_right) (sc := defScope s__law_right) (by decide +kernel)) (fun _ _ _ _ _ => (pg_name (i := 7) sc__law_right.nd rfl (by first | exact Or.inl rfl | exact Or.inr rfl))) (fun _ _ _ _ _ => pts_nil) (fun _ _ _ _ _ => (pe_cal c__law_at (hr.mono (by decide)) (by rfl) pass0 (pa_cons (pv 1) (pa_cons (pv 7) pa_nil))))) pa_nil)) (nomark _)) (pss_one (ps_ret pe_bl)) pss_nil)
      (pss_cons (ps_set (i := 11) sc__law_right.nd rfl (by first | exact Or.inl rfl | exact Or.inr rfl) (pe_lst pa_nil))
      (pss_cons (Gw.ps_forW (hr.mono (by decide)) (Gw.GenFree.never rfl) PassesOwn.never rfl (Gw.pwg_m w_numbers (hr.mono (by decide)) (pv 5) (pa_cons (pe_op op_add (pe_op op_pow pe_int pe_int) (pv 10)) pa_nil)) (pg_name (i := 12) sc__law_right.nd rfl (by first | exact Or.inl rfl | exact Or.inr rfl))
      (pss_cons (ps_expr (pe_bm PySem.F.plainAttrs_list PySem.F.slot_list_append PySem.F.type_list_append mt_append (pv 11) (pa_cons (pv 12) pa_nil)))
      (pss_one (ps_if (pt_cmpR op_eq (pe_callB call_len_seq (by rfl) (T.bn _ (by decide +kernel)) (by decide +kernel) (pa_cons (pv 11) pa_nil)) pe_int (nomark _)) (pss_one ps_break) pss_nil))))
      (pss_one (ps_ret (pe_cmpR op_eq (pe_callB (call_repr hgd hr hsys) (by rfl) (T.bn _ (by decide +kernel)) (by decide +kernel) (pa_cons (pv 11) pa_nil)) (pe_callB (call_repr hgd hr hsys) (by rfl) (T.bn _ (by decide +kernel)) (by decide +kernel) (pa_cons (pe_lc (own := [("_law_n", 7)]) rfl sc__law_right.nd (pi_range1 rfl (T.bn _ (by decide +kernel)) (pa_cons pe_int pa_nil)) (blkOk_by (own := [("_law_n", 7)]) (N := N__law_right) (sc := defScope s__law_right) (by decide +kernel)) (fun _ _ _ _ _ => (pg_name (i := 7) sc__law_right.nd rfl (by first | exact Or.inl rfl | exact Or.inr rfl))) (fun _ _ _ _ _ => pts_nil) (fun _ _ _ _ _ => (pe_cal c__law_at (hr.mono (by decide)) (by rfl) pass0 (pa_cons (pv 1) (pa_cons (pv 7) pa_nil))))) pa_nil)) (nomark _))))))))))))))), ?_⟩
    refine ⟨_, rfl, L, xs, p, d, rfl, ht.here, fun s q e t H1 can e1 f1 => ?_⟩
    have l1 := can.low _ _ _ (ext_eq h1 hp)
    have l2 := can.few _ _ _ (ext_eq h1 hp)
    have q1 := can.eq.pos
    refine ⟨t, _, rfl, SqT.of f1, rfl, _, _, rfl, _, _, rfl, _, _, rfl, rfl, ?_⟩
    have hp1 := hp0.ext e1
    have ht1 := ht.keep (Keep.ext e1)
    refine ⟨_, rfl, _, rfl, pn, c, n, 2, rfl, hp1, by omega, by decide, by decide, fun j H2 j0 j1 hp2 kp2 => ?_⟩
    refine ⟨rfl, ?_⟩
    dsimp only [tNil]
    refine ⟨L, xs, p, d, _, rfl, (ht1.keep kp2).here, fun a H3 s' q' e' _ _ be e3 r => ?_⟩
    obtain ⟨rfl, rfl, rfl⟩ := can.uniq r.can
    have hp3 := hp2.ext e3
    have kp3 : Keep pn c H H3 := ((Keep.ext e1).trans kp2).trans (Keep.ext e3)
    have ht3 := ht.keep kp3
    clear kp2 hp2 hp1 e1 e3 ht1 f1
    obtain ⟨f, hf⟩ : ∃ f, f = ext xs p d := ⟨_, rfl⟩
    have sm : ∀ i, i < 200 → (f i).natAbs < 2 ^ 200 := fun i hi => by rw [hf]; exact ext_small h1 hp ht.hn ht.hd hi
    have at_ : ∀ {H' : Hp} {m : Nat} {Q' : VK}, Keep pn c H H' → m < 2 ^ 850 → Q' (.int (f m)) H' → spAt [.ref L, .int m] H' Q' E0 := fun {H' m Q'} kp hm hq => by
      rw [hf] at hq
      exact ⟨L, xs, p, d, m, rfl, (ht.keep kp).here, hm, hq⟩
    rw [← hf] at r
    have b850 : ∀ m, m < 200 → m < 2 ^ 850 := fun m hm => Nat.lt_of_lt_of_le hm (by decide)
    refine ⟨_, rfl, _, rfl, _, _, rfl, rfl, _, rfl, by omega, by omega, fun D hD => ?_⟩
    rw [show ((s : Int) + (q : Int)).toNat = s + q by omega]
    refine lc_it walk_range (fun i Hx => Hx = upd H3 D (.lst (fl f i))) rfl (fun _ _ _ _ => trivial) ?_ ?_
    · rintro i x Hx H' hi rfl ⟨rfl, rfl⟩
      have hi : i < s + q := hi
      refine ⟨rfl, _, rfl, _, rfl, ?_⟩
      dsimp only [tNil]
      rw [Int.zero_add]
      refine at_ (kp3.trans (Keep.ext (Ext.upd hD))) (b850 _ (by omega)) ⟨_, upd_same, by rw [fl_len]; omega, ?_⟩
      show upd (upd H3 D _) D _ = _
      rw [upd_upd, fl_snoc]
    rintro Hx rfl
    refine ⟨D, _, rfl, .inl ⟨SqL.of upd_same, fun u nu => ?_⟩⟩
    have e34 : Ext H3 (upd (upd H3 D (.lst (fl f (s + q)))) u (.tup (fl f (s + q)))) := (Ext.upd hD).trans (Ext.upd nu)
    have f4 : (upd (upd H3 D (.lst (fl f (s + q)))) u (.tup (fl f (s + q)))) u = some (.tup (fl f (s + q))) := upd_same
    generalize (upd (upd H3 D (.lst (fl f (s + q)))) u (.tup (fl f (s + q)))) = H4 at e34 f4 ⊢
    have he : e.natAbs ≤ 2 ^ 150 := Nat.le_trans be ht.hd
    refine ⟨_, rfl, _, rfl, _, rfl, _, rfl, _, rfl, _, rfl, ?_⟩
    dsimp only [tNil]
    refine ⟨e, q, rfl, q1, by omega, Nat.lt_trans (PySem.Flt.log2_lt_of (by decide) (Nat.lt_of_le_of_lt he (by decide +kernel : (2 : Nat) ^ 150 < 2 ^ 200))) (by decide), fun t2 H5 e5 f5 => ⟨(by show 5 ≤ sizeLine; decide), fun Ld nLd => ?_⟩⟩
    have g5 : ∀ (H' : Hp) (L' u' t' : Addr), H' L' = some (.lst [.int s, .int q, .int e, .ref u', .ref t']) → H' u' = some (.tup (fl f (s + q))) → H' t' = some (.tup [.int (e / (Nat.gcd e.natAbs q : Nat)), .int ((q / Nat.gcd e.natAbs q : Nat))]) → TV H' (.ref L') (.list [.int s, .int q, .int e, .tuple (flD f (s + q)), .tuple [.int (e / (Nat.gcd e.natAbs q : Nat)), .int ((q / Nat.gcd e.natAbs q : Nat))]]) := fun H' L' u' t' h1 h2 h3 =>
      .lst h1 (.cons (.int _) (.cons (.int _) (.cons (.int _) (.cons (.tup h2 (tvs_fl f _)) (.cons (.tup h3 (.cons (.int _) (.cons (.int _) .nil))) .nil)))))
    have e56 := Ext.upd (o := .lst [.int s, .int q, .int e, .ref u, .ref t2]) nLd
    have tvd := g5 (upd H5 Ld (.lst [.int s, .int q, .int e, .ref u, .ref t2])) Ld u t2 upd_same (e56 _ _ (e5 _ _ f4)) (e56 _ _ f5)
    have e36 := (e34.trans e5).trans e56
    generalize (upd H5 Ld (.lst [.int s, .int q, .int e, .ref u, .ref t2])) = H6 at tvd e36 e56 ⊢
    have r6 := r.ext e36
    obtain ⟨dx, tt, ha, htt⟩ := r6.ex
    refine ⟨_, rfl, a, CR, dx, _, rfl, ha, rfl, a, f, s, q, e, rfl, r6, ?_⟩
    refine ⟨_, rfl, a, CR, dx, _, rfl, ha, rfl, a, f, s, q, e, rfl, r6, ?_⟩
    refine ⟨_, rfl, a, CR, dx, _, rfl, ha, rfl, a, f, s, q, e, rfl, r6, ?_⟩
    refine ⟨_, rfl, a, CR, dx, _, rfl, ha, rfl, a, f, s, q, e, rfl, r6, fun u2 hu2 => ?_⟩
    refine ⟨_, rfl, a, CR, dx, _, rfl, ha, rfl, a, f, s, q, e, rfl, r6, fun t3 nt3 => ?_⟩
    have e67 := Ext.upd (o := .tup [.int (e / (Nat.gcd e.natAbs q : Nat)), .int ((q / Nat.gcd e.natAbs q : Nat))]) nt3
    refine ⟨(by show 5 ≤ sizeLine; decide), fun Lm nLm => ?_⟩
    have e78 := Ext.upd (o := .lst [.int s, .int q, .int e, .ref u2, .ref t3]) nLm
    have tvm := g5 _ Lm u2 t3 upd_same (e78 _ _ (e67 _ _ hu2)) (e78 _ _ upd_same)
    have tvd := (tvd.ext e67).ext e78
    have e38 := (e36.trans e67).trans e78
    generalize Nat.gcd e.natAbs q = G at tvm tvd e38 ⊢
    have b61 : (2 : Nat) ^ 200 < 10 ^ 70 := by decide +kernel
    have b61' : (2 : Nat) ^ 150 < 10 ^ 70 := by decide +kernel
    have eG : (e / (G : Int)).natAbs ≤ 2 ^ 150 := Nat.le_trans (Int.natAbs_ediv_le_natAbs _ _) he
    have hqG : ((q / G : Nat) : Int).natAbs ≤ 100 := by
      have := Nat.div_le_self q G
      generalize q / G = w at this ⊢
      omega
    obtain ⟨sh1, sh2⟩ := shw_fl (f := f) (L := s + q) fun i hi => Nat.lt_trans (sm i (by omega)) b61
    have sd : Shw 60000 (.list [.int s, .int q, .int e, .tuple (flD f (s + q)), .tuple [.int (e / (G : Int)), .int ((q / G : Nat))]]) := by
      have i10 : ∀ i : Int, i.natAbs < 10 ^ 70 → Shw 71 (.int i) := fun i hi => Shw.int10 (by decide) hi (by decide)
      refine (Shw.listN (n := 3000) (k := 2) (fun d hd => ?_) (fun d hd => ?_) (by decide)).mono (by simp only [List.length_cons, List.length_nil]; omega)
      · simp only [List.mem_cons, List.not_mem_nil, or_false] at hd
        rcases hd with rfl | rfl | rfl | rfl | rfl
        · exact (i10 _ (Nat.lt_of_le_of_lt (show ((s : Nat) : Int).natAbs ≤ 100 by omega) (by decide +kernel))).mono (by decide)
        · exact (i10 _ (Nat.lt_of_le_of_lt (show ((q : Nat) : Int).natAbs ≤ 100 by omega) (by decide +kernel))).mono (by decide)
        · exact (i10 _ (Nat.lt_of_le_of_lt he b61')).mono (by decide)
        · exact (Shw.tupN sh1 sh2 (by decide)).mono (by rw [flD_len]; omega)
        · exact ((i10 _ (Nat.lt_of_le_of_lt eG b61')).tup2 (i10 _ (Nat.lt_of_le_of_lt hqG (by decide +kernel))) (by show 0 < 20; decide) (by show 0 < 20; decide)).mono (by decide)
      · simp only [List.mem_cons, List.not_mem_nil, or_false] at hd
        rcases hd with rfl | rfl | rfl | rfl | rfl
        · exact Nat.zero_le _
        · exact Nat.zero_le _
        · exact Nat.zero_le _
        · exact Nat.le_trans (depth_tup (k := 0) sh2) (by decide)
        · exact (by decide : 1 ≤ 2)
    generalize PyData.list [.int s, .int q, .int e, .tuple (flD f (s + q)), .tuple [.int (e / (G : Int)), .int ((q / G : Nat))]] = Dt at sd tvm tvd
    have d60 : (20 : Nat) ≤ 60 := by decide
    refine ⟨.ref Lm, Dt, rfl, tvm, sd.sh, Nat.le_trans sd.dp d60, by have := sd.ln; omega, ?_⟩
    refine ⟨_, rfl, .ref Ld, Dt, rfl, tvd, sd.sh, Nat.le_trans sd.dp d60, by have := sd.ln; omega, rfl, _, rfl, iteNo (by rw [decide_eq_true rfl]; rfl) ?_⟩
    have r8 := r.ext e38
    have kp8 : Keep pn c H _ := kp3.trans (Keep.ext e38)
    have hp8 := hp3.ext e38
    generalize (upd (upd H6 t3 (.tup [.int (e / (G : Int)), .int ((q / G : Nat))])) Lm (.lst [.int s, .int q, .int e, .ref u2, .ref t3])) = H8 at r8 kp8 hp8 ⊢
    clear tvm tvd sd sh1 sh2 e38 e36 e67 e78 e56 e34 e5 g5 r6 ha htt hu2 nt3 nLm nLd nu hD f4 f5 hp3 ht3 hqG eG
    refine ⟨_, _, rfl, rfl, ⟨by decide, by decide, by decide⟩, _, rfl, pn, c, n + 1, 1000, rfl, hp8, by omega, by decide, by decide, fun j1 H9 a0 a1 hp9 kp9 => ?_⟩
    refine ⟨_, _, rfl, rfl, .inr ⟨by omega, by omega⟩, _, rfl, pn, c, n + 2, 1000, rfl, hp9, by omega, by decide, by decide, fun j2 H10 b0 b1 hp10 kp10 => ?_⟩
    refine ⟨_, _, rfl, rfl, ?_⟩
    have p18 : (10 : Int) ^ (18 : Int).toNat = 1000000000000000000 := by decide +kernel
    obtain ⟨F, hF⟩ : ∃ F : Nat, (10 : Int) ^ (18 : Int).toNat * j1 + j2 = F := ⟨((10 : Int) ^ (18 : Int).toNat * j1 + j2).toNat, by rw [p18]; omega⟩
    have hF2 : F < 2 ^ 80 := by
      have e2 : (2 : Nat) ^ 80 = 1208925819614629174706176 := by decide +kernel
      rw [p18] at hF
      omega
    show gName 9 (V.int ((10 : Int) ^ (18 : Int).toNat * j1 + j2)) _ _ _
    rw [hF]
    have kp8' : Keep pn c H8 H10 := kp9.trans kp10
    have r10 := r8.keepP hp8 kp8'
    have kpA := kp8.trans kp8'
    obtain ⟨M', hL10, hM10, _⟩ := (ht.keep kpA).ex
    have lx' : (xs.map V.int).length = xs.length := lx
    clear kp9 kp10 hp9 hp8 r8 kp8 kp8' r
    refine ⟨_, rfl, L, _, 0, .ref M', rfl, rfl, SqL.of hL10, rfl, M', _, rfl, .inl (SqL.of hM10), ?_⟩
    refine ⟨_, rfl, L, _, 1, .int p, rfl, rfl, SqL.of hL10, rfl, _, _, rfl, rfl, .inl ⟨by decide, by decide⟩, _, _, rfl, rfl, ?_⟩
    obtain ⟨N, hN⟩ : ∃ N, xs.length + 2 * p = N := ⟨_, rfl⟩
    have eN : (((xs.map V.int).length : Nat) : Int) + 2 * (p : Int) = (N : Int) := by rw [lx]; omega
    refine ⟨N, congrArg V.int eN, RgOk.of_le (by decide) (by omega) (by decide) (by omega), fun q1 nq1 => ?_⟩
    have e11 : Ext H10 (upd H10 q1 (.lst (rgV 0 N))) := Ext.upd nq1
    have f11 : (upd H10 q1 (.lst (rgV 0 N))) q1 = some (.lst (rgV 0 N)) := upd_same
    generalize (upd H10 q1 (.lst (rgV 0 N))) = H11 at e11 f11 ⊢
    refine ⟨_, rfl, _, rfl, _, _, rfl, rfl, _, _, rfl, rfl, ⟨by decide, by decide, by decide⟩, _, rfl, _, _, rfl, rfl, (by show 3 ≤ sizeLine; decide), fun q2 nq2 => ?_⟩
    have e59 : (10 : Int) ^ (59 : Int).toNat + (F : Int) = ((10 ^ 59 + F : Nat) : Int) := by
      have : (10 : Int) ^ (59 : Int).toNat = ((10 ^ 59 : Nat) : Int) := by decide +kernel
      rw [this]
      exact (Int.natCast_add _ _).symm
    have fs : ∀ v ∈ [V.int F, V.int ((F : Int) + 1), V.int ((10 : Int) ^ (59 : Int).toNat + (F : Int))], ∃ m : Nat, v = .int m ∧ m < 2 ^ 200 := fun v hv => by
      have b1 : (2 : Nat) ^ 80 + 10 ^ 59 < 2 ^ 200 := by decide +kernel
      have b2 : (1 : Nat) < 10 ^ 59 := by decide +kernel
      rcases List.mem_cons.mp hv with rfl | hv
      · exact ⟨F, rfl, by omega⟩
      rcases List.mem_cons.mp hv with rfl | hv
      · exact ⟨F + 1, rfl, by omega⟩
      rcases List.mem_cons.mp hv with rfl | hv
      · exact ⟨10 ^ 59 + F, congrArg V.int e59, by omega⟩
      cases hv
    obtain ⟨fl3, hfl3⟩ : ∃ l, [V.int F, V.int ((F : Int) + 1), V.int ((10 : Int) ^ (59 : Int).toNat + (F : Int))] = l := ⟨_, rfl⟩
    have l3 : fl3.length = 3 := by rw [← hfl3]; rfl
    rw [hfl3] at fs
    show rCat (.ref q1) (.ref q2) (upd H11 q2 (.lst [V.int F, V.int ((F : Int) + 1), V.int ((10 : Int) ^ (59 : Int).toNat + (F : Int))])) _
    rw [hfl3]
    have e12 : Ext H11 (upd H11 q2 (.lst fl3)) := Ext.upd nq2
    have f12 : (upd H11 q2 (.lst fl3)) q2 = some (.lst fl3) := upd_same
    generalize (upd H11 q2 (.lst fl3)) = H12 at e12 f12 ⊢
    refine ⟨q1, q2, _, _, rfl, rfl, e12 _ _ f11, f12, (by rw [rgV_length]; omega), fun q3 nq3 => ?_⟩
    have e13 : Ext H12 (upd H12 q3 (.lst (rgV 0 N ++ fl3))) := Ext.upd nq3
    have f13 : (upd H12 q3 (.lst (rgV 0 N ++ fl3))) q3 = some (.lst (rgV 0 N ++ fl3)) := upd_same
    generalize (upd H12 q3 (.lst (rgV 0 N ++ fl3))) = H13 at e13 f13 ⊢
    have nums : ∀ v ∈ rgV 0 N ++ fl3, ∃ m : Nat, v = .int m ∧ m < 2 ^ 200 := fun v hv => by
      rcases List.mem_append.mp hv with hm | hm
      · unfold rgV at hm
        obtain ⟨m, hm1, rfl⟩ := List.mem_map.mp hm
        have := List.mem_range.mp hm1
        exact ⟨m, by rw [Int.zero_add], Nat.lt_of_lt_of_le (show m < 128 by omega) (by decide +kernel)⟩
      · exact fs v hm
    have eA := (e11.trans e12).trans e13
    have rA := r10.ext eA
    have kpB := kpA.trans (Keep.ext eA)
    have hp13 := hp10.ext eA
    have heb : e.natAbs < big := Nat.lt_of_le_of_lt he (by decide +kernel)
    have fbig : ∀ m : Nat, m < 2 ^ 200 → (f m).natAbs.log2 < 1920 := fun m hm => by
      rw [hf]
      exact Nat.lt_trans (PySem.Flt.log2_lt_of (by decide) (ext_le hp h1 (fun x hx => Nat.lt_of_le_of_lt (ht.hn x hx) (by decide +kernel)) (Nat.lt_of_le_of_lt ht.hd (by decide +kernel)) (Nat.lt_trans hm (by decide +kernel)))) (by decide)
    clear eA e11 e12 e13 f11 f12 r10 kpA hp10 nq1 nq2 nq3 hL10 hM10
    refine ⟨q3, rfl, ⟨_, SqL.of f13⟩, ?_⟩
    refine for_it (D := { nx := _, rt := Q }) (walk_list (K := K) (xs := rgV 0 N ++ fl3)) (fun i σ H' => ∃ x7, σ = [some (.ref pn), some (.ref L), some (.int s), some (.int q), some (.int e), some (.ref a), some (.ref u), x7, some (.ref Ld), some (.int F), none, none, none] ∧ H' = H13) ⟨_, rfl, rfl⟩ (fun i σ H' _ ⟨_, _, e⟩ => SqL.of (by rw [e]; exact f13)) ?_ ?_
    · rintro i v σ H' _ hi ⟨x7, rfl, rfl⟩ ⟨rfl, hv⟩
      obtain ⟨m, rfl, hm⟩ := nums v (List.mem_of_getElem? hv)
      obtain ⟨dx, tt, ha, htt⟩ := rA.ex
      refine ⟨_, rfl, _, rfl, a, dx, _, rfl, ha, a, f, s, q, e, .int m, .int m, rfl, rA, .int _, heb, fun m' em => ?_, fun hb => absurd (hb m rfl) (by omega)⟩
      have em : m' = m := by
        have := PyData.int.inj em
        omega
      subst em
      refine ⟨Nat.lt_trans hm (by decide +kernel), _, rfl, fbig _ hm, ?_⟩
      refine ⟨_, rfl, _, rfl, ?_⟩
      dsimp only [tNil]
      refine at_ kpB (Nat.lt_trans hm (by decide +kernel)) ?_
      exact ⟨_, rfl, fbig _ hm, rfl, _, rfl, iteNo (by rw [decide_eq_true rfl]; rfl) ⟨_, rfl, rfl⟩⟩
    rintro σ H' ⟨x7, rfl, rfl⟩
    clear f13 nums fs
    refine ⟨_, rfl, (by show 5 ≤ sizeLine; decide), fun q4 nq4 => ?_⟩
    dsimp only [tNil]
    have e14 := Ext.upd (o := .lst [V.int 0, V.int 1, V.int 2, V.int 7, V.int 40]) nq4
    obtain ⟨np4, nc4⟩ := hp13.ne nq4
    refine ⟨pn, c, n + 3, .ref q4, rfl, hp13.ext e14, by omega, .inl ⟨q4, _, rfl, np4.symm, nc4.symm, upd_same, (by show 0 < 5; decide), (by show 5 ≤ 1000; decide), fun v H14 hv hp14 kp14 => ?_⟩⟩
    obtain ⟨w, rfl, hw⟩ : ∃ w : Nat, v = .int w ∧ w ≤ 40 := by
      simp only [List.mem_cons, List.not_mem_nil, or_false] at hv
      rcases hv with rfl | rfl | rfl | rfl | rfl
      · exact ⟨0, rfl, by decide⟩
      · exact ⟨1, rfl, by decide⟩
      · exact ⟨2, rfl, by decide⟩
      · exact ⟨7, rfl, by decide⟩
      · exact ⟨40, rfl, by decide⟩
    have r14 := (rA.ext e14).keepP (hp13.ext e14) kp14
    have kp14' := (kpB.trans (Keep.ext e14)).trans kp14
    clear rA kpB e14 hp13 kp14 nq4 np4 nc4
    obtain ⟨dx, tt, ha, htt⟩ := r14.ex
    refine ⟨_, rfl, a, dx, _, rfl, ha, rfl, _, rfl, ?_⟩
    have tvw : ∀ (w : Nat) (H' : Hp) (L' : Addr), H' L' = some (.lst (fl f w)) → TV H' (.ref L') (.list (flD f w)) := fun w H' L' h => .lst h (tvs_fl f _)
    have sdw : ∀ w : Nat, w ≤ 40 → Shw 10000 (.list (flD f w)) := fun w hw => by
      obtain ⟨sh1, sh2⟩ := shw_fl (f := f) (L := w) fun i hi => Nat.lt_trans (sm i (by omega)) b61
      exact (Shw.listN sh1 sh2 (by decide)).mono (by rw [flD_len]; omega)
    dsimp only [tNil]
    refine ⟨a, f, s, q, e, _, .int w, rfl, r14, heb, .int _, fun w' ew => ?_, fun hb => absurd (hb w rfl) (by omega)⟩
    have ew : w' = w := by
      have := PyData.int.inj ew
      omega
    subst ew
    refine ⟨by omega, fun p1 np1 => ?_⟩
    have e15 := Ext.upd (o := .lst (fl f w')) np1
    refine ⟨.ref p1, .list (flD f w'), rfl, tvw _ _ _ upd_same, (sdw _ hw).sh, Nat.le_trans (sdw _ hw).dp d60, by have := (sdw _ hw).ln; omega, ?_⟩
    generalize (upd H14 p1 (.lst (fl f w'))) = H15 at e15 ⊢
    have kp15 := kp14'.trans (Keep.ext e15)
    refine ⟨_, rfl, _, rfl, by omega, by omega, fun D2 hD2 => ?_⟩
    rw [Int.toNat_natCast]
    refine lc_it walk_range (fun i Hx => Hx = upd H15 D2 (.lst (fl f i))) rfl (fun _ _ _ _ => trivial) ?_ ?_
    · rintro i x Hx H' hi rfl ⟨rfl, rfl⟩
      have hi : i < w' := hi
      refine ⟨rfl, _, rfl, _, rfl, ?_⟩
      dsimp only [tNil]
      rw [Int.zero_add]
      refine at_ (kp15.trans (Keep.ext (Ext.upd hD2))) (b850 _ (by omega)) ⟨_, upd_same, by rw [fl_len]; omega, ?_⟩
      show upd (upd H15 D2 _) D2 _ = _
      rw [upd_upd, fl_snoc]
    rintro Hx rfl
    refine ⟨.ref D2, .list (flD f w'), rfl, tvw _ _ _ upd_same, (sdw _ hw).sh, Nat.le_trans (sdw _ hw).dp d60, by have := (sdw _ hw).ln; omega, rfl, _, rfl, iteNo (by rw [decide_eq_true rfl]; rfl) ?_⟩
    have e16 := e15.trans (Ext.upd (o := .lst (fl f w')) hD2)
    generalize (upd H15 D2 (.lst (fl f w'))) = H16 at e16 ⊢
    refine ⟨(by show 0 ≤ sizeLine; decide), fun Lz nLz => ?_⟩
    have e17 := e16.trans (Ext.upd (o := .lst []) nLz)
    have fLz : (upd H16 Lz (.lst [])) Lz = some (.lst []) := upd_same
    have hp16 := hp14.ext e16
    obtain ⟨npz, ncz⟩ := hp16.ne nLz
    have r17 := r14.ext e17
    have kp17 := kp14'.trans (Keep.ext e17)
    have hp17 := hp14.ext e17
    have nz : H14 Lz = none := ext_free e16 nLz
    generalize (upd H16 Lz (.lst [])) = H17 at e17 fLz r17 kp17 hp17 ⊢
    obtain ⟨dx7, tt7, ha7, htt7⟩ := r17.ex
    have e20 : (10 : Int) ^ (20 : Int).toNat + (w' : Int) = ((10 ^ 20 + w' : Nat) : Int) := by
      have : (10 : Int) ^ (20 : Int).toNat = ((10 ^ 20 : Nat) : Int) := by decide +kernel
      rw [this]
      exact (Int.natCast_add _ _).symm
    have b20 : (2 : Nat) ^ 63 ≤ 10 ^ 20 := by decide +kernel
    have b20' : (10 : Nat) ^ 20 + 100 < big := by decide +kernel
    refine ⟨fun b => b = Lz, _, rfl, a, dx7, _, rfl, ha7, rfl, _, _, rfl, rfl, ⟨by decide, by decide, by decide⟩, _, rfl, _, _, rfl, rfl, ?_⟩
    dsimp only [tNil]
    rw [e20]
    refine ⟨a, f, s, q, e, 10 ^ 20 + w', rfl, r17, heb, by omega, by omega, fun b hb => ⟨[], by have hb : b = Lz := hb; rw [hb]; exact fLz⟩, ?_⟩
    refine ⟨fun b hb => by have hb : b = Lz := hb; rw [hb, fLz]; exact (fun z => nomatch z), ?_⟩
    refine ⟨fun i σ' H' => ∃ x12, σ' = [some (.ref pn), some (.ref L), some (.int s), some (.int q), some (.int e), some (.ref a), some (.ref u), x7, some (.ref Ld), some (.int F), some (.int w'), some (.ref Lz), x12] ∧ i ≤ 2 ∧ H' Lz = some (.lst (fl f i)) ∧ PenAt H' pn c (n + 4) ∧ Keep pn c H H', ⟨_, rfl, by decide, fLz, hp17, kp17⟩, ?_, ?_⟩
    rotate_left
    · rintro σ' H' ⟨x12, _, h2, _⟩
      exact absurd h2 (by show ¬ (10 ^ 20 + w' ≤ 2); omega)
    have nzp : Lz ≠ pn := npz.symm
    have nzc : Lz ≠ c := ncz.symm
    have nH : H Lz = none := by
      cases hz : H Lz with
      | none => rfl
      | some o => rw [kp14' _ _ hz nzp nzc] at nz; cases nz
    rintro i σ' H' _ ⟨x12, rfl, i2, fi, hpi, kpi⟩ x H2 _ ⟨rfl, rfl⟩
    refine ⟨_, rfl, .inl ⟨rfl, _, SqL.of fi⟩, _, rfl, Lz, _, _, rfl, rfl, fi, by rw [fl_len]; omega, ?_⟩
    have f3 : (upd H2 Lz (.lst (fl f i ++ [V.int (f i)]))) Lz = some (.lst (fl f (i + 1))) := by rw [upd_same, fl_snoc]
    have hp3 : PenAt (upd H2 Lz (.lst (fl f i ++ [V.int (f i)]))) pn c (n + 4) := hpi.upd npz ncz
    have kp3' : Keep pn c H (upd H2 Lz (.lst (fl f i ++ [V.int (f i)]))) := fun b o hb h1 h2 => by
      rw [upd_ne (ne_of_none hb nH)]
      exact kpi b o hb h1 h2
    have rl : Gw.Rly (fun b => b = Lz) H2 (upd H2 Lz (.lst (fl f i ++ [V.int (f i)]))) := fun b o hb h => by
      rw [upd_ne h]
      exact hb
    generalize (upd H2 Lz (.lst (fl f i ++ [V.int (f i)]))) = H18 at f3 hp3 kp3' rl ⊢
    refine ⟨_, rfl, Lz, _, rfl, .inl (SqL.of f3), rfl, _, rfl, ?_⟩
    rw [fl_len]
    by_cases hi : i = 2
    · refine iteYes (by rw [hi]; rfl) ?_
      subst hi
      refine ⟨_, rfl, .ref Lz, .list (flD f 3), rfl, tvw _ _ _ f3, (sdw 3 (by decide)).sh, Nat.le_trans (sdw 3 (by decide)).dp d60, by have := (sdw 3 (by decide)).ln; omega, ?_⟩
      refine ⟨3, rfl, by decide, by decide, fun D3 hD3 => ?_⟩
      refine lc_it (walk_range (n := 3)) (fun i Hx => Hx = upd H18 D3 (.lst (fl f i))) rfl (fun _ _ _ _ => trivial) ?_ ?_
      · rintro i x Hx H' hi rfl ⟨rfl, rfl⟩
        refine ⟨rfl, _, rfl, _, rfl, ?_⟩
        dsimp only [tNil]
        rw [Int.zero_add]
        refine at_ (kp3'.trans (Keep.ext (Ext.upd hD3))) (b850 _ (by omega)) ⟨_, upd_same, by rw [fl_len]; omega, ?_⟩
        show upd (upd H18 D3 _) D3 _ = _
        rw [upd_upd, fl_snoc]
      rintro Hx rfl
      refine ⟨.ref D3, .list (flD f 3), rfl, tvw _ _ _ upd_same, (sdw 3 (by decide)).sh, Nat.le_trans (sdw 3 (by decide)).dp d60, by have := (sdw 3 (by decide)).ln; omega, rfl, ?_⟩
      rw [decide_eq_true rfl]
      exact k _ ((hp3.ext (Ext.upd hD3)).mono (by omega)) (kp3'.trans (Keep.ext (Ext.upd hD3)))
    · refine iteNo (decide_eq_false fun z => hi (by have := V.int.inj z; omega)) ?_
      exact ⟨rl, _, rfl, by omega, f3, hp3, kp3'⟩
end
end K09
end
section
set_option Elab.async false
set_option linter.all false
set_option maxRecDepth 100000
set_option maxHeartbeats 4000000
namespace Ls
open PySem PySem.Spec PyProof.Rows L2
def txt (e : Int × Value) : Str := match e.2 with
  | .str z _ => z
  | _ => Str.empty
def EntT (w : World) (e : Int × Value) : Prop := ∃ tk, e.2 = Value.str (txt e) tk ∧ e.1 = hashStr w (txt e)
def TSet (w : World) (h : Heap) (a : Addr) (L : List Str) : Prop :=
  ∃ o es ep t, h.get? a = some o ∧ (o.ExactSet ∧ o.data = .set es ep t) ∧ ((∀ e ∈ es.toList, EntT w e) ∧ (es.toList.map txt).Perm L ∧ L.Nodup) ∧ (es.size < scanBound ∧ t.fits es.size = true ∧ Ris t.place.toList) ∧ (w.params.followText "set-order" = true ∨ t.led = true)
section
variable {P : Program} {w : World} {A : Around} {E : Value → Shared → Prop} {s : Shared} {a : Addr} {L : List Str}
theorem TSet.keep {h h' : Heap} (R : TSet w h a L) (k : ∀ o, h.get? a = some o → h'.get? a = some o) : TSet w h' a L :=
  let ⟨o, es, ep, t, ho, r⟩ := R
  ⟨o, es, ep, t, k o ho, r⟩
end
section
variable {X : Cx} {pins : List (Addr × Obj)} {σ : L2.St} {H : Hp} {s : Shared} {a : Addr} {L : List Str}
end
end Ls
end
section
set_option Elab.async false
set_option autoImplicit false
set_option linter.all false
set_option maxRecDepth 100000
set_option maxHeartbeats 4000000
namespace Ls
open PySem PySem.Spec PyProof.Rows L2
section
variable {X : Cx} {CX : CXT} {n : Nat} {f : Addr} {sp : Sp} {E : XK}
end
section
variable {X : Cx} {P : Program} {w : World} {K : PySem.W.Frag} {mg : Str → Option Value} {base : Heap} {CX : CXT} {n : Nat} {f : Addr} {sp : Sp} {E : XK} {A : Around}
end
section
variable {X : Cx} {K : PySem.W.Frag} {e : PySem.Expr} {te : TE} {f : Str} {pos : Pos}
end
structure MkcN (P : Program) (w : World) (K : PySem.W.Frag) (mg : Str → Option Value) (base : Heap) (CX : CXT) (k : Nat) (C : Addr) (x : Str) (n : Nat) (ks : List Str) (gV : List V → List V → List V) (sp : Sp) : Prop where
  ex : ∃ f fd ps g, mg x = some (.ref C) ∧ Mk K C f ∧ FnOk P w K mg base CX k f fd ps sp ∧ KBn K fd ps (n + 1) ks g gV
section
variable {X : Cx} {CX : CXT} {k n : Nat} {C : Addr} {sp : Sp} {E : XK} {x : Str} {p pos : Pos} {e : PySem.Expr} {es : List PySem.Expr} {kws : List Keyword} {ks : List Str} {gV : List V → List V → List V} {t tk : TA}
theorem pe_mkN0 (c : MkcN X.prog X.w X.K X.mg X.base CX k C x 0 ks gV sp) (hr : Room (k + 1) X.A) (hg : Gl X x) (hx : Passes CX X E) (hkw : PK X kws tk)
    (hall : (backToKw pos (keywordEach kws X.env)).all (·.1.isSome) = true := by rfl) (hks : (backToKw pos (keywordEach kws X.env)).filterMap (·.1) = ks := by rfl)
    (hdb : (x == ("__debug__" : Str)) = false := by decide)
    (hpl : ((backTo pos (starEach [] X.env)).any (·.1) || (backToKw pos (keywordEach kws X.env)).any (·.1.isNone)) = false := by rfl) :
    PE X (.Call (.Name x p) [] kws pos) (tMakeN C 0 ks.length sp gV E tNil tk) := by
  obtain ⟨f, fd, ps, g, hm, M, F, hb⟩ := c.ex
  refine ⟨fun pins s σ H Q I h => ?_⟩
  refine wpAny_Call_Name_kw (ld_glob I hg hm ?_ hdb)
  refine PySem.W.callWith_KW0 (h₀ := X.base) I.ok.mod.kin M.kp hall ?_ hpl
  refine thn (hkw.run pos pins s σ H _ I h) fun ws s2 ⟨zs, H2, I2, rz, l1, l2, q2⟩ => ⟨I2.kIn, ?_⟩
  rw [hks]
  exact run_makeN (us := []) (vs := []) M F hr hb hx I2 .nil rz l1 l2 q2
end
section
variable {J : It} {G : Hp → Prop} {g : TG} {tt : TT} {te : TE} {vs : List Nat} {σ : L2.St} {H1 : Hp} {D : Addr} {Qd : Hp → Prop} {xs : List V}
end
end Ls
end
section
set_option Elab.async false
set_option autoImplicit false
set_option linter.all false
set_option maxRecDepth 100000
set_option maxHeartbeats 4000000
set_option pp.maxSteps 1500
namespace K09
open PySem PySem.Spec PyProof.Rows L2 Ls RowM
open C8 (pss_cut tCut)
open TL
section
variable {P : Program} {w : World} {K : PySem.W.Frag} {mg : Str → Option Value} {base : Heap} {CE CN CT CB CR : Addr} {tM tP tF : Tok}
def spEqX (K : PySem.W.Frag) (CR : Addr) : Sp := fun vs H Q E => spEq CR vs H Q E ∨ ∃ (a : Addr) (v : V) (ty : Value), vs = [.ref a, v] ∧ TyX K H v ty ∧ PySem.W.kitOne K ty (.ref CR) = some false ∧ Q (.bl false) H
theorem ok_eqX {fa fE : Addr} {fd : FuncData} (F : Fun K "__eq__" "Row.__eq__" s_Row_eq fa fd) (T : Tx K mg CE CN CT CB CR tM tP tF) (hC : ClR K CR) (C : RowK K CR fE) : FnOk P w K mg base CX0 2 fa fd ["self", "other"] (spEqX K CR) := by
  have good := ok_eq (P := P) (w := w) (mg := mg) (base := base) F T hC C
  refine ⟨fun vs H Q E h => ?_, ?_⟩
  · rcases h with h | ⟨a, v, ty, rfl, _⟩
    · exact good.len vs H Q E h
    · rfl
  have bad : FnOk P w K mg base CX0 2 fa fd ["self", "other"] (fun vs H Q E => ∃ (a : Addr) (v : V) (ty : Value), vs = [.ref a, v] ∧ TyX K H v ty ∧ PySem.W.kitOne K ty (.ref CR) = some false ∧ Q (.bl false) H) := by
    refine F.ok sc_Row_eq (fun vs H Q E h => ?_) (fun cdv A outer s0 H vs Q E hr h => ?_)
    · obtain ⟨a, v, ty, rfl, _⟩ := h
      rfl
    · obtain ⟨a, v, ty, rfl, h1, h2, k⟩ := h
      refine ⟨_, (pss_cons (ps_if (pt_not (pt_val (pe_callB call_isi (by rfl) (T.bn _ (by decide +kernel)) (by decide +kernel) (pa_cons (pv 1) (pa_cons (pe_gref (by rfl) T.m_Row) pa_nil))))) (pss_one (ps_ret pe_bl)) pss_nil)
      (pss_one (ps_ret (pe_and (pe_cmpR (op_eqD hr.units) (pe_fld (pv 0) rfl) (pe_fld (pv 1) rfl) (nomark _)) (pe_and (pe_cmpR op_eq (pe_fld (pv 0) rfl) (pe_fld (pv 1) rfl) (nomark _)) (pe_one (pe_cmpR op_eq (pe_fld (pv 0) rfl) (pe_fld (pv 1) rfl) (nomark _)))))))), ?_⟩
      refine ⟨_, rfl, _, _, _, _, false, rfl, .own CR, h1, h2, _, rfl, ?_⟩
      exact iteT k
  intro A outer s H args us vs Q E a b c d h
  rcases h with h | h
  · exact good.run A outer s H args us vs Q E a b c d h
  · exact bad.run A outer s H args us vs Q E a b c d h
def tys6 : List String := ["NoneType", "bool", "int", "str", "list", "tuple"]
def gRow : List V → List V → List V := fun us zs => us ++ zs
def spLeq : Sp := fun vs H Q _ => ∃ (pn c L : Addr) (n : Nat) (xs : List Int) (p : Nat) (d : Int), vs = [.ref pn, .ref L] ∧ PenAt H pn c n ∧ n + 20 < 1048576 ∧ ToldK pn c H L xs p d ∧ xs.length ≤ 30 ∧ ∀ H', PenAt H' pn c (n + 20) → Q (.bl true) H'
abbrev s__law_equal_right : Stmt := top 43
abbrev N__law_equal_right : List Str := ["_law_pen_here", "_law_told_here", "_law_made", "_law_other_here", "_law_bent", "_law_at_here", "_law_thing", "_law_handed", "_law_kept"]
theorem sc__law_equal_right : FnScope N__law_equal_right ["_law_pen_here", "_law_told_here"] (defScope s__law_equal_right) := ⟨rfl, rfl, rfl, by decide +kernel, rfl, by decide +kernel, by decide +kernel⟩
theorem ok_leq {fa fE fS : Addr} {fd : FuncData} (F : Fun K "_law_equal_right" "_law_equal_right" s__law_equal_right fa fd) (T : Tx K mg CE CN CT CB CR tM tP tF) (hC : ClR K CR) (C : RowK K CR fE)
    (rE : FnR P w K mg base CX0 2 fE (spEqX K CR)) (hfe : PySem.W.isFn K (.ref fE) = true) (rStr : FnR P w K mg base CX0 3 fS (spStr CR)) (hfs : PySem.W.isFn K (.ref fS) = true) (aS : PySem.W.findIn K (.ref CR) "__str__" = some (some (.ref fS)))
    (c_Row : Mkc P w K mg base (L2.CX P w) 4 CR "Row" (spRow0 CT CR)) (c_Row_numbers_period_step : MkcN P w K mg base (L2.CX P w) 4 CR "Row" 0 ["numbers", "period", "step"] gRow (spRow0 CT CR)) (c_first : Prp P w K mg base CX0 1 (· = CR) "first" (spFirst CR)) (od : ∀ ty ∈ tys6, PySem.W.kitOne K (.type ty) (.ref CR) = some false ∧ PySem.W.notFirst K CR (.type ty) = true)
    (c__law_draw : Cal P w K mg base CX0 1 "_law_draw" spDraw) (c__law_row : Cal P w K mg base CX0 6 "_law_row" (spLro CR)) (c__law_other : Cal P w K mg base CX0 3 "_law_other" spLot) :
    FnOk P w K mg base CX0 9 fa fd ["_law_pen_here", "_law_told_here"] spLeq := by
  refine F.ok sc__law_equal_right (fun vs H Q E h => ?_) (fun cdv A outer s0 H vs Q E hr h => ?_)
  · obtain ⟨pn, c, L, n, xs, p, d, rfl, _⟩ := h
    rfl
  · obtain ⟨pn, c, L, n, xs, p, d, rfl, hp0, hn, ht, hx, k⟩ := h
    obtain ⟨M, hL, hM, nL1, nL2, nM1, nM2⟩ := ht.ex
    have h1 := ht.h1
    have hp := ht.hp
    have lx : (xs.map V.int).length = xs.length := List.length_map _
    have h4 : sizeLine = 16777216 := sizeLine_eq
    refine ⟨_, (pss_cons (ps_asg (pe_tup (pa_cons (pe_cal c__law_row (hr.mono (by decide)) (by rfl) pass0 (pa_cons (pv 1) (pa_cons pe_bl pa_nil))) (pa_cons (pe_cal c__law_row (hr.mono (by decide)) (by rfl) pass0 (pa_cons (pe_cal c__law_other (hr.mono (by decide)) (by rfl) pass0 (pa_cons (pv 0) (pa_cons (pv 1) pa_nil))) (pa_cons pe_bl pa_nil))) pa_nil))) (pg_tup rfl (pgs_cons (pg_name (i := 2) sc__law_equal_right.nd rfl (by first | exact Or.inl rfl | exact Or.inr rfl)) (pgs_cons (pg_name (i := 3) sc__law_equal_right.nd rfl (by first | exact Or.inl rfl | exact Or.inr rfl)) pgs_nil))))
      (pss_cons (ps_if ((pw_or (pt_not (pt_cmpR (op_eqO rE hfe (hr.mono (by decide)) pass0) (pv 2) (pv 3) (nomark _))) (pw_or (pt_not (pt_cmpR (op_eqO rE hfe (hr.mono (by decide)) pass0) (pv 3) (pv 2) (nomark _))) (pw_or (pt_cmpR (op_neO rE hfe (hr.mono (by decide)) pass0) (pv 2) (pv 3) (nomark _)) (pw_or1 (pt_cmpR op_ne (pe_callTy (call_strOwn hfs rStr (hr.mono (by decide)) pass0) (by rfl) (T.bn _ (by decide +kernel)) (by decide +kernel) (pa_cons (pv 2) pa_nil)) (pe_callTy (call_strOwn hfs rStr (hr.mono (by decide)) pass0) (by rfl) (T.bn _ (by decide +kernel)) (by decide +kernel) (pa_cons (pv 3) pa_nil)) (nomark _))))))).pt (pss_one (ps_ret pe_bl)) pss_nil)
      (pss_cons (ps_set (i := 4) sc__law_equal_right.nd rfl (by first | exact Or.inl rfl | exact Or.inr rfl) (pe_callTy call_list_of (by rfl) (T.bn _ (by decide +kernel)) (by decide +kernel) (pa_cons (pe_ix ix_list (pv 1) pe_int (fun _ _ => rfl)) pa_nil)))
      (pss_cons (ps_set (i := 5) sc__law_equal_right.nd rfl (by first | exact Or.inl rfl | exact Or.inr rfl) (pe_cal c__law_draw (hr.mono (by decide)) (by rfl) pass0 (pa_cons (pv 0) (pa_cons (pe_callB call_len_seq (by rfl) (T.bn _ (by decide +kernel)) (by decide +kernel) (pa_cons (pv 4) pa_nil)) pa_nil))))
      (pss_cons (ps_asg (pe_op op_add (pe_ix ix_list (pv 4) (pv 5) (fun _ _ => rfl)) pe_int) (pg_sub (pv 4) (pv 5) set_list))
      (pss_cons (ps_if ((pw_or (pt_cmpR (op_eqO rE hfe (hr.mono (by decide)) pass0) (pv 2) (pe_mkc c_Row (hr.mono (by decide)) (by rfl) passN (pa_cons (pv 4) (pa_cons (pe_ix ix_list (pv 1) pe_int (fun _ _ => rfl)) (pa_cons (pe_ix ix_list (pv 1) pe_int (fun _ _ => rfl)) pa_nil)))) (nomark _)) (pw_or1 (pt_cmpR (op_eqO rE hfe (hr.mono (by decide)) pass0) (pv 2) (pe_mkc c_Row (hr.mono (by decide)) (by rfl) passN (pa_cons (pe_ix ix_list (pv 1) pe_int (fun _ _ => rfl)) (pa_cons (pe_ix ix_list (pv 1) pe_int (fun _ _ => rfl)) (pa_cons (pe_op op_add (pe_ix ix_list (pv 1) pe_int (fun _ _ => rfl)) pe_int) pa_nil)))) (nomark _))))).pt (pss_one (ps_ret pe_bl)) pss_nil)
      (pss_cons (ps_if (pt_cmpR (op_neNil hr) (pe_lc (own := [("_law_thing", 6)]) rfl sc__law_equal_right.nd (pi_list (pe_lst (pa_cons pe_non (pa_cons pe_bl (pa_cons pe_int (pa_cons pe_str (pa_cons (pe_ix ix_list (pv 1) pe_int (fun _ _ => rfl)) (pa_cons ((pe_prp c_first (hr.mono (by decide)) pass0) (pv 2)) (pa_cons (pe_callTy (call_strOwn hfs rStr (hr.mono (by decide)) pass0) (by rfl) (T.bn _ (by decide +kernel)) (by decide +kernel) (pa_cons (pv 2) pa_nil)) pa_nil))))))))) (blkOk_by (own := [("_law_thing", 6)]) (N := N__law_equal_right) (sc := defScope s__law_equal_right) (by decide +kernel)) (fun _ _ _ _ _ => (pg_name (i := 6) sc__law_equal_right.nd rfl (by first | exact Or.inl rfl | exact Or.inr rfl))) (fun _ _ _ _ _ => pts_one (pt_cmpR (op_eqOK rE hfe (hr.mono (by decide)) rfl rfl rfl rfl rfl rfl pass0) (pv 2) (pv 6) (nomark _))) (fun _ _ _ _ _ => pe_int)) (pe_lst pa_nil) (nomark _)) (pss_one (ps_ret pe_bl)) pss_nil)
      (pss_cons (ps_set (i := 7) sc__law_equal_right.nd rfl (by first | exact Or.inl rfl | exact Or.inr rfl) (pe_callTy call_list_of (by rfl) (T.bn _ (by decide +kernel)) (by decide +kernel) (pa_cons (pe_ix ix_list (pv 1) pe_int (fun _ _ => rfl)) pa_nil)))
      (pss_cons (ps_set (i := 8) sc__law_equal_right.nd rfl (by first | exact Or.inl rfl | exact Or.inr rfl) (pe_mkN0 c_Row_numbers_period_step (hr.mono (by decide)) (by rfl) passN (pk_cons (pv 7) (pk_cons (pe_ix ix_list (pv 1) pe_int (fun _ _ => rfl)) (pk_cons (pe_ix ix_list (pv 1) pe_int (fun _ _ => rfl)) pk_nil)))))
      (pss_cons (ps_asg (pe_op op_add (pe_ix ix_list (pv 7) pe_int (fun _ _ => rfl)) pe_int) (pg_sub (pv 7) pe_int set_list))
      (pss_cons (ps_expr (pe_bm PySem.F.plainAttrs_list PySem.F.slot_list_append PySem.F.type_list_append mt_append (pv 7) (pa_cons pe_int pa_nil)))
      (pss_one (ps_ret (pe_cmpR (op_eqO rE hfe (hr.mono (by decide)) pass0) (pv 8) (pv 2) (nomark _))))))))))))))), ?_⟩
    have eqR : ∀ {H' : Hp} {a b : Addr} {f g : Nat → Int} {s q s' q' : Nat} {e e' : Int} {Q' : VK}, RowAt CR H' a f s q e → RowAt CR H' b g s' q' e' → (f = g → Q' (.bl true) H') → (f ≠ g → Q' (.bl false) H') → rEqO K fE (spEqX K CR) E0 (.ref a) (.ref b) H' Q' := fun {H' a b f g s q s' q' e e' Q'} r1 r2 k1 k2 => by
      obtain ⟨dx, t, ha, _⟩ := r1.ex
      exact ⟨a, CR, dx, _, _, rfl, ha, C.eq, r2.tyX hC C, C.nfR, .inl ⟨a, b, f, g, s, q, e, s', q', e', rfl, r1, r2, fun z => ⟨_, rfl, k1 z⟩, fun z => ⟨_, rfl, k2 z⟩⟩⟩
    have neR : ∀ {H' : Hp} {a b : Addr} {f g : Nat → Int} {s q s' q' : Nat} {e e' : Int} {Q' : VK}, RowAt CR H' a f s q e → RowAt CR H' b g s' q' e' → f = g → Q' (.bl false) H' → rNeO K fE (spEqX K CR) E0 (.ref a) (.ref b) H' Q' := fun {H' a b f g s q s' q' e e' Q'} r1 r2 z k1 => by
      obtain ⟨dx, t, ha, _⟩ := r1.ex
      exact ⟨a, CR, dx, _, _, rfl, ha, C.eq, C.ne, C.hm, r2.tyX hC C, C.nfR, .inl ⟨a, b, f, g, s, q, e, s', q', e', rfl, r1, r2, fun _ => ⟨_, rfl, k1⟩, fun n => absurd z n⟩⟩
    have odR : ∀ {H' : Hp} {a : Addr} {f : Nat → Int} {s q : Nat} {e : Int} {v : V} {ty : String} {Q' : VK}, RowAt CR H' a f s q e → TyOf K H' v (.type ty) → ty ∈ tys6 → Q' (.bl false) H' → rEqO K fE (spEqX K CR) E0 (.ref a) v H' Q' := fun {H' a f s q e v ty Q'} r1 hv ht k1 => by
      obtain ⟨dx, t, ha, _⟩ := r1.ex
      obtain ⟨o1, o2⟩ := od ty ht
      exact ⟨a, CR, dx, _, _, rfl, ha, C.eq, .base hv, o2, .inr ⟨a, v, _, rfl, .base hv, o1, _, rfl, k1⟩⟩
    refine ⟨_, rfl, ?_⟩
    dsimp only [tNil]
    refine ⟨L, xs, p, d, true, rfl, ht.here, fun a H1 s q e b1 b2 b3 e1 r1 => ?_⟩
    have hp1 := hp0.ext e1
    have ht1 := ht.keep (Keep.ext e1)
    refine ⟨_, rfl, _, rfl, pn, c, L, n, xs, p, d, rfl, hp1, by omega, ht1, hx, fun L2 ys q2 e2 H2 ht2 ly he2 hp2 kp2 => ?_⟩
    refine ⟨L2, ys, q2, e2, false, rfl, ht2, fun b H3 s' q' e' _ _ _ e3 r2 => ?_⟩
    rw [he2] at r2
    obtain ⟨rfl, rfl, rfl⟩ := r1.can.uniq r2.can
    have r1 := (r1.keepP hp1 kp2).ext e3
    have hp3 := hp2.ext e3
    have kp3 : Keep pn c H H3 := ((Keep.ext e1).trans kp2).trans (Keep.ext e3)
    clear ht1 hp1 ht2 he2 hp2 kp2 e3 e1
    refine ⟨(by show 2 ≤ sizeLine; decide), fun J nJ => ?_⟩
    have e4 : Ext H3 (upd H3 J (.tup [.ref a, .ref b])) := Ext.upd nJ
    refine ⟨J, _, rfl, SqT.of upd_same, rfl, _, _, rfl, _, _, rfl, rfl, ?_⟩
    have r1 := r1.ext e4
    have r2 := r2.ext e4
    have hp4 := hp3.ext e4
    have kp4 := kp3.trans (Keep.ext e4)
    generalize (upd H3 J (.tup [.ref a, .ref b])) = H4 at r1 r2 hp4 kp4 ⊢
    clear hp3 kp3 e4 nJ
    obtain ⟨f, hf⟩ : ∃ f, f = ext xs p d := ⟨_, rfl⟩
    rw [← hf] at r1 r2
    have bs : (2 : Nat) ^ 150 < 10 ^ 60 := by decide +kernel
    have sme : e.natAbs < 10 ^ 60 := Nat.lt_of_le_of_lt (Nat.le_trans b3 ht.hd) bs
    have smf : ∀ m, m < s + q → (f m).natAbs < 10 ^ 60 := fun m hm => by
      rw [hf, ext_at (by omega), List.getD_eq_getElem?_getD, List.getElem?_eq_getElem (by omega)]
      exact Nat.lt_of_le_of_lt (ht.hn _ (List.getElem_mem (by omega))) bs
    refine ⟨_, rfl, _, rfl, eqR r1 r2 (fun _ => ⟨_, rfl, iteNo rfl ?_⟩) fun z => absurd rfl z⟩
    refine ⟨_, rfl, _, rfl, eqR r2 r1 (fun _ => ⟨_, rfl, iteNo rfl ?_⟩) fun z => absurd rfl z⟩
    refine ⟨_, rfl, _, rfl, neR r1 r2 rfl ⟨_, rfl, iteNo rfl ?_⟩⟩
    obtain ⟨dxa, ta, ha, _⟩ := r1.ex
    refine ⟨_, rfl, a, CR, dxa, _, rfl, ha, aS, a, f, s, q, e, rfl, r1, smf, sme, fun H5 e5 => ⟨_, rfl, ?_⟩⟩
    obtain ⟨dxb, tb, hb, _⟩ := (r2.ext e5).ex
    refine ⟨_, rfl, b, CR, dxb, _, rfl, hb, aS, b, f, s, q, e, rfl, r2.ext e5, smf, sme, fun H6 e6 => ⟨_, rfl, ?_⟩⟩
    refine ⟨rfl, _, rfl, iteNo (by rw [decide_eq_true rfl]; rfl) ?_⟩
    have e46 := e5.trans e6
    have r1 := r1.ext e46
    have hp6 := hp4.ext e46
    have kp6 := kp4.trans (Keep.ext e46)
    clear r2 hp4 kp4 e46 e5 e6 ha hb b2 b1 b3
    obtain ⟨M6, hL6, hM6, _⟩ := (ht.keep kp6).ex
    refine ⟨_, rfl, L, _, 0, .ref M6, rfl, rfl, SqL.of hL6, rfl, M6, _, rfl, .inl (SqL.of hM6), fun Lb nLb => ?_⟩
    have e7 : Ext H6 (upd H6 Lb (.lst (xs.map V.int))) := Ext.upd nLb
    have f7 : (upd H6 Lb (.lst (xs.map V.int))) Lb = some (.lst (xs.map V.int)) := upd_same
    obtain ⟨nbp, nbc⟩ := hp6.ne nLb
    have r1 := r1.ext e7
    have hp7 := hp6.ext e7
    have kp7 := kp6.trans (Keep.ext e7)
    have nHb : H Lb = none := by
      cases hz : H Lb with
      | none => rfl
      | some o => rw [kp6 _ _ hz nbp.symm nbc.symm] at nLb; cases nLb
    generalize (upd H6 Lb (.lst (xs.map V.int))) = H7 at e7 f7 r1 hp7 kp7 ⊢
    clear hp6 kp6 hL6 hM6 e7 nLb
    refine ⟨_, rfl, _, rfl, Lb, _, rfl, .inl (SqL.of f7), ?_⟩
    dsimp only [tNil]
    refine ⟨pn, c, n + 10, _, rfl, hp7, by omega, by rw [lx]; omega, by rw [lx]; omega, fun j H8 j0 j1 hp8 kp8 => ?_⟩
    obtain ⟨i, rfl⟩ : ∃ i : Nat, j = i := ⟨j.toNat, by omega⟩
    have il : i < xs.length := by rw [lx] at j1; omega
    have r1 := r1.keepP hp7 kp8
    have f8 := kp8 _ _ f7 nbp.symm nbc.symm
    have kp8 := kp7.trans kp8
    clear hp7 kp7 f7
    obtain ⟨y, hy⟩ : ∃ y, xs.getD i 0 = y := ⟨_, rfl⟩
    have at_ : (xs.map V.int)[i]? = some (.int y) := by
      rw [List.getElem?_map, ← hy, List.getD_eq_getElem?_getD, List.getElem?_eq_getElem il]
      rfl
    refine ⟨_, rfl, _, rfl, Lb, _, _, .int y, rfl, rfl, SqL.of f8, atI_nat at_, _, _, rfl, rfl, ?_⟩
    refine ⟨_, rfl, _, rfl, Lb, _, _, i, rfl, rfl, f8, by rw [lx]; unfold ixN; rw [if_pos (by omega), if_pos (by omega)]; simp, ?_⟩
    obtain ⟨zs, hzs⟩ : ∃ zs, xs.set i (y + 1) = zs := ⟨_, rfl⟩
    have lz : zs.length = xs.length := by rw [← hzs, List.length_set]
    have ez : (xs.map V.int).set i (.int (y + 1)) = fl (ext zs p d) zs.length := by rw [← fl_ints, ← hzs, List.map_set]
    have nez : f ≠ ext zs p d := fun z => by
      have h2 := congrFun z i
      rw [hf, ext_at il, hy, ext_at (by rw [lz]; exact il), ← hzs, List.getD_eq_getElem?_getD, List.getElem?_set_self il] at h2
      have h2 : y = y + 1 := h2
      omega
    have f9 : (upd H8 Lb (.lst ((xs.map V.int).set i (.int (y + 1))))) Lb = some (.lst (fl (ext zs p d) zs.length)) := by rw [upd_same, ez]
    have r1 : RowAt CR (upd H8 Lb (.lst ((xs.map V.int).set i (.int (y + 1))))) a f s q e := r1.keepL fun b o hb h => by rw [upd_ne (fun z => by rw [z, f8] at hb; exact h _ (Option.some.inj hb).symm)]; exact hb
    have hp9 := hp8.upd (o := .lst ((xs.map V.int).set i (.int (y + 1)))) nbp nbc
    have kp9 : Keep pn c H (upd H8 Lb (.lst ((xs.map V.int).set i (.int (y + 1))))) := fun b o hb h1 h2 => by
      rw [upd_ne (ne_of_none hb nHb)]
      exact kp8 b o hb h1 h2
    generalize (upd H8 Lb (.lst ((xs.map V.int).set i (.int (y + 1))))) = H9 at f9 r1 hp9 kp9 ⊢
    clear f8 kp8 hp8 at_ ez
    obtain ⟨M9, hL9, hM9, _⟩ := (ht.keep kp9).ex
    refine ⟨_, rfl, _, rfl, _, rfl, L, _, 1, .int p, rfl, rfl, SqL.of hL9, rfl, _, rfl, L, _, 2, .int d, rfl, rfl, SqL.of hL9, rfl, ?_⟩
    refine mk_row2 (.inl f9) (ext_eq h1 (by omega)) (by omega) (by omega) fun s' p' d' x H10 _ _ _ e10 rx => ⟨rfl, ?_⟩
    have r1 := r1.ext e10
    have hp10 := hp9.ext e10
    have kp10 := kp9.trans (Keep.ext e10)
    refine eqR r1 rx (fun z => absurd z nez) fun _ => ⟨_, rfl, iteNo rfl ?_⟩
    clear hL9 hM9 kp9 hp9 f9 rx e10
    obtain ⟨M10, hL10, hM10, _⟩ := (ht.keep kp10).ex
    refine ⟨_, rfl, _, rfl, L, _, 0, .ref M10, rfl, rfl, SqL.of hL10, rfl, _, rfl, L, _, 1, .int p, rfl, rfl, SqL.of hL10, rfl, _, rfl, L, _, 2, .int d, rfl, rfl, SqL.of hL10, rfl, _, _, rfl, rfl, ?_⟩
    rw [fl_ints xs p (d + 1)] at hM10
    refine mk_row2 (.inl hM10) (ext_eq h1 hp) hp (by omega) fun s'' p'' d'' x2 H11 _ _ _ e11 rx => ⟨rfl, ?_⟩
    have r1 := r1.ext e11
    have hp11 := hp10.ext e11
    have kp11 := kp10.trans (Keep.ext e11)
    have ned : f ≠ ext xs p (d + 1) := fun z => by
      have h2 := congrFun z xs.length
      rw [hf] at h2
      unfold ext at h2
      rw [if_neg (by omega), if_neg (by omega), Nat.sub_self, Nat.zero_div] at h2
      have h2 : xs.getD (xs.length - p + 0 % p) 0 + ((0 + 1 : Nat) : Int) * d = xs.getD (xs.length - p + 0 % p) 0 + ((0 + 1 : Nat) : Int) * (d + 1) := h2
      omega
    refine eqR r1 rx (fun z => absurd z ned) fun _ => ⟨_, rfl, iteNo rfl ?_⟩
    clear hL10 hM10 kp10 hp10 rx e11
    obtain ⟨M11, hL11, hM11, _⟩ := (ht.keep kp11).ex
    obtain ⟨dx11, t11, ha11, ht11⟩ := r1.ex
    refine ⟨_, rfl, L, _, 0, .ref M11, rfl, rfl, SqL.of hL11, rfl, ?_⟩
    refine ⟨_, rfl, a, CR, dx11, _, rfl, ha11, rfl, a, f, s, q, e, rfl, r1, fun t12 ht12 => ?_⟩
    refine ⟨_, rfl, a, CR, dx11, _, rfl, ha11, aS, a, f, s, q, e, rfl, r1, smf, sme, fun H12 e12 => ⟨_, rfl, ?_⟩⟩
    refine ⟨(by show 7 ≤ sizeLine; decide), fun Lo nLo => ⟨Lo, rfl, ⟨_, SqL.of upd_same⟩, fun D nD => ?_⟩⟩
    have r1 := r1.ext e12
    have hp12 := hp11.ext e12
    have kp12 := kp11.trans (Keep.ext e12)
    have m12 := e12 _ _ hM11
    have t12' := e12 _ _ ht12
    generalize hlo : [V.non, .bl true, .int 0, .str "", .ref M11, .ref t12, .str (Txt.join " " (rowW f s q e))] = lo at nD ⊢
    have ty : ∀ v ∈ lo, ∃ t, (∀ H', Ext H12 H' → TyOf K H' v (.type t)) ∧ t ∈ tys6 := fun v hv => by
      rw [← hlo] at hv
      simp only [List.mem_cons, List.not_mem_nil, or_false] at hv
      rcases hv with rfl | rfl | rfl | rfl | rfl | rfl | rfl
      · exact ⟨_, fun _ _ => .non, by decide⟩
      · exact ⟨_, fun _ _ => .bl _, by decide⟩
      · exact ⟨_, fun _ _ => .int _, by decide⟩
      · exact ⟨_, fun _ _ => .str _, by decide⟩
      · exact ⟨_, fun _ e => .lst (e _ _ m12), by decide⟩
      · exact ⟨_, fun _ e => .tup (e _ _ t12'), by decide⟩
      · exact ⟨_, fun _ _ => .str _, by decide⟩
    have e13 : Ext H12 (upd H12 Lo (.lst lo)) := Ext.upd nLo
    have f13 : (upd H12 Lo (.lst lo)) Lo = some (.lst lo) := upd_same
    have r1 := r1.ext e13
    have hp13 := hp12.ext e13
    have kp13 := kp12.trans (Keep.ext e13)
    generalize (upd H12 Lo (.lst lo)) = H13 at e13 f13 r1 hp13 kp13 nD ⊢
    clear hL11 hM11 ht11 ha11 hp11 hp12 kp11 kp12 m12 t12' nLo e12
    have nDo : Lo ≠ D := ne_of_none f13 nD
    refine lc_it (walk_list (K := K) (xs := lo)) (fun i Hx => Hx = upd H13 D (.lst [])) rfl (fun i Hx _ h => SqL.of (by rw [h, upd_ne nDo]; exact f13)) ?_ ?_
    · rintro i v Hx H' hi rfl ⟨rfl, hv⟩
      obtain ⟨tv, h1', h2'⟩ := ty v (List.mem_of_getElem? hv)
      refine ⟨rfl, _, rfl, _, rfl, odR (r1.ext (Ext.upd nD)) (h1' _ (e13.trans (Ext.upd nD))) h2' ⟨_, rfl, ?_⟩⟩
      exact iteNo rfl rfl
    rintro Hx rfl
    refine ⟨(by show 0 ≤ sizeLine; decide), fun El nEl => ⟨D, El, [], rfl, rfl, (Ext.upd nEl) _ _ upd_same, upd_same, _, rfl, iteNo rfl ?_⟩⟩
    have e14 := (Ext.upd (o := .lst []) nD).trans (Ext.upd (o := .lst []) nEl)
    have r1 := r1.ext e14
    have hp14 := hp13.ext e14
    have kp14 := kp13.trans (Keep.ext e14)
    generalize (upd (upd H13 D (.lst [])) El (.lst [])) = H14 at e14 r1 hp14 kp14 ⊢
    clear f13 hp13 kp13 nD nEl e13 ty hlo e14
    obtain ⟨M14, hL14, hM14, _⟩ := (ht.keep kp14).ex
    refine ⟨_, rfl, L, _, 0, .ref M14, rfl, rfl, SqL.of hL14, rfl, M14, _, rfl, .inl (SqL.of hM14), fun Lh nLh => ?_⟩
    have e15 : Ext H14 (upd H14 Lh (.lst (xs.map V.int))) := Ext.upd nLh
    have f15 : (upd H14 Lh (.lst (xs.map V.int))) Lh = some (.lst (xs.map V.int)) := upd_same
    obtain ⟨nhp, nhc⟩ := hp14.ne nLh
    have r1 := r1.ext e15
    have hp15 := hp14.ext e15
    have hL15 := e15 _ _ hL14
    generalize (upd H14 Lh (.lst (xs.map V.int))) = H15 at e15 f15 r1 hp15 hL15 ⊢
    clear hp14 kp14 hL14 hM14 nLh e15
    refine ⟨_, rfl, _, rfl, L, _, 1, .int p, rfl, rfl, SqL.of hL15, rfl, _, rfl, L, _, 2, .int d, rfl, rfl, SqL.of hL15, rfl, ?_⟩
    dsimp only [tNil]
    refine ⟨rfl, rfl, ?_⟩
    have f15' := f15
    rw [fl_ints xs p d] at f15'
    refine mk_row2 (.inl f15') (ext_eq h1 hp) hp (by omega) fun s3 p3 d3 x3 H16 _ _ _ e16 rk => ⟨rfl, ?_⟩
    rw [← hf] at rk
    have r1 := r1.ext e16
    have hp16 := hp15.ext e16
    have f16 := e16 _ _ f15
    have x0 : 0 < xs.length := by omega
    have at0 : (xs.map V.int)[0]? = some (.int (xs.getD 0 0)) := by
      rw [List.getElem?_map, List.getD_eq_getElem?_getD, List.getElem?_eq_getElem x0]
      rfl
    refine ⟨_, rfl, Lh, _, 0, .int (xs.getD 0 0), rfl, rfl, SqL.of f16, atI_nat (j := 0) at0, _, _, rfl, rfl, ?_⟩
    refine ⟨_, rfl, Lh, _, 0, 0, rfl, rfl, f16, by unfold ixN; rw [if_pos (by omega), if_pos (by omega)]; rfl, ?_⟩
    obtain ⟨w1, hw1⟩ : ∃ w, (xs.map V.int).set 0 (.int (xs.getD 0 0 + 5)) = w := ⟨_, rfl⟩
    have lw : w1.length = xs.length := by rw [← hw1, List.length_set, List.length_map]
    have kl : ∀ (H' : Hp) (zs : List V) (ys : List V), H' Lh = some (.lst zs) → ∀ b o, H' b = some o → (∀ xs, o ≠ .lst xs) → (upd H' Lh (.lst ys)) b = some o := fun H' zs ys hz b o hb h => by
      rw [upd_ne (fun z => by rw [z, hz] at hb; exact h _ (Option.some.inj hb).symm)]
      exact hb
    have f17 : (upd H16 Lh (.lst ((xs.map V.int).set 0 (.int (xs.getD 0 0 + 5))))) Lh = some (.lst w1) := by rw [upd_same, hw1]
    have r1 := r1.keepL (kl H16 _ ((xs.map V.int).set 0 (.int (xs.getD 0 0 + 5))) f16)
    have rk := rk.keepL (kl H16 _ ((xs.map V.int).set 0 (.int (xs.getD 0 0 + 5))) f16)
    have hp17 := hp16.upd (o := .lst ((xs.map V.int).set 0 (.int (xs.getD 0 0 + 5)))) nhp nhc
    generalize (upd H16 Lh (.lst ((xs.map V.int).set 0 (.int (xs.getD 0 0 + 5))))) = H17 at f17 r1 rk hp17 ⊢
    refine ⟨_, rfl, .inl ⟨rfl, _, SqL.of f17⟩, Lh, _, .int 3, rfl, rfl, f17, by rw [lw]; omega, ?_⟩
    have r1 := r1.keepL (kl H17 _ (w1 ++ [.int 3]) f17)
    have rk := rk.keepL (kl H17 _ (w1 ++ [.int 3]) f17)
    have hp18 := hp17.upd (o := .lst (w1 ++ [.int 3])) nhp nhc
    exact ⟨_, rfl, _, rfl, eqR rk r1 (fun _ => k _ (hp18.mono (by omega))) fun z => absurd rfl z⟩
end
end K09
end
section
set_option Elab.async false
set_option autoImplicit false
set_option linter.all false
set_option maxRecDepth 100000
set_option maxHeartbeats 4000000
namespace Ls
open PySem PySem.Spec PyProof.Rows L2
structure StmN (P : Program) (w : World) (K : PySem.W.Frag) (mg : Str → Option Value) (base : Heap) (CX : CXT) (k : Nat) (C : Addr) (m : Str) (ks : List Str) (gV : List V → List V → List V) (sp : Sp) : Prop where
  ex : ∃ (mc : Value) (p g : Addr) (rest : List Value) (fd : FuncData) (ps : List Str) (gg : List Value → List Value → List Value), PySem.W.typeIn K (.ref C) = some mc ∧ ClX.CRead K C mc ∧ PySem.W.findCls K (.ref C) mc m = some (.get (.builtin "staticmethod.__get__") (.ref p) .none (.ref C)) ∧ PySem.W.recIn K p "staticmethod" = some (.ref g :: rest) ∧ PySem.W.keepIn K (.ref g) = true ∧ FnOk P w K mg base CX k g fd ps sp ∧ KBn K fd ps 0 ks gg gV
section
variable {X : Cx} {CX : CXT} {k : Nat} {C : Addr} {m : Str} {sp : Sp} {E : XK} {o : PySem.Expr} {ta : TE} {tk : TA} {kws : List Keyword} {ks : List Str} {gV : List V → List V → List V} {apos pos : Pos} {pl : Sem Bool}
theorem pe_stmN (c : StmN X.prog X.w X.K X.mg X.base CX k C m ks gV sp) (hr : Room k X.A) (ho : PE X o ta) (hx : Passes CX X E) (hkw : PK X kws tk)
    (hall : (backToKw pos (keywordEach kws X.env)).all (·.1.isSome) = true := by rfl) (hks : (backToKw pos (keywordEach kws X.env)).filterMap (·.1) = ks := by rfl)
    (hpl : ((backTo pos (starEach [] X.env)).any (·.1) || (backToKw pos (keywordEach kws X.env)).any (·.1.isNone)) = false := by rfl)
    (ht : eval (.Call (.Attribute o m apos) [] kws pos) X.env = (do
      let ov ← eval o X.env
      standAt apos.atName
      let (f, first) ← holding [ov] (getMethod ov m pl)
      callWith pos f first (backTo pos (starEach [] X.env)) (backToKw pos (keywordEach kws X.env))) := by rfl) :
    PE X (.Call (.Attribute o m apos) [] kws pos) (fun σ H Q => ta σ H fun v H1 => v = .ref C ∧ tk σ H1 fun zs H2 => zs.length = ks.length ∧ sp (gV [] zs) H2 Q E) := by
  obtain ⟨mc, p', g, rest, fd, ps, gg, ty, rd, fc, hp, kp, F, hb⟩ := c.ex
  refine ⟨fun pins s σ H Q I h => PySem.W.methodCall_KW (pl := pl) (thn (ho.run pins s σ H _ I h) fun u s1 q1 => ?_) ht⟩
  obtain ⟨v, H1, I1, rv, rfl, q1⟩ := q1
  obtain rfl : u = Value.ref C := rv
  refine PySem.W.method_cls I1.kIn rd.ga ?_
  obtain ⟨mm, hF⟩ := I1.fr
  have J : Inv X pins σ H1 { s1 with toks := s1.toks + 1 } := I1.kept fun b o e => e
  refine PySem.W.cls_sm hF I1.ok.mod.kin ty rd.rd fc hp rfl ?_
  refine PySem.W.callWith_KW0 (h₀ := X.base) J.ok.mod.kin kp hall (thn (hkw.run pos pins _ σ H1 _ J q1) fun ws s3 q3 => ?_) hpl
  obtain ⟨zs, H2, I3, rz, lz, q3⟩ := q3
  refine ⟨I3.kIn, ?_⟩
  rw [hks]
  have r2 : Vals (gV [] zs) (gg [] ws) := hb.rel .nil rz
  have hl : (gg [] ws).length = ps.length := by rw [← r2.length]; exact F.len _ _ _ _ q3
  have lw : ws.length = ks.length := by rw [← rz.length]; exact lz
  refine wpAny_call (codeAny_mono (F.run X.A X.stack s3 H2 ⟨[], ks.zip ws⟩ (gg [] ws) (gV [] zs) Q E hr I3.env0 (hb.to s3 [] ws I3.kIn rfl lw) r2 q3) fun res s' hq => ?_)
  match res, hq with
  | .error e, hq => exact hx _ σ H2 s3 e s' I3 hq
  | .ok (.ret u), hq => exact I3.after hq
end
end Ls
end
section
set_option Elab.async false
set_option autoImplicit false
set_option linter.all false
set_option maxRecDepth 100000
set_option maxHeartbeats 4000000
set_option pp.maxSteps 1500
namespace K09
open PySem PySem.Spec PyProof.Rows L2 Ls RowM
open C8 (pss_cut tCut)
open TL
section
variable {P : Program} {w : World} {K : PySem.W.Frag} {mg : Str → Option Value} {base : Heap} {CE CN CT CB CR : Addr} {tM tP tF : Tok}
def gEv : List V → List V → List V := fun us zs => us ++ zs
def spLaw (K : PySem.W.Frag) : Sp := fun vs H Q _ => ∃ (a : Addr) (ns : List Int), vs = [.ref a] ∧ SqL K H a (ns.map V.int) ∧ ns.length ≤ 63 ∧ ∀ H', Q (.bl true) H'
abbrev s_law : Stmt := top 44
abbrev N_law : List Str := ["_law_script", "_law_pen_here", "_law_bout", "_law_told_here", "_law_low", "_law_gain", "_law_even_so"]
theorem sc_law : FnScope N_law ["_law_script"] (defScope s_law) := ⟨rfl, rfl, rfl, by decide +kernel, rfl, by decide +kernel, by decide +kernel⟩
theorem ok_law {fa fE rG : Addr} {fd : FuncData} (F : Fun K "law" "law" s_law fa fd) (T : Tx K mg CE CN CT CB CR tM tP tF) (hC : ClR K CR) (C : RowK K CR fE) (rE : FnR P w K mg base CX0 2 fE (spEqX K CR)) (hfe : PySem.W.isFn K (.ref fE) = true) (rGet : FnR P w K mg base (L2.CX P w) 4 rG (spGet CN CR)) (hGet : OwnGet K CR rG)
    (c_Row : Mkc P w K mg base (L2.CX P w) 4 CR "Row" (spRow0 CT CR)) (c_Row_even_first_step : StmN P w K mg base (L2.CX P w) 6 CR "even" ["first", "step"] gEv (spEvenX CN CR))
    (c__law_pen : Cal P w K mg base CX0 1 "_law_pen" (spPen K)) (c__law_draw : Cal P w K mg base CX0 1 "_law_draw" spDraw) (c__law_told : Cal P w K mg base CX0 3 "_law_told" spTold) (c__law_right : CalG P w K mg base CX0 12 "_law_right" (spLri CR)) (c__law_equal_right : Cal P w K mg base CX0 9 "_law_equal_right" spLeq) :
    FnG P w K mg base CX0 15 fa fd ["_law_script"] (spLaw K) := by
  refine okG F sc_law (fun vs H Q E h => ?_) (fun cdv A outer s0 H vs Q E hcd hgd hr h => ?_)
  · obtain ⟨a, ns, rfl, _⟩ := h
    rfl
  · obtain ⟨a, ns, rfl, ha, hn, k⟩ := h
    refine ⟨_, (pss_cons (ps_set (i := 1) sc_law.nd rfl (by first | exact Or.inl rfl | exact Or.inr rfl) (pe_cal c__law_pen (hr.mono (by decide)) (by rfl) pass0 (pa_cons (pv 0) pa_nil)))
      (pss_cons (ps_for PassesOwn.never rfl (pi_range1 rfl (T.bn _ (by decide +kernel)) (pa_cons pe_int pa_nil)) (pg_name (i := 2) sc_law.nd rfl (by first | exact Or.inl rfl | exact Or.inr rfl))
      (pss_cons (ps_set (i := 3) sc_law.nd rfl (by first | exact Or.inl rfl | exact Or.inr rfl) (pe_cal c__law_told (hr.mono (by decide)) (by rfl) pass0 (pa_cons (pv 1) pa_nil)))
      (pss_one (ps_if ((pw_or (pt_not (pt_val (pe_calG hgd c__law_right (hr.mono (by decide)) (by rfl) pass0 (pa_cons (pv 1) (pa_cons (pv 3) pa_nil))))) (pw_or1 (pt_not (pt_val (pe_cal c__law_equal_right (hr.mono (by decide)) (by rfl) pass0 (pa_cons (pv 1) (pa_cons (pv 3) pa_nil)))))))).pt (pss_one (ps_ret pe_bl)) pss_nil))))
      (pss_cons (ps_par (i := 4) (j := 5) rfl sc_law.nd rfl rfl (by decide) rfl rfl (pa_cons (pe_op op_sub (pe_cal c__law_draw (hr.mono (by decide)) (by rfl) pass0 (pa_cons (pv 1) (pa_cons pe_int pa_nil))) pe_int) (pa_cons (pe_op op_sub (pe_cal c__law_draw (hr.mono (by decide)) (by rfl) pass0 (pa_cons (pv 1) (pa_cons pe_int pa_nil))) pe_int) pa_nil)) (by rfl))
      (pss_cons (ps_set (i := 6) sc_law.nd rfl (by first | exact Or.inl rfl | exact Or.inr rfl) (pe_stmN c_Row_even_first_step (hr.mono (by decide)) (pe_gref (by rfl) T.m_Row) passN (pk_cons (pv 4) (pk_cons (pv 5) pk_nil))))
      (pss_one (ps_ret (pe_and (pe_cmpR (op_eqO rE hfe (hr.mono (by decide)) pass0) (pv 6) (pe_mkc c_Row (hr.mono (by decide)) (by rfl) passN (pa_cons (pe_lst (pa_cons (pv 4) (pa_cons (pe_op op_add (pv 4) (pv 5)) pa_nil))) (pa_cons pe_int (pa_cons (pv 5) pa_nil)))) (nomark _)) (pe_one (pe_cmpR op_eq (pe_ixO rGet hGet (hr.mono (by decide)) passN (pv 6) pe_int (fun _ _ => rfl)) (pe_op op_add (pv 4) (pe_op op_mul pe_int (pv 5))) (nomark _)))))))))), ?_⟩
    refine ⟨_, rfl, ?_⟩
    dsimp only [tNil]
    refine ⟨a, ns, rfl, ha, by omega, fun p c H1 hp e1 np nc => ?_⟩
    refine ⟨12, rfl, by decide, by decide, ?_⟩
    refine for_it (D := { nx := _, rt := Q }) walk_range (fun i σ H' => ∃ x2 x3, σ = [some (.ref a), some (.ref p), x2, x3, none, none, none] ∧ PenAt H' p c (100 * i)) ⟨_, _, rfl, hp⟩ (fun _ _ _ _ _ => trivial) ?_ ?_
    · rintro i x σ _ H2 hi ⟨x2, x3, rfl, hp2⟩ ⟨rfl, rfl⟩
      have hi : i < 12 := hi
      refine ⟨_, rfl, p, c, 100 * i, rfl, hp2, by omega, fun L xs q d H3 ht lx _ _ _ hp3 kp3 => ?_⟩
      refine ⟨_, rfl, _, rfl, p, c, L, _, xs, q, d, rfl, hp3, by omega, ht, by omega, fun H4 hp4 kp4 => ⟨_, rfl, iteNo rfl ?_⟩⟩
      refine ⟨_, rfl, _, rfl, p, c, L, _, xs, q, d, rfl, hp4, by omega, ht.keep kp4, by omega, fun H5 hp5 => ⟨_, rfl, iteNo rfl ?_⟩⟩
      exact ⟨_, _, rfl, hp5.mono (by omega)⟩
    rintro σ H6 ⟨x2, x3, rfl, hp6⟩
    refine ⟨_, rfl, p, c, _, 99, rfl, hp6, by decide, by decide, by decide, fun j1 H7 a0 a1 hp7 kp7 => ⟨_, _, rfl, rfl, ?_⟩⟩
    refine ⟨_, rfl, p, c, _, 99, rfl, hp7, by decide, by decide, by decide, fun j2 H8 b0 b1 hp8 kp8 => ⟨_, _, rfl, rfl, ?_⟩⟩
    refine ⟨_, _, rfl, ?_⟩
    have blo : (-50 ≤ j1 - 50 ∧ j1 - 50 ≤ 50) := by omega
    have bga : (-50 ≤ j2 - 50 ∧ j2 - 50 ≤ 50) := by omega
    show tSeq _ _ _ [some (.ref a), some (.ref p), x2, x3, some (.int (j1 - 50)), some (.int (j2 - 50)), none] H8
    generalize j1 - 50 = lo at blo ⊢
    generalize j2 - 50 = ga at bga ⊢
    refine ⟨rfl, _, rfl, _, rfl, rfl, .inl ⟨lo, ga, rfl, fun x H9 e9 rx => ?_⟩⟩
    refine ⟨_, rfl, _, rfl, _, rfl, _, rfl, _, _, rfl, rfl, (by show 2 ≤ sizeLine; decide), fun Lr nLr => ⟨_, rfl, ?_⟩⟩
    have f10 : (upd H9 Lr (.lst [.int lo, .int (lo + ga)])) Lr = some (.lst (fl (lin lo ga) 2)) := by
      rw [upd_same]
      show some (HO.lst [V.int lo, V.int (lo + ga)]) = some (HO.lst [V.int (lo + ((0 : Nat) : Int) * ga), V.int (lo + ((1 : Nat) : Int) * ga)])
      rw [Int.natCast_zero, Int.zero_mul, Int.add_zero, Int.natCast_one, Int.one_mul]
    have e10 : Ext H9 (upd H9 Lr (.lst [.int lo, .int (lo + ga)])) := Ext.upd nLr
    refine mk_row2 (L := 2) (p := 1) (.inl f10) ((lin_eq lo ga).up (Nat.zero_le _)) (by decide) (by decide) fun s' p' d' y H11 _ _ _ e11 ry => ⟨rfl, ?_⟩
    have rx11 := (rx.ext e10).ext e11
    obtain ⟨dx, t, hx, _⟩ := rx11.ex
    refine ⟨x, CR, dx, _, _, rfl, hx, C.eq, ry.tyX hC C, C.nfR, .inl ⟨x, y, _, _, 0, 1, ga, s', p', d', rfl, rx11, ry, fun _ => ⟨_, rfl, ?_⟩, fun z => absurd rfl z⟩⟩
    refine ⟨_, rfl, iteYes rfl ?_⟩
    refine ⟨_, rfl, x, dx, _, rfl, hx, x, _, 0, 1, ga, .int 7, .int 7, rfl, rx11, .int _, Nat.lt_of_le_of_lt (show ga.natAbs ≤ 50 by omega) (by decide +kernel), fun m em => ?_, fun hb => absurd (hb 7 rfl) (by decide)⟩
    have em : m = 7 := by
      have := PyData.int.inj em
      omega
    subst em
    refine ⟨by decide +kernel, _, rfl, _, rfl, _, _, rfl, rfl, .inl ⟨by decide, by decide⟩, _, _, rfl, rfl, rfl, ?_⟩
    rw [decide_eq_true (show V.int (lin lo ga 7) = V.int (lo + 7 * ga) from rfl)]
    exact k _
end
end K09
end
section
set_option Elab.async false
set_option autoImplicit false
set_option linter.all false
set_option maxRecDepth 100000
set_option maxHeartbeats 4000000
namespace K09
open PySem PySem.Spec PyProof.Rows L2 Ls
open C8 (pss_cut tCut)
open TL
section
variable {P : Program} {w : World} {K : PySem.W.Frag} {mg : Str → Option Value} {base : Heap} {CE CN CT CB CR : Addr} {tM tP tF : Tok}
abbrev s_BadNumber_init : Stmt := inClass (top 3) 0
theorem sc_BadNumber_init : ScS ["self", "value"] ["self", "value"] (defScope s_BadNumber_init) := ⟨rfl, rfl, rfl, by decide +kernel, rfl, by decide +kernel, by decide +kernel, by decide +kernel⟩
theorem ok_BadNumber_init {f cda cc C : Addr} {fd : FuncData} (F : Ls.FunS K "__init__" "BadNumber.__init__" s_BadNumber_init f fd cda cc) (S : SupE P K mg C C cc cda) (no : PySem.W.findIn K (.ref C) "value" = some none) :
    FnOk P w K mg base CX0 1 f fd ["self", "value"] (spX C ["value"]) := by
  obtain ⟨oc, od, kV, doc, pm, an, ct, osl, rfl, lk, hcd⟩ := F.ex
  refine fn_superE (N := ["self", "value"]) lk hcd sc_BadNumber_init rfl rfl rfl rfl rfl (fun vs H Q E h => ?_) (fun A outer s H vs Q E hr h => ?_) (fun _ => rfl) (fun _ => rfl) (fun _ => rfl) (fun _ => rfl) (fun _ => rfl)
  · obtain ⟨a, ys, rfl, hl, _⟩ := h
    simpa using hl
  · obtain ⟨a, ys, rfl, hl, ha, k⟩ := h
    obtain ⟨y, rfl⟩ : ∃ y, ys = [y] := by
      match ys, hl with
      | [y], _ => exact ⟨y, rfl⟩
    refine ⟨a, C, C, [y], _, _, rfl, ha, S, pa_cons pe_str pa_nil, pss_one (ps_ost (pv 0) (pv 1) rfl), ?_⟩
    refine ⟨(by show 1 ≤ 1000; decide), ha, _, rfl, _, rfl, a, C, rfl, S.oex, no, .inl ⟨ha, fun dx n ne => ?_⟩⟩
    refine k dx _ n ne upd_same (by rw [upd_ne ne]; exact upd_same) fun b h1 h2 => ?_
    rw [upd_ne h1, upd_ne h2]
abbrev s_TooMany_init : Stmt := inClass (top 4) 0
theorem sc_TooMany_init : ScS ["self", "most"] ["self", "most"] (defScope s_TooMany_init) := ⟨rfl, rfl, rfl, by decide +kernel, rfl, by decide +kernel, by decide +kernel, by decide +kernel⟩
theorem ok_TooMany_init {f cda cc C : Addr} {fd : FuncData} (F : Ls.FunS K "__init__" "TooMany.__init__" s_TooMany_init f fd cda cc) (S : SupE P K mg C C cc cda) (no : PySem.W.findIn K (.ref C) "most" = some none) :
    FnOk P w K mg base CX0 1 f fd ["self", "most"] (spX C ["most"]) := by
  obtain ⟨oc, od, kV, doc, pm, an, ct, osl, rfl, lk, hcd⟩ := F.ex
  refine fn_superE (N := ["self", "most"]) lk hcd sc_TooMany_init rfl rfl rfl rfl rfl (fun vs H Q E h => ?_) (fun A outer s H vs Q E hr h => ?_) (fun _ => rfl) (fun _ => rfl) (fun _ => rfl) (fun _ => rfl) (fun _ => rfl)
  · obtain ⟨a, ys, rfl, hl, _⟩ := h
    simpa using hl
  · obtain ⟨a, ys, rfl, hl, ha, k⟩ := h
    obtain ⟨y, rfl⟩ : ∃ y, ys = [y] := by
      match ys, hl with
      | [y], _ => exact ⟨y, rfl⟩
    refine ⟨a, C, C, [y], _, _, rfl, ha, S, pa_cons pe_str pa_nil, pss_one (ps_ost (pv 0) (pv 1) rfl), ?_⟩
    refine ⟨(by show 1 ≤ 1000; decide), ha, _, rfl, _, rfl, a, C, rfl, S.oex, no, .inl ⟨ha, fun dx n ne => ?_⟩⟩
    refine k dx _ n ne upd_same (by rw [upd_ne ne]; exact upd_same) fun b h1 h2 => ?_
    rw [upd_ne h1, upd_ne h2]
end
end K09
end
section
set_option Elab.async false
set_option linter.all false
set_option maxRecDepth 100000
set_option maxHeartbeats 8000000
namespace K09
open PySem PySem.Spec PyProof.Rows L2 Ls RowM
theorem all_mk {l : PySem.W.OpenLaw} {w : World} {K : PySem.W.Frag} {q : Program} {h : Heap} {mg : Str → Option Value} {fa : Addr} (X : K.In h) (G : h.Ns mainGlobals mg) (hfa : mg "law" = some (.ref fa))
    (ow : ∀ (x : Str) (fx : Addr), ((recsOf q).any fun e => e.name == x) = true → mg x = some (.ref fx) → LamX.OwnTab K fx h)
    {CE : Addr}
    {tM tP tF : Tok} {zF : Str}
    {vP : Int}
    {CB : Addr}
    {CN : Addr}
    {CT : Addr}
    {fN_ ccN cdaN : Addr} {clN cclN : Value} {cldN cddN : Option Addr} {cslN ccsN : Array (Option Value)} {vsN : Array Value} {fileN : Str} {tfN : Tok} {cdatN : ClassData}
    {xnmN xqN : Str} {xNN : Addr} {xbsN xbmN xsubN : List Value} {xsnN : List Str} {xabN : Bool} {xcolN : Option Bool} {xddN : Option Addr} {xaN xbN xcN xdN xeN : Option Value}
    {odIN anIN : Option Addr} {slIN : Array (Option Value)} {ocIN kVIN dcIN pmIN ctIN : Value}
    {fT_ ccT cdaT : Addr} {clT cclT : Value} {cldT cddT : Option Addr} {cslT ccsT : Array (Option Value)} {vsT : Array Value} {fileT : Str} {tfT : Tok} {cdatT : ClassData}
    {xnmT xqT : Str} {xNT : Addr} {xbsT xbmT xsubT : List Value} {xsnT : List Str} {xabT : Bool} {xcolT : Option Bool} {xddT : Option Addr} {xaT xbT xcT xdT xeT : Option Value}
    {odIT anIT : Option Addr} {slIT : Array (Option Value)} {ocIT kVIT dcIT pmIT ctIT : Value}
    {CR fR_ : Addr}
    {odRI anRI : Option Addr} {slRI : Array (Option Value)} {ocRI kVRI dcRI pmRI ctRI : Value}
    {cdRI : Value}
    {fG : Addr}
    {odG anG : Option Addr} {slG : Array (Option Value)} {ocG kVG dcG pmG ctG : Value}
    {cdG : Value}
    {fE : Addr}
    {odE anE : Option Addr} {slE : Array (Option Value)} {ocE kVE dcE pmE ctE : Value}
    {cdE : Value}
    {fM : Addr}
    {odM anM : Option Addr} {slM : Array (Option Value)} {ocM kVM dcM pmM ctM : Value}
    {cdM : Value}
    {fT : Addr}
    {odT anT : Option Addr} {slT : Array (Option Value)} {ocT kVT dcT pmT ctT : Value}
    {cdT : Value}
    {fI : Addr}
    {odI anI : Option Addr} {slI : Array (Option Value)} {ocI kVI dcI pmI ctI : Value}
    {cdI : Value}
    {p_start g_start : Addr} {rest_start : List Value}
    {odPstart anPstart : Option Addr} {slPstart : Array (Option Value)} {ocPstart kVPstart dcPstart pmPstart ctPstart : Value}
    {cdPstart : Value}
    {p_period g_period : Addr} {rest_period : List Value}
    {odPperiod anPperiod : Option Addr} {slPperiod : Array (Option Value)} {ocPperiod kVPperiod dcPperiod pmPperiod ctPperiod : Value}
    {cdPperiod : Value}
    {p_step g_step : Addr} {rest_step : List Value}
    {odPstep anPstep : Option Addr} {slPstep : Array (Option Value)} {ocPstep kVPstep dcPstep pmPstep ctPstep : Value}
    {cdPstep : Value}
    {p_first g_first : Addr} {rest_first : List Value}
    {odPfirst anPfirst : Option Addr} {slPfirst : Array (Option Value)} {ocPfirst kVPfirst dcPfirst pmPfirst ctPfirst : Value}
    {cdPfirst : Value}
    {p_pace g_pace : Addr} {rest_pace : List Value}
    {odPpace anPpace : Option Addr} {slPpace : Array (Option Value)} {ocPpace kVPpace dcPpace pmPpace ctPpace : Value}
    {cdPpace : Value}
    {mcR : Value}
    {fC pC : Addr} {restC : List Value}
    {odC anC : Option Addr} {slC : Array (Option Value)} {ocC kVC dcC pmC ctC : Value}
    {cdC : Value}
    {f_is_integer : Addr}
    {od_is_integer an_is_integer : Option Addr} {sl_is_integer : Array (Option Value)} {oc_is_integer kV_is_integer dc_is_integer pm_is_integer ct_is_integer : Value}
    {cd_is_integer : Value}
    {f_goes_on : Addr}
    {od_goes_on an_goes_on : Option Addr} {sl_goes_on : Array (Option Value)} {oc_goes_on kV_goes_on dc_goes_on pm_goes_on ct_goes_on : Value}
    {cd_goes_on : Value}
    {f_least_period : Addr}
    {od_least_period an_least_period : Option Addr} {sl_least_period : Array (Option Value)} {oc_least_period kV_least_period dc_least_period pm_least_period ct_least_period : Value}
    {cd_least_period : Value}
    {f_settled : Addr}
    {od_settled an_settled : Option Addr} {sl_settled : Array (Option Value)} {oc_settled kV_settled dc_settled pm_settled ct_settled : Value}
    {cd_settled : Value}
    {f_need_from : Addr}
    {od_need_from an_need_from : Option Addr} {sl_need_from : Array (Option Value)} {oc_need_from kV_need_from dc_need_from pm_need_from ct_need_from : Value}
    {cd_need_from : Value}
    {f_divisor : Addr}
    {od_divisor an_divisor : Option Addr} {sl_divisor : Array (Option Value)} {oc_divisor kV_divisor dc_divisor pm_divisor ct_divisor : Value}
    {cd_divisor : Value}
    {f_figures_of : Addr}
    {od_figures_of an_figures_of : Option Addr} {sl_figures_of : Array (Option Value)} {oc_figures_of kV_figures_of dc_figures_of pm_figures_of ct_figures_of : Value}
    {cd_figures_of : Value}
    {f__law_pen : Addr}
    {od__law_pen an__law_pen : Option Addr} {sl__law_pen : Array (Option Value)} {oc__law_pen kV__law_pen dc__law_pen pm__law_pen ct__law_pen : Value}
    {cd__law_pen : Value}
    {f__law_draw : Addr}
    {od__law_draw an__law_draw : Option Addr} {sl__law_draw : Array (Option Value)} {oc__law_draw kV__law_draw dc__law_draw pm__law_draw ct__law_draw : Value}
    {cd__law_draw : Value}
    {f__law_pick : Addr}
    {od__law_pick an__law_pick : Option Addr} {sl__law_pick : Array (Option Value)} {oc__law_pick kV__law_pick dc__law_pick pm__law_pick ct__law_pick : Value}
    {cd__law_pick : Value}
    {f__law_told : Addr}
    {od__law_told an__law_told : Option Addr} {sl__law_told : Array (Option Value)} {oc__law_told kV__law_told dc__law_told pm__law_told ct__law_told : Value}
    {cd__law_told : Value}
    {f__law_at : Addr}
    {od__law_at an__law_at : Option Addr} {sl__law_at : Array (Option Value)} {oc__law_at kV__law_at dc__law_at pm__law_at ct__law_at : Value}
    {cd__law_at : Value}
    {f__law_least : Addr}
    {od__law_least an__law_least : Option Addr} {sl__law_least : Array (Option Value)} {oc__law_least kV__law_least dc__law_least pm__law_least ct__law_least : Value}
    {cd__law_least : Value}
    {f__law_pace : Addr}
    {od__law_pace an__law_pace : Option Addr} {sl__law_pace : Array (Option Value)} {oc__law_pace kV__law_pace dc__law_pace pm__law_pace ct__law_pace : Value}
    {cd__law_pace : Value}
    {f__law_other : Addr}
    {od__law_other an__law_other : Option Addr} {sl__law_other : Array (Option Value)} {oc__law_other kV__law_other dc__law_other pm__law_other ct__law_other : Value}
    {cd__law_other : Value}
    {f__law_row : Addr}
    {od__law_row an__law_row : Option Addr} {sl__law_row : Array (Option Value)} {oc__law_row kV__law_row dc__law_row pm__law_row ct__law_row : Value}
    {cd__law_row : Value}
    {f__law_right : Addr}
    {od__law_right an__law_right : Option Addr} {sl__law_right : Array (Option Value)} {oc__law_right kV__law_right dc__law_right pm__law_right ct__law_right : Value}
    {cd__law_right : Value}
    {f__law_equal_right : Addr}
    {od__law_equal_right an__law_equal_right : Option Addr} {sl__law_equal_right : Array (Option Value)} {oc__law_equal_right kV__law_equal_right dc__law_equal_right pm__law_equal_right ct__law_equal_right : Value}
    {cd__law_equal_right : Value}
    {f_law : Addr}
    {od_law an_law : Option Addr} {sl_law : Array (Option Value)} {oc_law kV_law dc_law pm_law ct_law : Value}
    {cd_law : Value}
    (b0 : PySem.W.nsIn K mainGlobals "len" = some none)
    (b1 : PySem.W.nsIn K mainGlobals "int" = some none)
    (b2 : PySem.W.nsIn K mainGlobals "abs" = some none)
    (b3 : PySem.W.nsIn K mainGlobals "list" = some none)
    (b4 : PySem.W.nsIn K mainGlobals "isinstance" = some none)
    (b5 : PySem.W.nsIn K mainGlobals "all" = some none)
    (b6 : PySem.W.nsIn K mainGlobals "range" = some none)
    (b7 : PySem.W.nsIn K mainGlobals "tuple" = some none)
    (b8 : PySem.W.nsIn K mainGlobals "super" = some none)
    (b9 : PySem.W.nsIn K mainGlobals "repr" = some none)
    (b10 : PySem.W.nsIn K mainGlobals "bool" = some none)
    (b11 : PySem.W.nsIn K mainGlobals "str" = some none)
    (b12 : PySem.W.nsIn K mainGlobals "max" = some none)
    (b13 : PySem.W.nsIn K mainGlobals "ValueError" = some none)
    (hn : PySem.W.specialIn K (.builtin "object.__class__") "__get__" = some (some (.builtin "getset_descriptor.__get__")))
    (htk : PySem.W.takesIn K (.builtin "object.__class__") = some true)
    (any_ : PySem.W.nsIn K cStatics "thirdparty.any" = some none)
    (top_ : (l.prog.main.scope.names.lookup ("super" : Str)).isSome = false)
    (gCE : PySem.W.nsIn K mainGlobals "StowError" = some (some (.ref CE)))
    (eE1 : PySem.W.subIn K (.ref CE) (.type "BaseException") = some true)
    (eE2 : PySem.W.hasDictIn K CE = true)
    (eE3 : PySem.W.typeIn K (.ref CE) = some (.type "type"))
    (gM : PySem.W.nsIn K mainGlobals "MOST_NUMBERS" = some (some (.int 2000 tM)))
    (gP : PySem.W.nsIn K mainGlobals "PIECE" = some (some (.int vP tP)))
    (eP : vP = 10 ^ 60)
    (gF : PySem.W.nsIn K mainGlobals "FIGURES" = some (some (.str zF tF)))
    (eF : zF = "0123456789")
    (gB_ : PySem.W.nsIn K mainGlobals "BadText" = some (some (.ref CB)))
    (gN_ : PySem.W.nsIn K mainGlobals "BadNumber" = some (some (.ref CN)))
    (xoN : K.lookup CN = some (excClassObj xnmN xqN CN xNN xbsN xbmN true xsnN xsubN xabN xcolN xddN xaN xbN xcN xdN xeN "ValueError.__new__"))
    (xrN : PySem.HandSPX.refsVE xbmN = true)
    (saN : PySem.W.findIn K (.ref CN) "__setattr__" = some (some (.builtin "object.__setattr__")))
    (beN : PySem.W.subIn K (.ref CN) (.type "BaseException") = some true)
    (tyN : PySem.W.typeIn K (.ref CN) = some (.type "type"))
    (kpN : PySem.W.keepIn K (.ref CN) = true)
    (inN : PySem.W.findIn K (.ref CN) "__init__" = some (some (.ref fN_)))
    (tf_N : PySem.W.typeIn K (.ref fN_) = some (.type "function"))
    (lIN : K.lookup fN_ = some ⟨ocIN, odIN, .func (PySem.W.ksFn "__init__" "BadNumber.__init__" (defArgs s_BadNumber_init) (defBody s_BadNumber_init) (defScope s_BadNumber_init) .none kVIN dcIN pmIN anIN (.ref cdaN) ctIN ccN), slIN⟩)
    (cIN : PySem.W.codeIn K (.ref cdaN) "BadNumber.__init__" = true)
    (kIN : PySem.W.keepIn K (.ref fN_) = true)
    (ceN : K.lookup ccN = some ⟨clN, cldN, .cell (some (.ref CN)), cslN⟩)
    (coN : K.lookup cdaN = some ⟨cclN, cddN, .fields vsN, ccsN⟩)
    (v2N : vsN[2]? = some (.str fileN tfN))
    (flN : ((l.prog.main.file : Str) == fileN) = true)
    (cd_N : PySem.W.clsIn K CN = some cdatN)
    (sbN : PySem.W.mroIn K CN (.ref CN) = some true)
    (svN : PySem.W.mroIn K CN (.type "ValueError") = some true)
    (fd_N : PySem.W.ks_superIn K CN CN "__init__" = some (some (.builtin "ValueError.__init__")))
    (noN_value : PySem.W.findIn K (.ref CN) "value" = some none)
    (suN : PySem.W.subIn K (.ref CN) (.ref CE) = some true)
    (xgN : PySem.W.findIn K (.ref CN) "__getattribute__" = some (some (.builtin "BaseException.__getattribute__")))
    (xkN : PySem.W.findIn K (.ref CN) "__getattr__" = some none)
    (hdN : PySem.W.hasDictIn K CN = true)
    (haN : PySem.W.findIn K (.ref CN) "__class__" = some (some (.builtin "object.__class__")))
    (hmN : PySem.W.mroIn K CN (.type "object") = some true)
    (gT_ : PySem.W.nsIn K mainGlobals "TooMany" = some (some (.ref CT)))
    (xoT : K.lookup CT = some (excClassObj xnmT xqT CT xNT xbsT xbmT true xsnT xsubT xabT xcolT xddT xaT xbT xcT xdT xeT "ValueError.__new__"))
    (xrT : PySem.HandSPX.refsVE xbmT = true)
    (saT : PySem.W.findIn K (.ref CT) "__setattr__" = some (some (.builtin "object.__setattr__")))
    (beT : PySem.W.subIn K (.ref CT) (.type "BaseException") = some true)
    (tyT : PySem.W.typeIn K (.ref CT) = some (.type "type"))
    (kpT : PySem.W.keepIn K (.ref CT) = true)
    (inT : PySem.W.findIn K (.ref CT) "__init__" = some (some (.ref fT_)))
    (tf_T : PySem.W.typeIn K (.ref fT_) = some (.type "function"))
    (lIT : K.lookup fT_ = some ⟨ocIT, odIT, .func (PySem.W.ksFn "__init__" "TooMany.__init__" (defArgs s_TooMany_init) (defBody s_TooMany_init) (defScope s_TooMany_init) .none kVIT dcIT pmIT anIT (.ref cdaT) ctIT ccT), slIT⟩)
    (cIT : PySem.W.codeIn K (.ref cdaT) "TooMany.__init__" = true)
    (kIT : PySem.W.keepIn K (.ref fT_) = true)
    (ceT : K.lookup ccT = some ⟨clT, cldT, .cell (some (.ref CT)), cslT⟩)
    (coT : K.lookup cdaT = some ⟨cclT, cddT, .fields vsT, ccsT⟩)
    (v2T : vsT[2]? = some (.str fileT tfT))
    (flT : ((l.prog.main.file : Str) == fileT) = true)
    (cd_T : PySem.W.clsIn K CT = some cdatT)
    (sbT : PySem.W.mroIn K CT (.ref CT) = some true)
    (svT : PySem.W.mroIn K CT (.type "ValueError") = some true)
    (fd_T : PySem.W.ks_superIn K CT CT "__init__" = some (some (.builtin "ValueError.__init__")))
    (noT_most : PySem.W.findIn K (.ref CT) "most" = some none)
    (suT : PySem.W.subIn K (.ref CT) (.ref CE) = some true)
    (xgT : PySem.W.findIn K (.ref CT) "__getattribute__" = some (some (.builtin "BaseException.__getattribute__")))
    (xkT : PySem.W.findIn K (.ref CT) "__getattr__" = some none)
    (hdT : PySem.W.hasDictIn K CT = true)
    (haT : PySem.W.findIn K (.ref CT) "__class__" = some (some (.builtin "object.__class__")))
    (hmT : PySem.W.mroIn K CT (.type "object") = some true)
    (gR_ : PySem.W.nsIn K mainGlobals "Row" = some (some (.ref CR)))
    (pgR : PySem.W.plainGet K CR Str.empty = true)
    (hdR : PySem.W.hasDictIn K CR = true)
    (poR : PySem.W.plainOver K CR = true)
    (saR : PySem.W.findIn K (.ref CR) "__setattr__" = some (some (.builtin "object.__setattr__")))
    (nR_told : PySem.W.findIn K (.ref CR) "told" = some none)
    (nR_many : PySem.W.findIn K (.ref CR) "many" = some none)
    (nR_gain : PySem.W.findIn K (.ref CR) "gain" = some none)
    (haR : PySem.W.findIn K (.ref CR) "__class__" = some (some (.builtin "object.__class__")))
    (hmR : PySem.W.mroIn K CR (.type "object") = some true)
    (mkR : PySem.W.makesIn K CR = true)
    (inR : PySem.W.findIn K (.ref CR) "__init__" = some (some (.ref fR_)))
    (fnR : PySem.W.isFn K (.ref fR_) = true)
    (kpR : PySem.W.keepIn K (.ref CR) = true)
    (lRI : K.lookup fR_ = some ⟨ocRI, odRI, .func (PySem.W.fnOf "__init__" "Row.__init__" (defArgs s_Row_init) (defBody s_Row_init) (defScope s_Row_init) .none kVRI dcRI pmRI anRI cdRI ctRI), slRI⟩)
    (cRI : PySem.W.codeIn K cdRI "Row.__init__" = true)
    (kRI : PySem.W.keepIn K (.ref fR_) = true)
    (kRR : PySem.W.kitOne K (.ref CR) (.ref CR) = some true)
    (kRN : PySem.W.kitOne K (.type "int") (.ref CR) = some false)
    (neR : PySem.W.findIn K (.ref CR) "__ne__" = some (some (.builtin "object.__ne__")))
    (nfR : PySem.W.notFirst K CR (.ref CR) = true)
    (sfR : PySem.W.selfFirst K CR = true)
    (aG : PySem.W.findIn K (.ref CR) "__getitem__" = some (some (.ref fG)))
    (iG : PySem.W.isFn K (.ref fG) = true)
    (lG : K.lookup fG = some ⟨ocG, odG, .func (PySem.W.fnOf "__getitem__" "Row.__getitem__" (defArgs s_Row_getitem) (defBody s_Row_getitem) (defScope s_Row_getitem) .none kVG dcG pmG anG cdG ctG), slG⟩)
    (cG : PySem.W.codeIn K cdG "Row.__getitem__" = true)
    (kG : PySem.W.keepIn K (.ref fG) = true)
    (aE : PySem.W.findIn K (.ref CR) "__eq__" = some (some (.ref fE)))
    (iE : PySem.W.isFn K (.ref fE) = true)
    (lE : K.lookup fE = some ⟨ocE, odE, .func (PySem.W.fnOf "__eq__" "Row.__eq__" (defArgs s_Row_eq) (defBody s_Row_eq) (defScope s_Row_eq) .none kVE dcE pmE anE cdE ctE), slE⟩)
    (cE : PySem.W.codeIn K cdE "Row.__eq__" = true)
    (kE : PySem.W.keepIn K (.ref fE) = true)
    (aM : PySem.W.findIn K (.ref CR) "number" = some (some (.ref fM)))
    (iM : PySem.W.isFn K (.ref fM) = true)
    (lM : K.lookup fM = some ⟨ocM, odM, .func (PySem.W.fnOf "number" "Row.number" (defArgs s_Row_number) (defBody s_Row_number) (defScope s_Row_number) .none kVM dcM pmM anM cdM ctM), slM⟩)
    (cM : PySem.W.codeIn K cdM "Row.number" = true)
    (kM : PySem.W.keepIn K (.ref fM) = true)
    (aT : PySem.W.findIn K (.ref CR) "__str__" = some (some (.ref fT)))
    (iT : PySem.W.isFn K (.ref fT) = true)
    (lT : K.lookup fT = some ⟨ocT, odT, .func (PySem.W.fnOf "__str__" "Row.__str__" (defArgs s_Row_str) (defBody s_Row_str) (defScope s_Row_str) .none kVT dcT pmT anT cdT ctT), slT⟩)
    (cT : PySem.W.codeIn K cdT "Row.__str__" = true)
    (kT : PySem.W.keepIn K (.ref fT) = true)
    (aI : PySem.W.findIn K (.ref CR) "numbers" = some (some (.ref fI)))
    (iI : PySem.W.isFn K (.ref fI) = true)
    (lI : K.lookup fI = some ⟨ocI, odI, .func (PySem.W.fnOf "numbers" "Row.numbers" (defArgs s_Row_numbers) (defBody s_Row_numbers) (defScope s_Row_numbers) .none kVI dcI pmI anI cdI ctI), slI⟩)
    (cI : PySem.W.codeIn K cdI "Row.numbers" = true)
    (kI : PySem.W.keepIn K (.ref fI) = true)
    (pa_start : PySem.W.findIn K (.ref CR) "start" = some (some (.ref p_start)))
    (pg_start : PySem.W.specialIn K (.ref p_start) "__get__" = some (some (.builtin "property.__get__")))
    (pt_start : PySem.W.takesIn K (.ref p_start) = some true)
    (pr_start : PySem.W.recIn K p_start "property" = some (.ref g_start :: rest_start))
    (lPstart : K.lookup g_start = some ⟨ocPstart, odPstart, .func (PySem.W.fnOf "start" "Row.start" (defArgs s_Row_start) (defBody s_Row_start) (defScope s_Row_start) .none kVPstart dcPstart pmPstart anPstart cdPstart ctPstart), slPstart⟩)
    (cPstart : PySem.W.codeIn K cdPstart "Row.start" = true)
    (kPstart : PySem.W.keepIn K (.ref g_start) = true)
    (pa_period : PySem.W.findIn K (.ref CR) "period" = some (some (.ref p_period)))
    (pg_period : PySem.W.specialIn K (.ref p_period) "__get__" = some (some (.builtin "property.__get__")))
    (pt_period : PySem.W.takesIn K (.ref p_period) = some true)
    (pr_period : PySem.W.recIn K p_period "property" = some (.ref g_period :: rest_period))
    (lPperiod : K.lookup g_period = some ⟨ocPperiod, odPperiod, .func (PySem.W.fnOf "period" "Row.period" (defArgs s_Row_period) (defBody s_Row_period) (defScope s_Row_period) .none kVPperiod dcPperiod pmPperiod anPperiod cdPperiod ctPperiod), slPperiod⟩)
    (cPperiod : PySem.W.codeIn K cdPperiod "Row.period" = true)
    (kPperiod : PySem.W.keepIn K (.ref g_period) = true)
    (pa_step : PySem.W.findIn K (.ref CR) "step" = some (some (.ref p_step)))
    (pg_step : PySem.W.specialIn K (.ref p_step) "__get__" = some (some (.builtin "property.__get__")))
    (pt_step : PySem.W.takesIn K (.ref p_step) = some true)
    (pr_step : PySem.W.recIn K p_step "property" = some (.ref g_step :: rest_step))
    (lPstep : K.lookup g_step = some ⟨ocPstep, odPstep, .func (PySem.W.fnOf "step" "Row.step" (defArgs s_Row_step) (defBody s_Row_step) (defScope s_Row_step) .none kVPstep dcPstep pmPstep anPstep cdPstep ctPstep), slPstep⟩)
    (cPstep : PySem.W.codeIn K cdPstep "Row.step" = true)
    (kPstep : PySem.W.keepIn K (.ref g_step) = true)
    (pa_first : PySem.W.findIn K (.ref CR) "first" = some (some (.ref p_first)))
    (pg_first : PySem.W.specialIn K (.ref p_first) "__get__" = some (some (.builtin "property.__get__")))
    (pt_first : PySem.W.takesIn K (.ref p_first) = some true)
    (pr_first : PySem.W.recIn K p_first "property" = some (.ref g_first :: rest_first))
    (lPfirst : K.lookup g_first = some ⟨ocPfirst, odPfirst, .func (PySem.W.fnOf "first" "Row.first" (defArgs s_Row_first) (defBody s_Row_first) (defScope s_Row_first) .none kVPfirst dcPfirst pmPfirst anPfirst cdPfirst ctPfirst), slPfirst⟩)
    (cPfirst : PySem.W.codeIn K cdPfirst "Row.first" = true)
    (kPfirst : PySem.W.keepIn K (.ref g_first) = true)
    (pa_pace : PySem.W.findIn K (.ref CR) "pace" = some (some (.ref p_pace)))
    (pg_pace : PySem.W.specialIn K (.ref p_pace) "__get__" = some (some (.builtin "property.__get__")))
    (pt_pace : PySem.W.takesIn K (.ref p_pace) = some true)
    (pr_pace : PySem.W.recIn K p_pace "property" = some (.ref g_pace :: rest_pace))
    (lPpace : K.lookup g_pace = some ⟨ocPpace, odPpace, .func (PySem.W.fnOf "pace" "Row.pace" (defArgs s_Row_pace) (defBody s_Row_pace) (defScope s_Row_pace) .none kVPpace dcPpace pmPpace anPpace cdPpace ctPpace), slPpace⟩)
    (cPpace : PySem.W.codeIn K cdPpace "Row.pace" = true)
    (kPpace : PySem.W.keepIn K (.ref g_pace) = true)
    (fnG : PySem.W.fnIn K fG = true)
    (kR_NoneType : PySem.W.kitOne K (.type "NoneType") (.ref CR) = some false)
    (nf_NoneType : PySem.W.notFirst K CR (.type "NoneType") = true)
    (kR_bool : PySem.W.kitOne K (.type "bool") (.ref CR) = some false)
    (nf_bool : PySem.W.notFirst K CR (.type "bool") = true)
    (nf_int : PySem.W.notFirst K CR (.type "int") = true)
    (kR_str : PySem.W.kitOne K (.type "str") (.ref CR) = some false)
    (nf_str : PySem.W.notFirst K CR (.type "str") = true)
    (kR_list : PySem.W.kitOne K (.type "list") (.ref CR) = some false)
    (nf_list : PySem.W.notFirst K CR (.type "list") = true)
    (kR_tuple : PySem.W.kitOne K (.type "tuple") (.ref CR) = some false)
    (nf_tuple : PySem.W.notFirst K CR (.type "tuple") = true)
    (tyR : PySem.W.typeIn K (.ref CR) = some mcR)
    (rdR : PySem.W.readsIn K CR mcR = true)
    (gaR : PySem.W.specialIn K (.ref CR) "__getattribute__" = some (some (.builtin "type.__getattribute__")))
    (atC : PySem.W.findCls K (.ref CR) mcR "even" = some (.get (.builtin "staticmethod.__get__") (.ref pC) .none (.ref CR)))
    (rcC : PySem.W.recIn K pC "staticmethod" = some (.ref fC :: restC))
    (lC : K.lookup fC = some ⟨ocC, odC, .func (PySem.W.fnOf "even" "Row.even" (defArgs s_Row_even) (defBody s_Row_even) (defScope s_Row_even) .none kVC dcC pmC anC cdC ctC), slC⟩)
    (cC : PySem.W.codeIn K cdC "Row.even" = true)
    (kC : PySem.W.keepIn K (.ref fC) = true)
    (a_is_integer : PySem.W.nsIn K mainGlobals "is_integer" = some (some (.ref f_is_integer)))
    (l_is_integer : K.lookup f_is_integer = some ⟨oc_is_integer, od_is_integer, .func (PySem.W.fnOf "is_integer" "is_integer" (defArgs s_is_integer) (defBody s_is_integer) (defScope s_is_integer) .none kV_is_integer dc_is_integer pm_is_integer an_is_integer cd_is_integer ct_is_integer), sl_is_integer⟩)
    (c_is_integer : PySem.W.codeIn K cd_is_integer "is_integer" = true)
    (k_is_integer : PySem.W.keepIn K (.ref f_is_integer) = true)
    (a_goes_on : PySem.W.nsIn K mainGlobals "goes_on" = some (some (.ref f_goes_on)))
    (l_goes_on : K.lookup f_goes_on = some ⟨oc_goes_on, od_goes_on, .func (PySem.W.fnOf "goes_on" "goes_on" (defArgs s_goes_on) (defBody s_goes_on) (defScope s_goes_on) .none kV_goes_on dc_goes_on pm_goes_on an_goes_on cd_goes_on ct_goes_on), sl_goes_on⟩)
    (c_goes_on : PySem.W.codeIn K cd_goes_on "goes_on" = true)
    (k_goes_on : PySem.W.keepIn K (.ref f_goes_on) = true)
    (a_least_period : PySem.W.nsIn K mainGlobals "least_period" = some (some (.ref f_least_period)))
    (l_least_period : K.lookup f_least_period = some ⟨oc_least_period, od_least_period, .func (PySem.W.fnOf "least_period" "least_period" (defArgs s_least_period) (defBody s_least_period) (defScope s_least_period) .none kV_least_period dc_least_period pm_least_period an_least_period cd_least_period ct_least_period), sl_least_period⟩)
    (c_least_period : PySem.W.codeIn K cd_least_period "least_period" = true)
    (k_least_period : PySem.W.keepIn K (.ref f_least_period) = true)
    (a_settled : PySem.W.nsIn K mainGlobals "settled" = some (some (.ref f_settled)))
    (l_settled : K.lookup f_settled = some ⟨oc_settled, od_settled, .func (PySem.W.fnOf "settled" "settled" (defArgs s_settled) (defBody s_settled) (defScope s_settled) .none kV_settled dc_settled pm_settled an_settled cd_settled ct_settled), sl_settled⟩)
    (c_settled : PySem.W.codeIn K cd_settled "settled" = true)
    (k_settled : PySem.W.keepIn K (.ref f_settled) = true)
    (a_need_from : PySem.W.nsIn K mainGlobals "need_from" = some (some (.ref f_need_from)))
    (l_need_from : K.lookup f_need_from = some ⟨oc_need_from, od_need_from, .func (PySem.W.fnOf "need_from" "need_from" (defArgs s_need_from) (defBody s_need_from) (defScope s_need_from) .none kV_need_from dc_need_from pm_need_from an_need_from cd_need_from ct_need_from), sl_need_from⟩)
    (c_need_from : PySem.W.codeIn K cd_need_from "need_from" = true)
    (k_need_from : PySem.W.keepIn K (.ref f_need_from) = true)
    (a_divisor : PySem.W.nsIn K mainGlobals "divisor" = some (some (.ref f_divisor)))
    (l_divisor : K.lookup f_divisor = some ⟨oc_divisor, od_divisor, .func (PySem.W.fnOf "divisor" "divisor" (defArgs s_divisor) (defBody s_divisor) (defScope s_divisor) .none kV_divisor dc_divisor pm_divisor an_divisor cd_divisor ct_divisor), sl_divisor⟩)
    (c_divisor : PySem.W.codeIn K cd_divisor "divisor" = true)
    (k_divisor : PySem.W.keepIn K (.ref f_divisor) = true)
    (a_figures_of : PySem.W.nsIn K mainGlobals "figures_of" = some (some (.ref f_figures_of)))
    (l_figures_of : K.lookup f_figures_of = some ⟨oc_figures_of, od_figures_of, .func (PySem.W.fnOf "figures_of" "figures_of" (defArgs s_figures_of) (defBody s_figures_of) (defScope s_figures_of) .none kV_figures_of dc_figures_of pm_figures_of an_figures_of cd_figures_of ct_figures_of), sl_figures_of⟩)
    (c_figures_of : PySem.W.codeIn K cd_figures_of "figures_of" = true)
    (k_figures_of : PySem.W.keepIn K (.ref f_figures_of) = true)
    (a__law_pen : PySem.W.nsIn K mainGlobals "_law_pen" = some (some (.ref f__law_pen)))
    (l__law_pen : K.lookup f__law_pen = some ⟨oc__law_pen, od__law_pen, .func (PySem.W.fnOf "_law_pen" "_law_pen" (defArgs s__law_pen) (defBody s__law_pen) (defScope s__law_pen) .none kV__law_pen dc__law_pen pm__law_pen an__law_pen cd__law_pen ct__law_pen), sl__law_pen⟩)
    (c__law_pen : PySem.W.codeIn K cd__law_pen "_law_pen" = true)
    (k__law_pen : PySem.W.keepIn K (.ref f__law_pen) = true)
    (a__law_draw : PySem.W.nsIn K mainGlobals "_law_draw" = some (some (.ref f__law_draw)))
    (l__law_draw : K.lookup f__law_draw = some ⟨oc__law_draw, od__law_draw, .func (PySem.W.fnOf "_law_draw" "_law_draw" (defArgs s__law_draw) (defBody s__law_draw) (defScope s__law_draw) .none kV__law_draw dc__law_draw pm__law_draw an__law_draw cd__law_draw ct__law_draw), sl__law_draw⟩)
    (c__law_draw : PySem.W.codeIn K cd__law_draw "_law_draw" = true)
    (k__law_draw : PySem.W.keepIn K (.ref f__law_draw) = true)
    (a__law_pick : PySem.W.nsIn K mainGlobals "_law_pick" = some (some (.ref f__law_pick)))
    (l__law_pick : K.lookup f__law_pick = some ⟨oc__law_pick, od__law_pick, .func (PySem.W.fnOf "_law_pick" "_law_pick" (defArgs s__law_pick) (defBody s__law_pick) (defScope s__law_pick) .none kV__law_pick dc__law_pick pm__law_pick an__law_pick cd__law_pick ct__law_pick), sl__law_pick⟩)
    (c__law_pick : PySem.W.codeIn K cd__law_pick "_law_pick" = true)
    (k__law_pick : PySem.W.keepIn K (.ref f__law_pick) = true)
    (a__law_told : PySem.W.nsIn K mainGlobals "_law_told" = some (some (.ref f__law_told)))
    (l__law_told : K.lookup f__law_told = some ⟨oc__law_told, od__law_told, .func (PySem.W.fnOf "_law_told" "_law_told" (defArgs s__law_told) (defBody s__law_told) (defScope s__law_told) .none kV__law_told dc__law_told pm__law_told an__law_told cd__law_told ct__law_told), sl__law_told⟩)
    (c__law_told : PySem.W.codeIn K cd__law_told "_law_told" = true)
    (k__law_told : PySem.W.keepIn K (.ref f__law_told) = true)
    (a__law_at : PySem.W.nsIn K mainGlobals "_law_at" = some (some (.ref f__law_at)))
    (l__law_at : K.lookup f__law_at = some ⟨oc__law_at, od__law_at, .func (PySem.W.fnOf "_law_at" "_law_at" (defArgs s__law_at) (defBody s__law_at) (defScope s__law_at) .none kV__law_at dc__law_at pm__law_at an__law_at cd__law_at ct__law_at), sl__law_at⟩)
    (c__law_at : PySem.W.codeIn K cd__law_at "_law_at" = true)
    (k__law_at : PySem.W.keepIn K (.ref f__law_at) = true)
    (a__law_least : PySem.W.nsIn K mainGlobals "_law_least" = some (some (.ref f__law_least)))
    (l__law_least : K.lookup f__law_least = some ⟨oc__law_least, od__law_least, .func (PySem.W.fnOf "_law_least" "_law_least" (defArgs s__law_least) (defBody s__law_least) (defScope s__law_least) .none kV__law_least dc__law_least pm__law_least an__law_least cd__law_least ct__law_least), sl__law_least⟩)
    (c__law_least : PySem.W.codeIn K cd__law_least "_law_least" = true)
    (k__law_least : PySem.W.keepIn K (.ref f__law_least) = true)
    (a__law_pace : PySem.W.nsIn K mainGlobals "_law_pace" = some (some (.ref f__law_pace)))
    (l__law_pace : K.lookup f__law_pace = some ⟨oc__law_pace, od__law_pace, .func (PySem.W.fnOf "_law_pace" "_law_pace" (defArgs s__law_pace) (defBody s__law_pace) (defScope s__law_pace) .none kV__law_pace dc__law_pace pm__law_pace an__law_pace cd__law_pace ct__law_pace), sl__law_pace⟩)
    (c__law_pace : PySem.W.codeIn K cd__law_pace "_law_pace" = true)
    (k__law_pace : PySem.W.keepIn K (.ref f__law_pace) = true)
    (a__law_other : PySem.W.nsIn K mainGlobals "_law_other" = some (some (.ref f__law_other)))
    (l__law_other : K.lookup f__law_other = some ⟨oc__law_other, od__law_other, .func (PySem.W.fnOf "_law_other" "_law_other" (defArgs s__law_other) (defBody s__law_other) (defScope s__law_other) .none kV__law_other dc__law_other pm__law_other an__law_other cd__law_other ct__law_other), sl__law_other⟩)
    (c__law_other : PySem.W.codeIn K cd__law_other "_law_other" = true)
    (k__law_other : PySem.W.keepIn K (.ref f__law_other) = true)
    (a__law_row : PySem.W.nsIn K mainGlobals "_law_row" = some (some (.ref f__law_row)))
    (l__law_row : K.lookup f__law_row = some ⟨oc__law_row, od__law_row, .func (PySem.W.fnOf "_law_row" "_law_row" (defArgs s__law_row) (defBody s__law_row) (defScope s__law_row) .none kV__law_row dc__law_row pm__law_row an__law_row cd__law_row ct__law_row), sl__law_row⟩)
    (c__law_row : PySem.W.codeIn K cd__law_row "_law_row" = true)
    (k__law_row : PySem.W.keepIn K (.ref f__law_row) = true)
    (a__law_right : PySem.W.nsIn K mainGlobals "_law_right" = some (some (.ref f__law_right)))
    (l__law_right : K.lookup f__law_right = some ⟨oc__law_right, od__law_right, .func (PySem.W.fnOf "_law_right" "_law_right" (defArgs s__law_right) (defBody s__law_right) (defScope s__law_right) .none kV__law_right dc__law_right pm__law_right an__law_right cd__law_right ct__law_right), sl__law_right⟩)
    (c__law_right : PySem.W.codeIn K cd__law_right "_law_right" = true)
    (k__law_right : PySem.W.keepIn K (.ref f__law_right) = true)
    (a__law_equal_right : PySem.W.nsIn K mainGlobals "_law_equal_right" = some (some (.ref f__law_equal_right)))
    (l__law_equal_right : K.lookup f__law_equal_right = some ⟨oc__law_equal_right, od__law_equal_right, .func (PySem.W.fnOf "_law_equal_right" "_law_equal_right" (defArgs s__law_equal_right) (defBody s__law_equal_right) (defScope s__law_equal_right) .none kV__law_equal_right dc__law_equal_right pm__law_equal_right an__law_equal_right cd__law_equal_right ct__law_equal_right), sl__law_equal_right⟩)
    (c__law_equal_right : PySem.W.codeIn K cd__law_equal_right "_law_equal_right" = true)
    (k__law_equal_right : PySem.W.keepIn K (.ref f__law_equal_right) = true)
    (a_law : PySem.W.nsIn K mainGlobals "law" = some (some (.ref f_law)))
    (l_law : K.lookup f_law = some ⟨oc_law, od_law, .func (PySem.W.fnOf "law" "law" (defArgs s_law) (defBody s_law) (defScope s_law) .none kV_law dc_law pm_law an_law cd_law ct_law), sl_law⟩)
    (c_law : PySem.W.codeIn K cd_law "law" = true)
    (k_law : PySem.W.keepIn K (.ref f_law) = true) :
    LawG l w K CX0 15 63 "_law_script" mg fa h := by
  have e := hfa.symm.trans (PySem.W.mg_of X G a_law)
  cases e
  subst eP
  subst eF
  have T : Tx K mg CE CN CT CB CR tM tP tF := ⟨by
    intro x hx
    simp only [bns, List.mem_cons, List.not_mem_nil, or_false] at hx
    rcases hx with rfl | rfl | rfl | rfl | rfl | rfl | rfl | rfl | rfl | rfl | rfl | rfl | rfl | rfl
    · exact PySem.W.mg_none_of X G b0
    · exact PySem.W.mg_none_of X G b1
    · exact PySem.W.mg_none_of X G b2
    · exact PySem.W.mg_none_of X G b3
    · exact PySem.W.mg_none_of X G b4
    · exact PySem.W.mg_none_of X G b5
    · exact PySem.W.mg_none_of X G b6
    · exact PySem.W.mg_none_of X G b7
    · exact PySem.W.mg_none_of X G b8
    · exact PySem.W.mg_none_of X G b9
    · exact PySem.W.mg_none_of X G b10
    · exact PySem.W.mg_none_of X G b11
    · exact PySem.W.mg_none_of X G b12
    · exact PySem.W.mg_none_of X G b13, PySem.W.mg_of X G gM, PySem.W.mg_of X G gP, PySem.W.mg_of X G gF, PySem.W.mg_of X G gCE, PySem.W.mg_of X G gN_, PySem.W.mg_of X G gT_, PySem.W.mg_of X G gB_, PySem.W.mg_of X G gR_⟩
  have FSN : Ls.FunS K "__init__" "BadNumber.__init__" s_BadNumber_init fN_ _ cdaN ccN := ⟨⟨_, _, _, _, _, _, _, _, rfl, lIN, cIN⟩, kIN⟩
  have OXN : OexC K CN := ⟨⟨_, _, _, _, _, _, _, _, _, _, _, _, _, _, _, xoN, xrN⟩, saN, beN, tyN, kpN⟩
  have SEN : SupE l.prog K mg CN CN ccN cdaN := ⟨⟨_, _, _, ceN⟩, ⟨_, _, _, _, _, _, coN, v2N, flN⟩, ⟨_, cd_N⟩, sbN, svN, T.bn _ (by decide +kernel), top_, any_, fd_N, OXN⟩
  have exmN := PySem.W.exm_ref eE1 eE2 eE3 suN
  have ecN : ExcC K CN := ⟨xgN, xkN, beN, hdN, haN, hn, htk, hmN⟩
  have xfN : XfC K CN := ⟨xgN, xkN, beN, hdN⟩
  have FST : Ls.FunS K "__init__" "TooMany.__init__" s_TooMany_init fT_ _ cdaT ccT := ⟨⟨_, _, _, _, _, _, _, _, rfl, lIT, cIT⟩, kIT⟩
  have OXT : OexC K CT := ⟨⟨_, _, _, _, _, _, _, _, _, _, _, _, _, _, _, xoT, xrT⟩, saT, beT, tyT, kpT⟩
  have SET : SupE l.prog K mg CT CT ccT cdaT := ⟨⟨_, _, _, ceT⟩, ⟨_, _, _, _, _, _, coT, v2T, flT⟩, ⟨_, cd_T⟩, sbT, svT, T.bn _ (by decide +kernel), top_, any_, fd_T, OXT⟩
  have exmT := PySem.W.exm_ref eE1 eE2 eE3 suT
  have ecT : ExcC K CT := ⟨xgT, xkT, beT, hdT, haT, hn, htk, hmT⟩
  have xfT : XfC K CT := ⟨xgT, xkT, beT, hdT⟩
  have CL_R : Cls K CR := ⟨pgR, hdR, poR, saR⟩
  have hC : ClR K CR := ⟨CL_R, nR_told, nR_many, nR_gain⟩
  have RK : RowK K CR fE := ⟨haR, hn, htk, hmR, kRR, kRN, aE, neR, nfR, iE⟩
  have FRI := fun_mk (st := s_Row_init) lRI cRI kRI
  have BRI := FRI.binds (ps := ["self", "numbers", "period", "step"]) fun _ _ _ _ _ _ us hl => match us, hl with | [_, _, _, _], _ => rfl
  have MR : Mk K CR fR_ := ⟨mkR, inR, fnR, kpR⟩
  have FG := fun_mk (st := s_Row_getitem) lG cG kG
  have BG := FG.binds (ps := ["self", "n"]) fun _ _ _ _ _ _ us hl => match us, hl with | [_, _], _ => rfl
  have FE := fun_mk (st := s_Row_eq) lE cE kE
  have BE := FE.binds (ps := ["self", "other"]) fun _ _ _ _ _ _ us hl => match us, hl with | [_, _], _ => rfl
  have FM := fun_mk (st := s_Row_number) lM cM kM
  have BM := FM.binds (ps := ["self", "n"]) fun _ _ _ _ _ _ us hl => match us, hl with | [_, _], _ => rfl
  have FT := fun_mk (st := s_Row_str) lT cT kT
  have BT := FT.binds (ps := ["self"]) fun _ _ _ _ _ _ us hl => match us, hl with | [_], _ => rfl
  have FI := fun_mk (st := s_Row_numbers) lI cI kI
  have BI := FI.binds (ps := ["self", "n"]) fun _ _ _ _ _ _ us hl => match us, hl with | [_, _], _ => rfl
  have FPstart := fun_mk (st := s_Row_start) lPstart cPstart kPstart
  have BPstart := FPstart.binds (ps := ["self"]) fun _ _ _ _ _ _ us hl => match us, hl with | [_], _ => rfl
  have FPperiod := fun_mk (st := s_Row_period) lPperiod cPperiod kPperiod
  have BPperiod := FPperiod.binds (ps := ["self"]) fun _ _ _ _ _ _ us hl => match us, hl with | [_], _ => rfl
  have FPstep := fun_mk (st := s_Row_step) lPstep cPstep kPstep
  have BPstep := FPstep.binds (ps := ["self"]) fun _ _ _ _ _ _ us hl => match us, hl with | [_], _ => rfl
  have FPfirst := fun_mk (st := s_Row_first) lPfirst cPfirst kPfirst
  have BPfirst := FPfirst.binds (ps := ["self"]) fun _ _ _ _ _ _ us hl => match us, hl with | [_], _ => rfl
  have FPpace := fun_mk (st := s_Row_pace) lPpace cPpace kPpace
  have BPpace := FPpace.binds (ps := ["self"]) fun _ _ _ _ _ _ us hl => match us, hl with | [_], _ => rfl
  have hGet : OwnGet K CR fG := ⟨aG, fnG, iG⟩
  have od : ∀ ty ∈ tys6, PySem.W.kitOne K (.type ty) (.ref CR) = some false ∧ PySem.W.notFirst K CR (.type ty) = true := fun ty h => by
    simp only [tys6, List.mem_cons, List.not_mem_nil, or_false] at h
    rcases h with rfl | rfl | rfl | rfl | rfl | rfl
    · exact ⟨kR_NoneType, nf_NoneType⟩
    · exact ⟨kR_bool, nf_bool⟩
    · exact ⟨kRN, nf_int⟩
    · exact ⟨kR_str, nf_str⟩
    · exact ⟨kR_list, nf_list⟩
    · exact ⟨kR_tuple, nf_tuple⟩
  have FC := fun_mk (st := s_Row_even) lC cC kC
  have BC := FC.binds (ps := ["first", "step"]) fun _ _ _ _ _ _ us hl => match us, hl with | [_, _], _ => rfl
  have F_is_integer := fun_mk (st := s_is_integer) l_is_integer c_is_integer k_is_integer
  have B_is_integer := F_is_integer.binds (ps := ["value"]) fun _ _ _ _ _ _ us hl => match us, hl with | [_], _ => rfl
  have F_goes_on := fun_mk (st := s_goes_on) l_goes_on c_goes_on k_goes_on
  have B_goes_on := F_goes_on.binds (ps := ["numbers", "start", "period", "step"]) fun _ _ _ _ _ _ us hl => match us, hl with | [_, _, _, _], _ => rfl
  have F_least_period := fun_mk (st := s_least_period) l_least_period c_least_period k_least_period
  have B_least_period := F_least_period.binds (ps := ["numbers", "start", "period", "step"]) fun _ _ _ _ _ _ us hl => match us, hl with | [_, _, _, _], _ => rfl
  have F_settled := fun_mk (st := s_settled) l_settled c_settled k_settled
  have B_settled := F_settled.binds (ps := ["numbers", "period", "step"]) fun _ _ _ _ _ _ us hl => match us, hl with | [_, _, _], _ => rfl
  have F_need_from := fun_mk (st := s_need_from) l_need_from c_need_from k_need_from
  have B_need_from := F_need_from.binds (ps := ["value", "least"]) fun _ _ _ _ _ _ us hl => match us, hl with | [_, _], _ => rfl
  have F_divisor := fun_mk (st := s_divisor) l_divisor c_divisor k_divisor
  have B_divisor := F_divisor.binds (ps := ["one", "other"]) fun _ _ _ _ _ _ us hl => match us, hl with | [_, _], _ => rfl
  have F_figures_of := fun_mk (st := s_figures_of) l_figures_of c_figures_of k_figures_of
  have B_figures_of := F_figures_of.binds (ps := ["number"]) fun _ _ _ _ _ _ us hl => match us, hl with | [_], _ => rfl
  have F__law_pen := fun_mk (st := s__law_pen) l__law_pen c__law_pen k__law_pen
  have B__law_pen := F__law_pen.binds (ps := ["_law_script"]) fun _ _ _ _ _ _ us hl => match us, hl with | [_], _ => rfl
  have F__law_draw := fun_mk (st := s__law_draw) l__law_draw c__law_draw k__law_draw
  have B__law_draw := F__law_draw.binds (ps := ["_law_pen_here", "_law_many"]) fun _ _ _ _ _ _ us hl => match us, hl with | [_, _], _ => rfl
  have F__law_pick := fun_mk (st := s__law_pick) l__law_pick c__law_pick k__law_pick
  have B__law_pick := F__law_pick.binds (ps := ["_law_pen_here", "_law_some"]) fun _ _ _ _ _ _ us hl => match us, hl with | [_, _], _ => rfl
  have F__law_told := fun_mk (st := s__law_told) l__law_told c__law_told k__law_told
  have B__law_told := F__law_told.binds (ps := ["_law_pen_here"]) fun _ _ _ _ _ _ us hl => match us, hl with | [_], _ => rfl
  have F__law_at := fun_mk (st := s__law_at) l__law_at c__law_at k__law_at
  have B__law_at := F__law_at.binds (ps := ["_law_told_here", "_law_n"]) fun _ _ _ _ _ _ us hl => match us, hl with | [_, _], _ => rfl
  have F__law_least := fun_mk (st := s__law_least) l__law_least c__law_least k__law_least
  have B__law_least := F__law_least.binds (ps := ["_law_told_here"]) fun _ _ _ _ _ _ us hl => match us, hl with | [_], _ => rfl
  have F__law_pace := fun_mk (st := s__law_pace) l__law_pace c__law_pace k__law_pace
  have B__law_pace := F__law_pace.binds (ps := ["_law_gain", "_law_few"]) fun _ _ _ _ _ _ us hl => match us, hl with | [_, _], _ => rfl
  have F__law_other := fun_mk (st := s__law_other) l__law_other c__law_other k__law_other
  have B__law_other := F__law_other.binds (ps := ["_law_pen_here", "_law_told_here"]) fun _ _ _ _ _ _ us hl => match us, hl with | [_, _], _ => rfl
  have F__law_row := fun_mk (st := s__law_row) l__law_row c__law_row k__law_row
  have B__law_row := F__law_row.binds (ps := ["_law_told_here", "_law_is_list"]) fun _ _ _ _ _ _ us hl => match us, hl with | [_, _], _ => rfl
  have F__law_right := fun_mk (st := s__law_right) l__law_right c__law_right k__law_right
  have B__law_right := F__law_right.binds (ps := ["_law_pen_here", "_law_told_here"]) fun _ _ _ _ _ _ us hl => match us, hl with | [_, _], _ => rfl
  have F__law_equal_right := fun_mk (st := s__law_equal_right) l__law_equal_right c__law_equal_right k__law_equal_right
  have B__law_equal_right := F__law_equal_right.binds (ps := ["_law_pen_here", "_law_told_here"]) fun _ _ _ _ _ _ us hl => match us, hl with | [_, _], _ => rfl
  have F_law := fun_mk (st := s_law) l_law c_law k_law
  refine ⟨_, [], spLaw K, ?_, ?_, ?_, fun s u => .of_eq (fd := PySem.W.fnOf "law" "law" (defArgs s_law) (defBody s_law) (defScope s_law) .none kV_law dc_law pm_law an_law cd_law ct_law) rfl, ?_, ?_⟩
  · intro p hp
    cases hp
  · intro p hp
    cases hp
  · intro p hp
    cases hp
  · intro H a ns hl _ hH hS
    exact ⟨a, ns, rfl, hS, hl, fun _ => rfl⟩
  intro base _ _ TBs hsys
  have raw : ∀ {CX : CXT} {k : Nat} {f : Addr} {fd : FuncData} {ps : List Str} {sp : Sp}, FnOk l.prog w K mg base CX k f fd ps sp → Binds K fd ps [] → FnR l.prog w K mg base CX k f sp := fun {CX k f fd ps sp} F b => (F.raw b .nil).imp fun vs H Q E h => by rw [List.append_nil]; exact h
  have x_BadNumber : Xer l.prog w K mg base CN "BadNumber" ["value"] := ⟨T.m_BadNumber, OXN, _, _, _, inN, tf_N, ok_BadNumber_init FSN SEN noN_value, Binds.all fun us hl => match us, hl with | [_, _], _ => rfl⟩
  have x_TooMany : Xer l.prog w K mg base CT "TooMany" ["most"] := ⟨T.m_TooMany, OXT, _, _, _, inT, tf_T, ok_TooMany_init FST SET noT_most, Binds.all fun us hl => match us, hl with | [_, _], _ => rfl⟩
  have c_is_integer : Cal l.prog w K mg base CX0 1 "is_integer" spInt := ⟨_, PySem.W.mg_of X G a_is_integer, k_is_integer, raw (ok_int F_is_integer T) B_is_integer⟩
  have c_goes_on : Cal l.prog w K mg base CX0 1 "goes_on" spGoes := ⟨_, PySem.W.mg_of X G a_goes_on, k_goes_on, raw (ok_goes F_goes_on T) B_goes_on⟩
  have c_least_period : Cal l.prog w K mg base CX0 2 "least_period" (spLP K) := ⟨_, PySem.W.mg_of X G a_least_period, k_least_period, raw (ok_lp F_least_period T c_goes_on) B_least_period⟩
  have c_settled : Cal l.prog w K mg base CX0 3 "settled" spSet := ⟨_, PySem.W.mg_of X G a_settled, k_settled, raw (ok_settled F_settled T c_least_period) B_settled⟩
  have c_Row : Mkc l.prog w K mg base (L2.CX l.prog w) 4 CR "Row" (spRow0 CT CR) := ⟨fR_, T.m_Row, MR, raw (ok_Row_init FRI T hC c_is_integer c_settled x_BadNumber x_TooMany) BRI⟩
  have c_need_from : Cal l.prog w K mg base (L2.CX l.prog w) 3 "need_from" (spNeed CN) := ⟨_, PySem.W.mg_of X G a_need_from, k_need_from, raw (ok_need F_need_from T c_is_integer x_BadNumber) B_need_from⟩
  have c_start : Prp l.prog w K mg base CX0 1 (· = CR) "start" (spStart CR) := ⟨p_start, g_start, _, fun C h => by
    cases h
    exact ⟨CL_R, pa_start, pg_start, pt_start, _, pr_start⟩, ok_start FPstart T hC, BPstart⟩
  have c_period : Prp l.prog w K mg base CX0 1 (· = CR) "period" (spPeriod CR) := ⟨p_period, g_period, _, fun C h => by
    cases h
    exact ⟨CL_R, pa_period, pg_period, pt_period, _, pr_period⟩, ok_period FPperiod T hC, BPperiod⟩
  have c_step : Prp l.prog w K mg base CX0 1 (· = CR) "step" (spStep CR) := ⟨p_step, g_step, _, fun C h => by
    cases h
    exact ⟨CL_R, pa_step, pg_step, pt_step, _, pr_step⟩, ok_step FPstep T hC, BPstep⟩
  have c_first : Prp l.prog w K mg base CX0 1 (· = CR) "first" (spFirst CR) := ⟨p_first, g_first, _, fun C h => by
    cases h
    exact ⟨CL_R, pa_first, pg_first, pt_first, _, pr_first⟩, ok_first FPfirst T hC, BPfirst⟩
  have c_RowX : Mkc l.prog w K mg base (L2.CX l.prog w) 4 CR "Row" (spRowX CN CT CR K) := ⟨fR_, T.m_Row, MR, raw (ok_RowX FRI T hC c_is_integer c_settled x_BadNumber x_TooMany) BRI⟩
  have c_RowN : MkcN l.prog w K mg base (L2.CX l.prog w) 4 CR "Row" 0 ["numbers", "period", "step"] gRow (spRow0 CT CR) := ⟨fR_, _, _, fun us ws => us ++ ws, T.m_Row, MR, ok_Row_init FRI T hC c_is_integer c_settled x_BadNumber x_TooMany, ⟨fun s us ws _ l1 l2 => match us, ws, l1, l2 with | [_], [_, _, _], _, _ => .of_eq rfl, fun r z => r.append z⟩⟩
  have c_evenN : StmN l.prog w K mg base (L2.CX l.prog w) 6 CR "even" ["first", "step"] gEv (spEvenX CN CR) := ⟨_, pC, fC, restC, _, _, fun us ws => us ++ ws, tyR, ⟨rdR, gaR⟩, atC, rcC, kC, ok_evenX FC T c_RowX, ⟨fun s us ws _ l1 l2 => match us, ws, l1, l2 with | [], [_, _], _, _ => .of_eq rfl, fun r z => r.append z⟩⟩
  have o_number : OwnM l.prog w K mg base CX0 3 CR "number" (spNum CR) := ⟨fM, CL_R, ⟨aM, iM, kM⟩, raw (ok_number FM T hC c_start) BM⟩
  have rGet : FnR l.prog w K mg base (L2.CX l.prog w) 4 fG (spGet CN CR) := raw (ok_get FG T c_need_from o_number) BG
  have rE : FnR l.prog w K mg base CX0 2 fE (spEqX K CR) := raw (ok_eqX FE T hC RK) BE
  have c_divisor : Cal l.prog w K mg base CX0 1 "divisor" spDivr := ⟨_, PySem.W.mg_of X G a_divisor, k_divisor, raw (ok_divr F_divisor T) B_divisor⟩
  have c_pace : Prp l.prog w K mg base CX0 2 (· = CR) "pace" (spPace CR) := ⟨p_pace, g_pace, _, fun C h => by
    cases h
    exact ⟨CL_R, pa_pace, pg_pace, pt_pace, _, pr_pace⟩, ok_pace FPpace T hC c_divisor, BPpace⟩
  have g_numbers : GenM l.prog w K mg base 6 CR "numbers" (spNumsG CN CR) := ⟨fI, _, _, CL_R, ⟨aI, iI, kI⟩, ok_numsG FI T c_need_from o_number, BI⟩
  have w_numbers : Gw.GwM l.prog w K mg base 6 CR "numbers" [] (spNumsW CR) := ⟨_, _, _, [], CL_R, ⟨aI, iI, kI⟩, ok_numsW FI T c_need_from o_number, BI, .nil⟩
  have c_figures_of : Cal l.prog w K mg base CX0 1 "figures_of" spFig := ⟨_, PySem.W.mg_of X G a_figures_of, k_figures_of, raw (ok_fig F_figures_of T) B_figures_of⟩
  have rStr : FnR l.prog w K mg base CX0 3 fT (spStr CR) := raw (ok_str FT T hC c_start c_figures_of) BT
  have c__law_pen : Cal l.prog w K mg base CX0 1 "_law_pen" (spPen K) := ⟨_, PySem.W.mg_of X G a__law_pen, k__law_pen, raw (ok_pen F__law_pen T) B__law_pen⟩
  have c__law_draw : Cal l.prog w K mg base CX0 1 "_law_draw" spDraw := ⟨_, PySem.W.mg_of X G a__law_draw, k__law_draw, raw (ok_draw F__law_draw T) B__law_draw⟩
  have c__law_pick : Cal l.prog w K mg base CX0 2 "_law_pick" (spPick K) := ⟨_, PySem.W.mg_of X G a__law_pick, k__law_pick, raw (ok_pick F__law_pick T c__law_draw) B__law_pick⟩
  have c__law_told : Cal l.prog w K mg base CX0 3 "_law_told" spTold := ⟨_, PySem.W.mg_of X G a__law_told, k__law_told, raw (ok_told F__law_told T c__law_draw c__law_pick) B__law_told⟩
  have c__law_at : Cal l.prog w K mg base CX0 1 "_law_at" spAt := ⟨_, PySem.W.mg_of X G a__law_at, k__law_at, raw (ok_at F__law_at T) B__law_at⟩
  have c__law_least : Cal l.prog w K mg base CX0 3 "_law_least" spLeastL := ⟨_, PySem.W.mg_of X G a__law_least, k__law_least, raw (ok_least F__law_least T c__law_at) B__law_least⟩
  have c__law_pace : Cal l.prog w K mg base CX0 1 "_law_pace" spLpa := ⟨_, PySem.W.mg_of X G a__law_pace, k__law_pace, raw (ok_lpa F__law_pace T) B__law_pace⟩
  have c__law_row : Cal l.prog w K mg base CX0 6 "_law_row" (spLro CR) := ⟨_, PySem.W.mg_of X G a__law_row, k__law_row, raw (ok_lro F__law_row T c_Row) B__law_row⟩
  have c__law_other : Cal l.prog w K mg base CX0 3 "_law_other" spLot := ⟨_, PySem.W.mg_of X G a__law_other, k__law_other, raw (ok_lot F__law_other T c__law_draw c__law_at) B__law_other⟩
  have c__law_right : CalG l.prog w K mg base CX0 12 "_law_right" (spLri CR) := ⟨_, _, _, PySem.W.mg_of X G a__law_right, k__law_right, B__law_right, ok_lri F__law_right T hsys hC rGet hGet c_start c_period c_step c_first c_pace g_numbers w_numbers c__law_draw c__law_pick c__law_at c__law_least c__law_pace c__law_row⟩
  have c__law_equal_right : Cal l.prog w K mg base CX0 9 "_law_equal_right" spLeq := ⟨_, PySem.W.mg_of X G a__law_equal_right, k__law_equal_right, raw (ok_leq F__law_equal_right T hC RK rE iE rStr iT aT c_Row c_RowN c_first od c__law_draw c__law_row c__law_other) B__law_equal_right⟩
  exact ok_law F_law T hC RK rE iE rGet hGet c_Row c_evenN c__law_pen c__law_draw c__law_told c__law_right c__law_equal_right
theorem walk {l : PySem.W.OpenLaw} {q : Program} {loose : List Str} {XP : (Str → Option Value) → Heap → Prop} {YP : World → Heap → Prop} {d : DefRec} {K : Params → PySem.W.Frag} (hn : l.most = some 63) (hdf : d.params.defaults = []) (him : importsNone q = true)
    (hY : ∀ (w : World) (h : Heap), YP w h → (K w.params).In h)
    (F : ∀ (w : World) (mg : Str → Option Value) (fa : Addr) (h : Heap), (K w.params).In h → h.Ns mainGlobals mg → mg d.name = some (.ref fa) → (∀ (x : Str) (fx : Addr), ((recsOf q).any fun e => e.name == x) = true → mg x = some (.ref fx) → LamX.OwnTab (K w.params) fx h) → LawG l w (K w.params) CX0 15 63 "_law_script" mg fa h) :
    PySem.W.WalkO q loose XP YP l.row.toRowW d [] (fun f vs => PySem.call f vs) :=
  walk_G (n := 63) (k := 15) (x := "_law_script") (CX := fun _ => CX0) hn (by decide) hdf ⟨rfl, by decide, by decide⟩ him hY (fun w mg fa h _ => F w mg fa h) fun _ _ _ _ _ z => z
end K09
end
section
set_option Elab.async false
set_option linter.all false
set_option maxRecDepth 100000
set_option maxHeartbeats 8000000
namespace HeadH
open PySem PySem.W PySem.Calls PyProof.Rows
def nms0 : List PySem.Str := ["_wall", "StowError", "BadNumber", "TooMany", "BadText", "is_integer", "MOST_NUMBERS", "FIGURES", "PIECE", "need_from", "figures_of", "divisor", "multiple", "goes_on", "least_period", "settled", "is_integer_text", "number_of", "row_of", "frame", "step_over", "joined", "scaled", "chosen_of", "last_above", "chosen", "lesser", "greater", "Row", "_law_pen"]
def nms1 : List PySem.Str := ["_law_draw", "_law_pick", "_law_told", "_law_at", "_law_least", "_law_pace", "_law_other", "_law_row", "_law_right", "_law_equal_right"]
def nms : List PySem.Str := nms0 ++ nms1
end HeadH
open PySem PySem.W PySem.Calls PyProof.Rows
local macro_rules
  | `(tactic| o_head $H) => do
    let a := H.raw[1][1]
    let as : Lean.TSyntax `term := ⟨a[1]⟩
    let ob ← `(fun s => List.map (HandSHeadRun.getT s) $as)
    let (ho, run, hw, hc) := (Lean.mkIdent `ho, Lean.mkIdent `run, Lean.mkIdent `hw, Lean.mkIdent `hc)
    `(tactic| refine HandSHeadRun.head_any (r := OpenLaw.row PySem.Challenge.rw_loopstow_k09_rows_told) (q := view (OpenLaw.row PySem.Challenge.rw_loopstow_k09_rows_told).prog [44]) (H := $H) (ob := $ob) (M := 12000) (loose := HeadH.nms) (d := HandSHeadRun.topDef (OpenLaw.row PySem.Challenge.rw_loopstow_k09_rows_told).prog 44) (kwd := []) ?$ho (by kernel_rfl) (fun s => by kernel_rfl) ?$run (by kernel_rfl) (by kernel_rfl) (by kernel_rfl) (by rfl) (by first | assumption | decide +kernel) (by decide +kernel) ⟨rfl, rfl, rfl, rfl, rfl, by decide +kernel⟩ ?$hw ?$hc)
set_option maxRecDepth 100000 in
set_option maxHeartbeats 0 in
theorem PySem.Challenge.cw_loopstow_k09_rows_told_holds : PySem.Challenge.rw_loopstow_k09_rows_told.Holds := by
  w_on; o_law; k_head; (case ho => intro s; exact congrArg (fun f => List.map f _) (funext fun a => HandSHeadRun.getT_eq s a)); (case run => intro w os; kernel_rfl); (case hw => w_witness2)
  as_aux_lemma =>
    k_fill
    refine K09.walk (l := PySem.Challenge.rw_loopstow_k09_rows_told) rfl rfl (by decide +kernel) (fun w h Y => PySem.W.kIn_of Y) ?F
    case F =>
      intro w mg fa h KX G hmg ow
      refine' K09.all_mk KX G hmg ow ?b0 ?b1 ?b2 ?b3 ?b4 ?b5 ?b6 ?b7 ?b8 ?b9 ?b10 ?b11 ?b12 ?b13 ?hn ?htk ?any_ ?top_ ?gCE ?eE1 ?eE2 ?eE3 ?gM ?gP ?eP ?gF ?eF ?gB_ ?gN_ ?xoN ?xrN ?saN ?beN ?tyN ?kpN ?inN ?tf_N ?lIN ?cIN ?kIN ?ceN ?coN ?v2N ?flN ?cd_N ?sbN ?svN ?fd_N ?noN_value ?suN ?xgN ?xkN ?hdN ?haN ?hmN ?gT_ ?xoT ?xrT ?saT ?beT ?tyT ?kpT ?inT ?tf_T ?lIT ?cIT ?kIT ?ceT ?coT ?v2T ?flT ?cd_T ?sbT ?svT ?fd_T ?noT_most ?suT ?xgT ?xkT ?hdT ?haT ?hmT ?gR_ ?pgR ?hdR ?poR ?saR ?nR_told ?nR_many ?nR_gain ?haR ?hmR ?mkR ?inR ?fnR ?kpR ?lRI ?cRI ?kRI ?kRR ?kRN ?neR ?nfR ?sfR ?aG ?iG ?lG ?cG ?kG ?aE ?iE ?lE ?cE ?kE ?aM ?iM ?lM ?cM ?kM ?aT ?iT ?lT ?cT ?kT ?aI ?iI ?lI ?cI ?kI ?pa_start ?pg_start ?pt_start ?pr_start ?lPstart ?cPstart ?kPstart ?pa_period ?pg_period ?pt_period ?pr_period ?lPperiod ?cPperiod ?kPperiod ?pa_step ?pg_step ?pt_step ?pr_step ?lPstep ?cPstep ?kPstep ?pa_first ?pg_first ?pt_first ?pr_first ?lPfirst ?cPfirst ?kPfirst ?pa_pace ?pg_pace ?pt_pace ?pr_pace ?lPpace ?cPpace ?kPpace ?fnG ?kR_NoneType ?nf_NoneType ?kR_bool ?nf_bool ?nf_int ?kR_str ?nf_str ?kR_list ?nf_list ?kR_tuple ?nf_tuple ?tyR ?rdR ?gaR ?atC ?rcC ?lC ?cC ?kC ?a_is_integer ?l_is_integer ?c_is_integer ?k_is_integer ?a_goes_on ?l_goes_on ?c_goes_on ?k_goes_on ?a_least_period ?l_least_period ?c_least_period ?k_least_period ?a_settled ?l_settled ?c_settled ?k_settled ?a_need_from ?l_need_from ?c_need_from ?k_need_from ?a_divisor ?l_divisor ?c_divisor ?k_divisor ?a_figures_of ?l_figures_of ?c_figures_of ?k_figures_of ?a__law_pen ?l__law_pen ?c__law_pen ?k__law_pen ?a__law_draw ?l__law_draw ?c__law_draw ?k__law_draw ?a__law_pick ?l__law_pick ?c__law_pick ?k__law_pick ?a__law_told ?l__law_told ?c__law_told ?k__law_told ?a__law_at ?l__law_at ?c__law_at ?k__law_at ?a__law_least ?l__law_least ?c__law_least ?k__law_least ?a__law_pace ?l__law_pace ?c__law_pace ?k__law_pace ?a__law_other ?l__law_other ?c__law_other ?k__law_other ?a__law_row ?l__law_row ?c__law_row ?k__law_row ?a__law_right ?l__law_right ?c__law_right ?k__law_right ?a__law_equal_right ?l__law_equal_right ?c__law_equal_right ?k__law_equal_right ?a_law ?l_law ?c_law ?k_law
      (case b0 => k_is)
      (case b1 => k_is)
      (case b2 => k_is)
      (case b3 => k_is)
      (case b4 => k_is)
      (case b5 => k_is)
      (case b6 => k_is)
      (case b7 => k_is)
      (case b8 => k_is)
      (case b9 => k_is)
      (case b10 => k_is)
      (case b11 => k_is)
      (case b12 => k_is)
      (case b13 => k_is)
      (case hn => k_is)
      (case htk => k_is)
      (case any_ => k_is)
      (case top_ => decide +kernel)
      (case gCE => k_is)
      (case eE1 => k_is)
      (case eE2 => k_is)
      (case eE3 => k_is)
      (case gM => k_is)
      (case gP => k_is)
      (case eP => decide +kernel)
      (case gF => k_is)
      (case eF => decide +kernel)
      (case gB_ => k_is)
      (case gN_ => k_is)
      (case xoN => k_is)
      (case xrN => rfl)
      (case saN => k_is)
      (case beN => k_is)
      (case tyN => k_is)
      (case kpN => k_is)
      (case inN => k_is)
      (case tf_N => k_is)
      (case lIN => k_is)
      (case cIN => k_is)
      (case kIN => k_is)
      (case ceN => k_is)
      (case coN => k_is)
      (case v2N => rfl)
      (case flN => decide +kernel)
      (case cd_N => k_is)
      (case sbN => k_is)
      (case svN => k_is)
      (case fd_N => ks_is)
      (case noN_value => k_is)
      (case suN => k_is)
      (case xgN => k_is)
      (case xkN => k_is)
      (case hdN => k_is)
      (case haN => k_is)
      (case hmN => k_is)
      (case gT_ => k_is)
      (case xoT => k_is)
      (case xrT => rfl)
      (case saT => k_is)
      (case beT => k_is)
      (case tyT => k_is)
      (case kpT => k_is)
      (case inT => k_is)
      (case tf_T => k_is)
      (case lIT => k_is)
      (case cIT => k_is)
      (case kIT => k_is)
      (case ceT => k_is)
      (case coT => k_is)
      (case v2T => rfl)
      (case flT => decide +kernel)
      (case cd_T => k_is)
      (case sbT => k_is)
      (case svT => k_is)
      (case fd_T => ks_is)
      (case noT_most => k_is)
      (case suT => k_is)
      (case xgT => k_is)
      (case xkT => k_is)
      (case hdT => k_is)
      (case haT => k_is)
      (case hmT => k_is)
      (case gR_ => k_is)
      (case pgR => k_is)
      (case hdR => k_is)
      (case poR => k_is)
      (case saR => k_is)
      (case nR_told => k_is)
      (case nR_many => k_is)
      (case nR_gain => k_is)
      (case haR => k_is)
      (case hmR => k_is)
      (case mkR => k_is)
      (case inR => k_is)
      (case fnR => k_is)
      (case kpR => k_is)
      (case lRI => k_is)
      (case cRI => k_is)
      (case kRI => k_is)
      (case kRR => kit_is)
      (case kRN => kit_is)
      (case neR => k_is)
      (case nfR => k_is)
      (case sfR => k_is)
      (case aG => k_is)
      (case iG => k_is)
      (case lG => k_is)
      (case cG => k_is)
      (case kG => k_is)
      (case aE => k_is)
      (case iE => k_is)
      (case lE => k_is)
      (case cE => k_is)
      (case kE => k_is)
      (case aM => k_is)
      (case iM => k_is)
      (case lM => k_is)
      (case cM => k_is)
      (case kM => k_is)
      (case aT => k_is)
      (case iT => k_is)
      (case lT => k_is)
      (case cT => k_is)
      (case kT => k_is)
      (case aI => k_is)
      (case iI => k_is)
      (case lI => k_is)
      (case cI => k_is)
      (case kI => k_is)
      (case pa_start => k_is)
      (case pg_start => k_is)
      (case pt_start => k_is)
      (case pr_start => k_is)
      (case lPstart => k_is)
      (case cPstart => k_is)
      (case kPstart => k_is)
      (case pa_period => k_is)
      (case pg_period => k_is)
      (case pt_period => k_is)
      (case pr_period => k_is)
      (case lPperiod => k_is)
      (case cPperiod => k_is)
      (case kPperiod => k_is)
      (case pa_step => k_is)
      (case pg_step => k_is)
      (case pt_step => k_is)
      (case pr_step => k_is)
      (case lPstep => k_is)
      (case cPstep => k_is)
      (case kPstep => k_is)
      (case pa_first => k_is)
      (case pg_first => k_is)
      (case pt_first => k_is)
      (case pr_first => k_is)
      (case lPfirst => k_is)
      (case cPfirst => k_is)
      (case kPfirst => k_is)
      (case pa_pace => k_is)
      (case pg_pace => k_is)
      (case pt_pace => k_is)
      (case pr_pace => k_is)
      (case lPpace => k_is)
      (case cPpace => k_is)
      (case kPpace => k_is)
      (case fnG => k_is)
      (case kR_NoneType => kit_is)
      (case nf_NoneType => k_is)
      (case kR_bool => kit_is)
      (case nf_bool => k_is)
      (case nf_int => k_is)
      (case kR_str => kit_is)
      (case nf_str => k_is)
      (case kR_list => kit_is)
      (case nf_list => k_is)
      (case kR_tuple => kit_is)
      (case nf_tuple => k_is)
      (case tyR => k_is)
      (case rdR => k_is)
      (case gaR => k_is)
      (case atC => k_is)
      (case rcC => k_is)
      (case lC => k_is)
      (case cC => k_is)
      (case kC => k_is)
      (case a_is_integer => k_is)
      (case l_is_integer => k_is)
      (case c_is_integer => k_is)
      (case k_is_integer => k_is)
      (case a_goes_on => k_is)
      (case l_goes_on => k_is)
      (case c_goes_on => k_is)
      (case k_goes_on => k_is)
      (case a_least_period => k_is)
      (case l_least_period => k_is)
      (case c_least_period => k_is)
      (case k_least_period => k_is)
      (case a_settled => k_is)
      (case l_settled => k_is)
      (case c_settled => k_is)
      (case k_settled => k_is)
      (case a_need_from => k_is)
      (case l_need_from => k_is)
      (case c_need_from => k_is)
      (case k_need_from => k_is)
      (case a_divisor => k_is)
      (case l_divisor => k_is)
      (case c_divisor => k_is)
      (case k_divisor => k_is)
      (case a_figures_of => k_is)
      (case l_figures_of => k_is)
      (case c_figures_of => k_is)
      (case k_figures_of => k_is)
      (case a__law_pen => k_is)
      (case l__law_pen => k_is)
      (case c__law_pen => k_is)
      (case k__law_pen => k_is)
      (case a__law_draw => k_is)
      (case l__law_draw => k_is)
      (case c__law_draw => k_is)
      (case k__law_draw => k_is)
      (case a__law_pick => k_is)
      (case l__law_pick => k_is)
      (case c__law_pick => k_is)
      (case k__law_pick => k_is)
      (case a__law_told => k_is)
      (case l__law_told => k_is)
      (case c__law_told => k_is)
      (case k__law_told => k_is)
      (case a__law_at => k_is)
      (case l__law_at => k_is)
      (case c__law_at => k_is)
      (case k__law_at => k_is)
      (case a__law_least => k_is)
      (case l__law_least => k_is)
      (case c__law_least => k_is)
      (case k__law_least => k_is)
      (case a__law_pace => k_is)
      (case l__law_pace => k_is)
      (case c__law_pace => k_is)
      (case k__law_pace => k_is)
      (case a__law_other => k_is)
      (case l__law_other => k_is)
      (case c__law_other => k_is)
      (case k__law_other => k_is)
      (case a__law_row => k_is)
      (case l__law_row => k_is)
      (case c__law_row => k_is)
      (case k__law_row => k_is)
      (case a__law_right => k_is)
      (case l__law_right => k_is)
      (case c__law_right => k_is)
      (case k__law_right => k_is)
      (case a__law_equal_right => k_is)
      (case l__law_equal_right => k_is)
      (case c__law_equal_right => k_is)
      (case k__law_equal_right => k_is)
      (case a_law => k_is)
      (case l_law => k_is)
      (case c_law => k_is)
      (case k_law => k_is)
end
