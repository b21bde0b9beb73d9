import PyProof.Rows.All
import Wide.All
import OpenK.AllK
import Wide.FinOn
import HandS.ForMost
import HandS.ForExc
import HandS.IsInst
import HandS.Flow
import HandS.ExcInit
import HandS.CallSlots
import HandS.ExcIs
import HandS.ExcField
import HandS.TupAny
import HandS.Deep
import KE.KEqDict
import HandS.Spec
import HandS.Walk
import HandS.Zip
import HandS.Finally
import HandS.Style
import HandS.FStr
import HandS.DictComp
import HandS.Ends
import HandS.Codes
import PySem.Challenge.RW_farcalls_k26_letters_refused
set_option Elab.async false
set_option linter.all false
set_option maxRecDepth 100000
set_option maxHeartbeats 4000000
namespace Mi
open PySem L2 PySem.Spec PyProof.Rows
/-! ### a caught exception that is kept behind its suite -/
def exk (a : Addr) (cls : Value) (d : Option Addr) : HO := .ext fun h => ∃ (o : Obj) (vs : Array Value), h.get? a = some o ∧ Zc cls d o ∧ o.data = .fields vs
theorem exk_ok {P : Program} {w : World} {H : Hp} {h : Heap} {a : Addr} {cls : Value} {d : Option Addr} {o : Obj} {vs : Array Value} (e : h.get? a = some o) (z : Zc cls d o) (f : o.data = .fields vs) : ObjOk P w H h a (exk a cls d) :=
  ⟨⟨o, vs, e, z, f⟩, ⟨o, e⟩, fun _ _ ⟨o', vs', e', z'⟩ k => ⟨o', vs', k _ e', z'⟩⟩
theorem exk_at {P : Program} {w : World} {H : Hp} {h : Heap} {a : Addr} {cls : Value} {d : Option Addr} (hok : HOk P w H h) (e : H a = some (exk a cls d)) : ∃ (o : Obj) (vs : Array Value), h.get? a = some o ∧ Zc cls d o ∧ o.data = .fields vs := by
  have x : ObjOk P w H h a (.ext fun h => ∃ (o : Obj) (vs : Array Value), h.get? a = some o ∧ Zc cls d o ∧ o.data = .fields vs) := hok a _ e
  exact x.1
/-- an object that came up since the def began, and isn't tracked: it may be tracked from now on -/
theorem track {X : Cx} {pins : List (Addr × Obj)} {σ : L2.St} {H : Hp} {s : Shared} {a : Addr} {u : HO} (I : Inv X pins σ H s) (na : H a = none) (n0 : X.s_0.heap.get? a = none) (nl : a ≠ X.env.locals)
    (nc : ∀ x c, X.env.cells.lookup x = some c → c ≠ a) (np : ∀ p ∈ X.pn ++ pins, p.1 ≠ a) (new : ObjOk X.prog X.w (upd H a u) s.heap a u) : Inv X pins σ (upd H a u) s := by
  have old : ∀ {b : Addr} {o : HO}, H b = some o → upd H a u b = some o := fun {b o} e => by
    rw [upd_ne (ne_of_none e na)]
    exact e
  refine { I with base := ?_, free := ?_, freeC := ?_, pin := ?_, hok := ?_ }
  · refine { I.base with free := ?_, tups := fun b xs e => old (I.base.tups b xs e), frzs := fun b o v e => old (I.base.frzs b o v e), tbls := ?_ }
    · intro b o e n x
      have hb : b ≠ a := fun z => by
        rw [z, n0] at e
        cases e
      rw [upd_ne hb]
      exact I.base.free b o e n x
    · intro b ps e
      obtain ⟨m, q⟩ := I.base.tbls b ps e
      exact ⟨m, old q⟩
  · rw [upd_ne (Ne.symm nl)]
    exact I.free
  · intro x c e
    rw [upd_ne (nc x c e)]
    exact I.freeC x c e
  · intro p hp
    obtain ⟨p1, p2, p3⟩ := I.pin p hp
    refine ⟨p1, ?_, p3⟩
    rw [upd_ne (np p hp)]
    exact p2
  · intro b o e
    by_cases hb : b = a
    · subst hb
      rw [upd_same] at e
      cases e
      exact new
    · rw [upd_ne hb] at e
      exact (I.hok b o e).stay (fun _ _ _ q => q) (fun _ q => old q) fun _ _ q => old q
/-- the wish of 'except x as n: suite' where the exception is of the class c for sure, and is kept -/
def wKeep (K : PySem.W.Frag) (c : Value) (i : Nat) (ts : Addr → Value → Option Addr → TS) (D : Ends) : WX := fun cls d σ H =>
  PySem.W.exmOne K cls c = some true ∧ ∀ a, H a = none →
    ts a cls d { nx := fun σ' H' => D.nx (σ'.set i none) (upd H' a (exk a cls d)), rt := fun _ _ => False, bk := fun _ _ => False, ct := fun _ _ => False } (σ.set i (some (.ref a))) H
section
variable {X : Cx} {x n : Str} {c : Value} {i : Nat} {body suite : List Stmt} {b₀ : Stmt} {np pos pos' : Pos} {tb : WX → TS} {ts : Addr → Value → Option Addr → TS}
theorem ps_try_keep (hs : X.stack = X.env :: X.outer) (hf : X.env.frame = some X.env.locals) (hex : X.ex = []) (nd : X.N.Nodup) (hi : X.N[i]? = some n) (hl : X.env.kindOf n = some .local) (hc : Names X x c)
    (hb : ∀ (W : WX) (pn : List (Addr × Obj)) (xe : Value → Shared → Prop), Takes (X.tr pn xe) W → PassesOwn (model X.prog X.w) X.A X.env xe → PSs (X.tr pn xe) body (tb W))
    (hsu : ∀ (a : Addr) (oe : Obj) (cls : Value) (d : Option Addr) (pn : List (Addr × Obj)), Zc cls d oe → (∃ vs, oe.data = .fields vs) → PSs (X.suite a ((a, oe) :: pn)) (b₀ :: suite) (ts a cls d)) :
    PS X (.Try body [.ExceptHandler (some (.Name x np)) (some n) (b₀ :: suite) pos'] [] [] pos) (fun D σ H => tb (wKeep X.K c i ts D) D σ H) := by
  constructor
  intro pins s σ H D I h
  have fr : X.A.frames = some (X.env :: X.outer) := I.ok.frames.trans (congrArg some hs)
  refine wpAny_Try_except ?_
  let after : Value → Shared → Prop := fun e s1 => wpAny (model X.prog X.w) X.A (noteFrame e X.env) (fun _ s2 => wpAny (model X.prog X.w) X.A (setFlight e none) (fun _ s3 =>
    wpAny (model X.prog X.w) X.A (handleBy e X.env [.ExceptHandler (some (.Name x np)) (some n) (b₀ :: suite) pos']) (SP X pins D) X.xe s3) X.xe s2) X.xe s1
  have tk : Takes (X.tr (X.pn ++ pins) after) (wKeep X.K c i ts D) := by
    rintro u s1 ⟨a, gr, sI, pins1, σ1, H1, cls, d, rfl, J0, nb, up, sky, na, os, ag, yes, go⟩
    have J : Inv X pins σ1 H1 sI := J0.ofTry I.ok
    have sky1 : Sky gr (X.env :: X.outer) a (Zc cls d) X.env.locals s1.heap := hs ▸ sky
    refine Sky.land Zc.steady fr hf sky1 fun h2 fl2 up2 => ?_
    obtain ⟨o2, vs2, at2, z2, d2⟩ := fl2.there
    -- the exception is new since the def began
    have gone : gr.get? a = none := by
      rcases sky1 with q | q | q
      · exact q.2.1
      · exact q.2.1
      · exact q.2.1
    have notFrame : a ∉ frs (X.env :: X.outer) := fun hm => by
      obtain ⟨_, o', e', nf⟩ := fl2.2.2.1.mem hm
      rw [at2] at e'
      cases e'
      exact nf _ d2
    have loc : X.env.locals ∈ frs (X.env :: X.outer) := List.mem_filterMap.mpr ⟨X.env, List.mem_cons_self, hf⟩
    have nl : a ≠ X.env.locals := fun z => notFrame (z ▸ loc)
    have out : ∀ b, b ∈ X.fs → b ∈ frs (X.env :: X.outer) := fun b hm => by
      obtain ⟨e, he, q⟩ := List.mem_filterMap.mp hm
      exact List.mem_filterMap.mpr ⟨e, List.mem_cons_of_mem _ he, q⟩
    have nF : a ∉ X.fs := fun hm => notFrame (out a hm)
    have inFr : ∀ b, b ∈ frs X.stack → b = X.env.locals ∨ b ∈ X.fs := fun b hm => by
      rw [hs] at hm
      obtain ⟨e, he, q⟩ := List.mem_filterMap.mp hm
      rcases List.mem_cons.mp he with rfl | he
      · rw [hf] at q
        exact .inl (Option.some.inj q).symm
      · exact .inr (List.mem_filterMap.mpr ⟨e, he, q⟩)
    have n0 : X.s_0.heap.get? a = none := by
      cases e : X.s_0.heap.get? a with
      | none => rfl
      | some o =>
        obtain ⟨o', q⟩ := J.base.there a o e (by rw [hex]; exact fun z => nomatch z)
        have := nb a o' q (by rw [hs]; exact notFrame)
        rw [gone] at this
        cases this
    have npin : ∀ p ∈ X.pn ++ pins, p.1 ≠ a := fun p hp z => by
      obtain ⟨p1, p2, p3, p4, _⟩ := J.pin p hp
      have := nb p.1 p.2 p1 (fun hm => by
        rcases inFr _ hm with q | q
        · exact p3 q
        · exact p4 q)
      rw [z, gone] at this
      cases this
    have J2 : Inv X pins σ1 H1 { s1 with heap := h2 } := J.landed nb fl2.1 (up.trans up2) os ag
    have S2 := J2.suite at2 d2 na nl nF
    refine wpAny_handleBy_cons (codeAny_handlers_test ?_) (fun q => nomatch q)
    have ty : PySem.W.Looks (model X.prog X.w) h2 (typeOf (.ref a)) cls := fun _ _ _ _ k q => wpAny_typeOf_ref (k _ _ at2) (by rw [z2.1]; exact q)
    have lm := PySem.W.exm_one (M := model X.prog X.w) J2.kIn ty yes
    have named : ∀ {Q : Value → Shared → Prop} {E : Value → Shared → Prop}, Q c { s1 with heap := h2 } → wpAny (model X.prog X.w) (X.A.mark (some (.ref a))) (eval (.Name x np) X.env) Q E { s1 with heap := h2 } := fun {Q E} q => by
      obtain ⟨g1, g2, g3⟩ := hc
      rcases g3 with g3 | ⟨g3, g4, g5⟩
      · exact ld_glob (X := X.suite a ((a, o2) :: (X.pn ++ pins))) S2 g1 g3 q g2
      · exact ld_blt (X := X.suite a ((a, o2) :: (X.pn ++ pins))) S2 g1 g3 g4 q g5 g2
    refine named (lm.here ?_)
    refine codeAny_handlers_suite_as (HandSPX.lands_againZ fl2 fun h3 fl3 up3 => ?_)
    have J3 : Inv X pins σ1 H1 { s1 with heap := h3 } := J.landed nb fl3.1 ((up.trans up2).trans up3) os ag
    obtain ⟨o3, vs3, at3, z3, d3⟩ := fl3.there
    refine store_ok (X := X.suite a ((a, o3) :: (X.pn ++ pins))) (v := .ref a) (J3.suite at3 d3 na nl nF) nd hi (.inl hl) rfl (fun s4 S4 => ?_) (.inr hl)
    refine wpAny_mono ((hsu a o3 cls d (X.pn ++ pins) z3 ⟨_, d3⟩).run [] s4 _ H1 _ S4 (go a na)) ?_ (fun _ _ z => z.elim)
    intro f s5 hq
    cases f with
    | brk =>
      obtain ⟨_, _, _, q⟩ := hq
      exact q.elim
    | cont =>
      obtain ⟨_, _, _, q⟩ := hq
      exact q.elim
    | ret u =>
      obtain ⟨_, _, _, _, _, q⟩ := hq
      exact q.elim
    | next =>
      obtain ⟨σ5, H5, S5, q5⟩ := hq
      have pinned : Inv X ((a, o3) :: pins) σ5 H5 s5 := { S5.unsuite I.ok with
        pin := fun p hp => S5.pin p (List.mem_append_left _ (by
          rcases List.mem_append.mp hp with hp | hp
          · exact List.mem_cons_of_mem _ (List.mem_append_left _ hp)
          · rcases List.mem_cons.mp hp with rfl | hp
            · exact List.mem_cons_self
            · exact List.mem_cons_of_mem _ (List.mem_append_right _ hp))) }
      refine gone_ok pinned nd hi hl fun s6 J6 => ?_
      obtain ⟨at6, na6, _⟩ := J6.pin (a, o3) (List.mem_append_right _ List.mem_cons_self)
      have J7 : Inv X pins (σ5.set i none) H5 s6 := { J6 with
        pin := fun p hp => J6.pin p (by
          rcases List.mem_append.mp hp with hp | hp
          · exact List.mem_append_left _ hp
          · exact List.mem_append_right _ (List.mem_cons_of_mem _ hp)) }
      refine ⟨_, _, track J7 na6 n0 nl (fun y cc e z => ?_) npin (exk_ok at6 z3 d3), q5⟩
      obtain ⟨v, o', e', dd⟩ := J7.cell y cc e
      rw [z, at6] at e'
      cases e'
      rw [d3] at dd
      cases dd
  refine wpAny_mono ((hb _ (X.pn ++ pins) after tk PassesOwn.looking).run [] s σ H D (I.toTry _) h) ?_ (fun _ _ z => z)
  intro f s1 hq
  cases f with
  | next =>
    obtain ⟨σ1, H1, J1, q⟩ := hq
    exact wpAny_execs_nil ⟨σ1, H1, J1.ofTry I.ok, q⟩
  | brk =>
    obtain ⟨σ1, H1, J1, q⟩ := hq
    exact ⟨σ1, H1, J1.ofTry I.ok, q⟩
  | cont =>
    obtain ⟨σ1, H1, J1, q⟩ := hq
    exact ⟨σ1, H1, J1.ofTry I.ok, q⟩
  | ret u =>
    obtain ⟨v, σ1, H1, J1, r, q⟩ := hq
    exact ⟨v, σ1, H1, J1.ofTry I.ok, r, q⟩
end
/-! ### isinstance of, and the fields of, an exception that is kept -/
section
open PySem.W PySem.Calls
variable {prog : Program} {w : World} {A : Around} {E : Value → Shared → Prop} {s : Shared} {K : Frag} {x D : Addr} {ox od : Obj}
/-- its __class__, where it has a dict of its own -/
theorem cls_kept {Q : Option Value → Shared → Prop} (C : ExcC K D) (X : K.In s.heap) (I : InstAt s.heap x ox D (some od)) (q : Q (some (.ref D)) { s with toks := s.toks + 1 }) :
    wpAny (model prog w) A (getAttr? (.ref x) "__class__") Q E s := by
  obtain ⟨hp, g, d, t, os⟩ := s
  have isC : (clsIn K D).isSome = true := by
    obtain ⟨cd, hc, _⟩ := any_some C.hd
    rw [hc]
    rfl
  have got := looks_find (M := model prog w) X I (findObj_data (od := od) isC C.ha C.hn C.ht)
  have tyx := I.type (M := model prog w)
  have gat := looks_findIn (M := model prog w) X C.hg
  have gtr := looks_findIn (M := model prog w) X C.hk
  have exc : Looks (model prog w) hp (isInstance (.ref x) (.type "BaseException")) true := tyx.andThen (looks_subIn X C.hs)
  have ne : (Value.builtin "BaseException.__getattribute__" == Value.builtin "object.__getattribute__") = false := by decide +kernel
  unfold getAttr? getAttrBy? getAttrBy
  refine wpAny_bind (wpAny_mkText ?_)
  refine wpAny_bind (wpAny_attempt ?_)
  refine wpAny_holding (wpAny_bind (tyx.at ?_))
  refine wpAny_bind (gat.at ?_)
  have ne2 : (onTheHeap (Value.ref D) && Value.builtin "BaseException.__getattribute__" == Value.builtin "object.__getattribute__") = false := by
    rw [ne, Bool.and_false]
  show wpAny _ _ (if (onTheHeap (Value.ref D) && Value.builtin "BaseException.__getattribute__" == Value.builtin "object.__getattribute__") = true
    then _ else _) _ _ _
  rw [ne2, if_neg Bool.false_ne_true]
  unfold getAttrByItsOwn
  unfold hookBefore
  refine wpAny_bind ?_
  rw [if_pos (by rfl : onTheHeap (Value.ref D) = true)]
  refine gtr.at ?_
  refine wpAny_bind (wpAny_attempt ?_)
  refine wpAny_holding ?_
  unfold callGetattribute
  rw [if_neg (by decide +kernel : ¬ (false && onTheHeap (Value.builtin "BaseException.__getattribute__")) = true)]
  unfold boundAndCalled
  rw [PySem.F.excAttr_ValueError.ga.bind (.ref x)]
  refine wpAny_bind (wpAny_pure ?_)
  show wpAny _ _ (call (.builtin "BaseException.__getattribute__")
    [.ref x, .str "__class__" t]) _ _ _
  refine wpAny_call ?_
  refine codeAny_call_builtin PySem.F.excAttr_ValueError.ga.plain PySem.F.entry_bexc_ga ?_
  have kd : builtinKind "BaseException.__getattribute__" = some .slot := by decide +kernel
  have sp : splitId "BaseException.__getattribute__" = some ("BaseException", "__getattribute__") := by decide +kernel
  refine @check_slot (model prog w) _ _ ⟨hp, g, d, t + 1, os⟩ "BaseException.__getattribute__" "BaseException" "__getattribute__"
    (.ref x) [.str "__class__" t] [] _ kd sp exc (PySem.F.args_bexc_ga _ _) ?_
  unfold Builtin.«object.__getattribute__»
  refine wpAny_bind (wpAny_of_eq (a := ((Value.ref x : Value), [Value.str "__class__" t])) (by first | rfl | (simp only [slotArgs]; rfl)) ?_)
  refine wpAny_bind (wpAny_pure ?_)
  refine wpAny_bind (tyx.at ?_)
  refine wpAny_bind (got.at ?_)
  show wpAny _ _ (holding [Value.builtin "object.__class__"]
    (call (.builtin "getset_descriptor.__get__") [.builtin "object.__class__", .ref x, .ref D]) >>= ret) _ _ _
  refine wpAny_bind ?_
  refine wpAny_holding (wpAny_call ?_)
  refine class_get (s := ⟨hp, g, d, t + 1, os⟩) X I C.hm ?_
  refine wpAny_pure ?_
  show wpAny _ _ (handedOut (.ref D)) _ _ _
  rw [handedOut_of (v := Value.ref D) rfl]
  first
    | exact wpAny_pure q
    | exact wpAny_pure (wpAny_pure q)
    | exact wpAny_pure (wpAny_bind (wpAny_pure (wpAny_pure q)))
theorem kit_kept (C : ExcC K D) : KitX K (.ref x) (.ref D) (fun h => InstAt h x ox D (some od)) := by
  have old := handS_kitx_exc (x := x) (ox := ox) C.hg C.hk C.hs C.hd C.ha C.hn C.ht C.hm
  exact {
    ty := fun _ _ _ I => I.type
    it := fun M h X _ => by
      obtain ⟨cd, hc, _⟩ := any_some C.hd
      unfold clsIn at hc
      split at hc
      · rename_i e
        intro _ _ _ _ k q
        unfold isType loadHead
        exact wpAny_bind (wpAny_loadPart (k _ _ (X _ _ e)) (wpAny_pure q))
      · cases hc
    ne := old.ne
    ca := fun X I q => cls_kept C X I q }
end
/-- where the exception stands: an object of the class D, its dict at d, with the fields fs -/
structure Kept (H : Hp) (a D d : Addr) (fs : List (Str × V)) : Prop where
  o : H a = some (exk a (.ref D) (some d))
  f : H d = some (.xd fs)
section
variable {X : Cx} {pins : List (Addr × Obj)} {σ : L2.St} {H : Hp} {s : Shared} {a D d : Addr} {fs : List (Str × V)}
theorem Kept.inst (k : Kept H a D d fs) (I : Inv X pins σ H s) : ∃ (o od : Obj) (mA : Str → Option Value), PySem.W.InstAt s.heap a o D (some od) ∧ (∀ f, RelO (fs.lookup f) (mA f)) ∧ ∀ f, PySem.W.lookIn f od = some (mA f) := by
  obtain ⟨o, vs, at_, z, dt⟩ := exk_at I.hok k.o
  obtain ⟨mA, ns, rel⟩ : ∃ mA, s.heap.Ns1 d mA ∧ ∀ f, RelO (fs.lookup f) (mA f) := (show ObjOk X.prog X.w H s.heap d (.xd fs) from I.hok d _ k.f)
  obtain ⟨od, ho, hl⟩ := lookIn_ns ns
  refine ⟨o, od, mA, ⟨at_, z.1, ?_, ?_⟩, rel, hl⟩
  · unfold PySem.W.notCls
    rw [dt]
  · rw [z.2]
    exact ho
end
/-- isinstance(e, c), e kept -/
def rIsX (K : PySem.W.Frag) : List V → Hp → VK → Prop := fun xs H Q => ∃ (a D d : Addr) (fs : List (Str × V)) (c : V) (u : Value) (b : Bool), xs = [.ref a, c] ∧ Kept H a D d fs ∧ ClsV c u ∧ ExcC K D ∧ PySem.W.kitOne K (.ref D) u = some b ∧ Q (.bl b) H
/-- isinstance(e, (c1, c2, ..)) -/
def rIsXT (K : PySem.W.Frag) : List V → Hp → VK → Prop := fun xs H Q => ∃ (a D d : Addr) (fs : List (Str × V)) (tp : Addr) (cs : List V) (us : List Value) (b : Bool), xs = [.ref a, .ref tp] ∧ Kept H a D d fs ∧ H tp = some (.tup cs) ∧ Paired ClsV cs us ∧ ExcC K D ∧ PySem.W.kitAny K (.ref D) us = some b ∧ Q (.bl b) H
theorem call_isX {X : Cx} {K : PySem.W.Frag} (hK : X.K = K) : CallR X (.builtin "isinstance") (rIsX K) := by
  subst hK
  intro pins s σ H xs us Q I r h
  obtain ⟨a, D, d, fs, c, u, b, rfl, kp, cv, C, e, q⟩ := h
  obtain ⟨u1, u2, rfl, r1, r2⟩ := vals2 r
  cases (show u1 = Value.ref a from r1)
  cases cv.eq r2
  obtain ⟨o, od, mA, J, _⟩ := kp.inst I
  exact PySem.W.kia_one (kit_kept C) I.kIn J e (fun z => nomatch z) fun tk => ⟨.bl b, H, I.tok tk, rfl, q⟩
theorem call_isXT {X : Cx} {K : PySem.W.Frag} (hK : X.K = K) : CallR X (.builtin "isinstance") (rIsXT K) := by
  subst hK
  intro pins s σ H xs us Q I r h
  obtain ⟨a, D, d, fs, tp, cs, ws, b, rfl, kp, ht, cv, C, e, q⟩ := h
  obtain ⟨u1, u2, rfl, r1, r2⟩ := vals2 r
  cases (show u1 = Value.ref a from r1)
  cases (show u2 = Value.ref tp from r2)
  obtain ⟨o, od, mA, J, _⟩ := kp.inst I
  obtain ⟨_, its, rv, ot, h1, h2, n, h3⟩ := (show ObjOk X.prog X.w H s.heap tp (.tup cs) from I.hok tp _ ht)
  cases ClsV.all cv rv
  obtain ⟨oc, dd, dt, sl⟩ := ot
  dsimp only at h2 h3
  subst h2 h3
  exact PySem.W.kia_tup (kit_kept C) I.kIn J h1 e (fun z => nomatch z) fun tk => ⟨.bl b, H, I.tok tk, rfl, q⟩
/-- e.f, e kept -/
def tFldX (K : PySem.W.Frag) (f : Str) (te : TE) : TE := fun σ H Q => te σ H fun x H1 => ∃ (a D d : Addr) (fs : List (Str × V)) (v : V), x = .ref a ∧ Kept H1 a D d fs ∧ XfC K D ∧ PySem.W.findIn K (.ref D) f = some none ∧ fs.lookup f = some v ∧ Q v H1
theorem pe_fldX {X : Cx} {e : Expr} {te : TE} {pos : Pos} {f : Str} (he : PE X e te) (hb : attributeBase e f X.env (eval e X.env) = eval e X.env := by rfl) : PE X (.Attribute e f pos) (tFldX X.K f te) := by
  constructor
  intro pins s σ H Q I h
  refine attr_of hb (thn (he.run pins s σ H _ I h) ?_)
  rintro u s1 ⟨x, H1, I1, rx, a, D, d, fs, v, rfl, kp, T, no, l, q⟩
  cases (show u = Value.ref a from rx)
  obtain ⟨o, od, mA, J, rel, lk⟩ := kp.inst I1
  obtain ⟨w, hw, rw'⟩ := RelO.some_of (v := v) (o := mA f) (by rw [← l]; exact rel f)
  exact HandSPX.exc_get I1.kIn J T.ga T.gg T.exC (PySem.W.findObj_own T.hdC no rfl (by rw [lk, hw])) (handed_of rw') ⟨v, H1, I1.tok _, rw', q⟩
end Mi

set_option Elab.async false
set_option linter.all false
set_option maxRecDepth 100000
set_option maxHeartbeats 4000000
namespace Mi
open PySem L2

/-! ### values: data as trees, objects that change by a number -/
inductive W where
  | non
  | bl (b : Bool)
  | int (i : Int)
  | str (x : Str)
  | ty (n : String)
  | fn (x : Str)
  | h (n : Nat)
  | tup (ws : List W)
  | lst (ws : List W)
  | dct (ks : List Key) (ws : List W)
  | scr (ns : List Int)
inductive Ob where
  | lst (ws : List W)
  | dct (kvs : List (Key × W))
  | ins (c : Str) (fs : List (Str × W))
  | exn (c : Str) (fs : List (Str × W))
  | gone
abbrev Sto := List Ob
abbrev Env := List (Option W)
inductive R (α : Type) where
  | ok (a : α) (S : Sto)
  | ex (c : Str) (fs : List (Str × W)) (S : Sto)
  | bad
def R.bind {α β : Type} (r : R α) (k : α → Sto → R β) : R β := match r with
  | .ok a S => k a S
  | .ex c fs S => .ex c fs S
  | .bad => .bad
@[simp] theorem R.bind_ok {α β : Type} {a : α} {S : Sto} {k : α → Sto → R β} : (R.ok a S).bind k = k a S := rfl
@[simp] theorem R.bind_ex {α β : Type} {c : Str} {fs : List (Str × W)} {S : Sto} {k : α → Sto → R β} : (R.ex c fs S : R α).bind k = .ex c fs S := rfl
@[simp] theorem R.bind_bad {α β : Type} {k : α → Sto → R β} : (R.bad : R α).bind k = .bad := rfl
inductive RS where
  | next (e : Env) (S : Sto)
  | brk (e : Env) (S : Sto)
  | cont (e : Env) (S : Sto)
  | ret (w : W) (S : Sto)
  | ex (c : Str) (fs : List (Str × W)) (e : Env) (S : Sto)
  | bad

/-! ### the world: where the objects are, the objects, the abstract heap -/
structure Wd where
  m : Nat → Addr
  S : Sto
  H : Hp
  own : Addr → Prop
structure Kg where
  K : PySem.W.Frag
  mg : Str → Option Value
abbrev gX (X : Cx) : Kg := ⟨X.K, X.mg⟩
/-- objects that change: those of the store, and those that others hold in hand -/
def Live (z : Wd) (a : Addr) : Prop := (∃ n o, z.S[n]? = some o ∧ o ≠ .gone ∧ z.m n = a) ∨ z.own a
def HasT (g : Kg) (z : Wd) (a : Addr) (vs : List V) : Prop := (¬ Live z a ∧ Rd z.H a (.tup vs)) ∨ SqT g.K (fun _ => none) a vs
def HasL (g : Kg) (z : Wd) (a : Addr) (vs : List V) : Prop := (¬ Live z a ∧ Rd z.H a (.lst vs)) ∨ SqL g.K (fun _ => none) a vs
theorem HasT.sq {g : Kg} {z : Wd} {a : Addr} {vs : List V} (h : HasT g z a vs) : SqT g.K z.H a vs := by
  rcases h with ⟨_, h⟩ | (h | ⟨_, h⟩) | h
  · exact .inl h
  · cases h
  · cases h
  · exact .inr h
theorem HasL.sq {g : Kg} {z : Wd} {a : Addr} {vs : List V} (h : HasL g z a vs) : SqL g.K z.H a vs := by
  rcases h with ⟨_, h⟩ | (h | ⟨_, h⟩) | h
  · exact .inl h
  · cases h
  · cases h
  · exact .inr h
mutual
inductive RW (g : Kg) (z : Wd) : W → V → Prop
  | non : RW g z .non .non
  | bl (b : Bool) : RW g z (.bl b) (.bl b)
  | int (i : Int) : RW g z (.int i) (.int i)
  | str (x : Str) : RW g z (.str x) (.str x)
  | ty (n : String) : RW g z (.ty n) (.ty n)
  | fn {x : Str} {u : Value} {v : V} : g.mg x = some u → RelV v u → RW g z (.fn x) v
  | h {n : Nat} : n < z.S.length → RW g z (.h n) (.ref (z.m n))
  | tup {a : Addr} {ws : List W} {vs : List V} : HasT g z a vs → RWs g z ws vs → RW g z (.tup ws) (.ref a)
  | lst {a : Addr} {ws : List W} {vs : List V} : z.H a = some (.lst vs) → ¬ Live z a → RWs g z ws vs → RW g z (.lst ws) (.ref a)
  | scr {a : Addr} {ns : List Int} : HasL g z a (ns.map V.int) → RW g z (.scr ns) (.ref a)
  | dct {a : Addr} {ks : List Key} {ws : List W} {vs : List V} : z.H a = some (.dK (ks.zip vs)) → ¬ Live z a → ks.length = vs.length → RWs g z ws vs → RW g z (.dct ks ws) (.ref a)
inductive RWs (g : Kg) (z : Wd) : List W → List V → Prop
  | nil : RWs g z [] []
  | cons {w : W} {ws : List W} {v : V} {vs : List V} : RW g z w v → RWs g z ws vs → RWs g z (w :: ws) (v :: vs)
end
def RFs {κ : Type} (g : Kg) (z : Wd) : List (κ × W) → List (κ × V) → Prop := Paired fun p q => p.1 = q.1 ∧ RW g z p.2 q.2
inductive RO (g : Kg) (z : Wd) (a : Addr) : Ob → HO → Prop
  | lst {ws : List W} {vs : List V} : RWs g z ws vs → RO g z a (.lst ws) (.lst vs)
  | dct {kvs : List (Key × W)} {kvs' : List (Key × V)} : RFs g z kvs kvs' → RO g z a (.dct kvs) (.dK kvs')
  | ins {c : Str} {C dx : Addr} {fs : List (Str × W)} {fs' : List (Str × V)} : g.mg c = some (.ref C) → RFs g z fs fs' → RO g z a (.ins c fs) (.ins C dx fs')
  | exn {c : Str} {C d : Addr} {fs : List (Str × W)} {fs' : List (Str × V)} : g.mg c = some (.ref C) → z.H d = some (.xd fs') → ¬ Live z d → RFs g z fs fs' → RO g z a (.exn c fs) (exk a (.ref C) (some d))
structure Tied (g : Kg) (z : Wd) : Prop where
  at_ : ∀ n o, z.S[n]? = some o → o ≠ .gone → ∃ ho, z.H (z.m n) = some ho ∧ RO g z (z.m n) o ho
  inj : ∀ n n' o o', z.S[n]? = some o → o ≠ .gone → z.S[n']? = some o' → o' ≠ .gone → z.m n = z.m n' → n = n'
  own : ∀ a, z.own a → z.H a ≠ none
  off : ∀ n o, z.S[n]? = some o → o ≠ .gone → ¬ z.own (z.m n)
/-- what is data stays -/
structure Step0 (z z' : Wd) : Prop where
  len : z.S.length ≤ z'.S.length
  agree : ∀ n, n < z.S.length → z'.m n = z.m n
  stay : ∀ a o, z.H a = some o → ¬ Live z a → z'.H a = some o ∧ ¬ Live z' a
/-- .. and what others hold in hand -/
structure Step (z z' : Wd) : Prop extends Step0 z z' where
  same : z'.own = z.own
  keep : ∀ a, z.own a → z'.H a = z.H a
theorem Step0.refl (z : Wd) : Step0 z z := ⟨Nat.le_refl _, fun _ _ => rfl, fun _ _ h n => ⟨h, n⟩⟩
theorem Step0.trans {a b c : Wd} (x : Step0 a b) (y : Step0 b c) : Step0 a c :=
  ⟨Nat.le_trans x.len y.len, fun n h => (y.agree n (Nat.lt_of_lt_of_le h x.len)).trans (x.agree n h), fun p o h n => by
    obtain ⟨h1, n1⟩ := x.stay p o h n
    exact y.stay p o h1 n1⟩
theorem Step.refl (z : Wd) : Step z z := ⟨Step0.refl z, rfl, fun _ _ => rfl⟩
theorem Step.trans {a b c : Wd} (x : Step a b) (y : Step b c) : Step a c := ⟨x.toStep0.trans y.toStep0, y.same.trans x.same, fun p h => (y.keep p (x.same ▸ h)).trans (x.keep p h)⟩
section
variable {g : Kg} {z z' : Wd}
theorem Rd.step0 {a : Addr} {u : HO} (st : Step0 z z') (n : ¬ Live z a) (h : Rd z.H a u) : ¬ Live z' a ∧ Rd z'.H a u := by
  rcases h with h | ⟨o, h⟩
  · obtain ⟨h1, n1⟩ := st.stay a _ h n
    exact ⟨n1, .inl h1⟩
  · obtain ⟨h1, n1⟩ := st.stay a _ h n
    exact ⟨n1, .inr ⟨o, h1⟩⟩
theorem HasT.mono0 {a : Addr} {vs : List V} (st : Step0 z z') (h : HasT g z a vs) : HasT g z' a vs := h.imp (fun ⟨n, r⟩ => Rd.step0 st n r) id
theorem HasL.mono0 {a : Addr} {vs : List V} (st : Step0 z z') (h : HasL g z a vs) : HasL g z' a vs := h.imp (fun ⟨n, r⟩ => Rd.step0 st n r) id
mutual
theorem RW.mono0 (st : Step0 z z') : ∀ {w : W} {v : V}, RW g z w v → RW g z' w v
  | _, _, .non => .non
  | _, _, .bl b => .bl b
  | _, _, .int b => .int b
  | _, _, .str b => .str b
  | _, _, .ty b => .ty b
  | _, _, .fn a b => .fn a b
  | _, _, .h (n := n) l => st.agree n l ▸ RW.h (Nat.lt_of_lt_of_le l st.len)
  | _, _, .tup a b => .tup (a.mono0 st) (RWs.mono0 st b)
  | _, _, .lst a n b => .lst (st.stay _ _ a n).1 (st.stay _ _ a n).2 (RWs.mono0 st b)
  | _, _, .scr a => .scr (a.mono0 st)
  | _, _, .dct a n l b => .dct (st.stay _ _ a n).1 (st.stay _ _ a n).2 l (RWs.mono0 st b)
theorem RWs.mono0 (st : Step0 z z') : ∀ {w : List W} {v : List V}, RWs g z w v → RWs g z' w v
  | _, _, .nil => .nil
  | _, _, .cons a b => .cons (RW.mono0 st a) (RWs.mono0 st b)
end
theorem RFs.mono0 {κ : Type} (st : Step0 z z') {a : List (κ × W)} {b : List (κ × V)} (h : RFs g z a b) : RFs g z' a b := Paired.mapP h fun _ _ x => ⟨x.1, x.2.mono0 st⟩
theorem RO.mono0 {a : Addr} {o : Ob} {u : HO} (st : Step0 z z') (h : RO g z a o u) : RO g z' a o u := by
  cases h with
  | lst h => exact .lst (h.mono0 st)
  | dct h => exact .dct (h.mono0 st)
  | ins a h => exact .ins a (h.mono0 st)
  | exn a e n h => exact .exn a (st.stay _ _ e n).1 (st.stay _ _ e n).2 (h.mono0 st)
theorem HasT.mono {a : Addr} {vs : List V} (st : Step z z') (h : HasT g z a vs) : HasT g z' a vs := h.mono0 st.toStep0
theorem HasL.mono {a : Addr} {vs : List V} (st : Step z z') (h : HasL g z a vs) : HasL g z' a vs := h.mono0 st.toStep0
theorem RW.mono (st : Step z z') {w : W} {v : V} (h : RW g z w v) : RW g z' w v := h.mono0 st.toStep0
theorem RWs.mono (st : Step z z') {w : List W} {v : List V} (h : RWs g z w v) : RWs g z' w v := h.mono0 st.toStep0
theorem RFs.mono {κ : Type} (st : Step z z') {a : List (κ × W)} {b : List (κ × V)} (h : RFs g z a b) : RFs g z' a b := h.mono0 st.toStep0
theorem RO.mono {a : Addr} {o : Ob} {u : HO} (st : Step z z') (h : RO g z a o u) : RO g z' a o u := h.mono0 st.toStep0
theorem Tied.notLive {a : Addr} (t : Tied g z) (h : z.H a = none) : ¬ Live z a := fun l => by
  rcases l with ⟨n, o, e, ne, ea⟩ | l
  · obtain ⟨ho, q, _⟩ := t.at_ n o e ne
    rw [ea, h] at q
    cases q
  · exact t.own a l h
end

/-! ### the world's changes -/
abbrev Wd.new (z : Wd) (p : Addr) (o : HO) : Wd := { z with H := upd z.H p o }
abbrev Wd.newH (z : Wd) (p : Addr) (o : HO) (ob : Ob) : Wd := { z with m := fun n => if n = z.S.length then p else z.m n, S := z.S ++ [ob], H := upd z.H p o }
abbrev Wd.put (z : Wd) (n : Nat) (o : HO) (ob : Ob) : Wd := { z with S := z.S.set n ob, H := upd z.H (z.m n) o }
abbrev Wd.kill (z : Wd) (n : Nat) : Wd := { z with S := z.S.set n .gone }
section
variable {g : Kg} {z : Wd} {p : Addr} {o : HO}
theorem Step.new (t : Tied g z) (h : z.H p = none) : Step z (z.new p o) :=
  ⟨⟨Nat.le_refl _, fun _ _ => rfl, fun a u e n => ⟨by show upd z.H p o a = some u; rw [upd_ne (ne_of_none e h)]; exact e, n⟩⟩, rfl, fun a l => upd_ne fun q => t.own a l (q ▸ h)⟩
theorem own_new {a : Addr} (t : Tied g z) (l : z.own a) : upd z.H p o a ≠ none := by
  by_cases q : a = p
  · subst q
    rw [upd_same]
    exact fun q => by cases q
  · rw [upd_ne q]
    exact t.own a l
theorem Tied.new (t : Tied g z) (h : z.H p = none) : Tied g (z.new p o) :=
  ⟨fun n u e ne => by
    obtain ⟨ho, q, r⟩ := t.at_ n u e ne
    refine ⟨ho, ?_, r.mono (Step.new t h)⟩
    show upd z.H p o (z.m n) = some ho
    rw [upd_ne (ne_of_none q h)]
    exact q, t.inj, fun a l => own_new t l, t.off⟩
theorem newT {vs : List V} {ws : List W} (t : Tied g z) (h : z.H p = none) (r : RWs g z ws vs) : RW g (z.new p (.tup vs)) (.tup ws) (.ref p) :=
  .tup (.inl ⟨t.notLive h, .inl upd_same⟩) (r.mono (Step.new t h))
theorem newL {vs : List V} {ws : List W} (t : Tied g z) (h : z.H p = none) (r : RWs g z ws vs) : RW g (z.new p (.lst vs)) (.lst ws) (.ref p) :=
  .lst upd_same (t.notLive h) (r.mono (Step.new t h))
variable {ob : Ob}
theorem live_newH {a : Addr} (h : Live (z.newH p o ob) a) : Live z a ∨ a = p := by
  rcases h with ⟨n, u, e, ne, ea⟩ | h
  · rcases Nat.lt_or_ge n z.S.length with l | l
    · refine .inl (.inl ⟨n, u, ?_, ne, ?_⟩)
      · rw [← e]
        exact (List.getElem?_append_left l).symm
      · rw [← ea]
        exact (if_neg (Nat.ne_of_lt l)).symm
    · have e' : (z.S ++ [ob])[n]? = some u := e
      rw [List.getElem?_append_right l] at e'
      have hn : n = z.S.length := by
        cases hk : n - z.S.length with
        | zero => omega
        | succ k => rw [hk] at e'; simp at e'
      refine .inr ?_
      rw [← ea]
      exact if_pos hn
  · exact .inl (.inr h)
theorem Step.newH (t : Tied g z) (h : z.H p = none) : Step z (z.newH p o ob) :=
  ⟨⟨by simp, fun n l => if_neg (Nat.ne_of_lt l), fun a u e n => ⟨by show upd z.H p o a = some u; rw [upd_ne (ne_of_none e h)]; exact e, fun l => by
    rcases live_newH l with l | l
    · exact n l
    · subst l
      rw [h] at e
      cases e⟩⟩, rfl, fun a l => upd_ne fun q => t.own a l (q ▸ h)⟩
theorem Tied.newH (t : Tied g z) (h : z.H p = none) (r : RO g (z.newH p o ob) p ob o) : Tied g (z.newH p o ob) := by
  have st : Step z (z.newH p o ob) := Step.newH t h
  have old : ∀ (n : Nat) (u : Ob), (z.S ++ [ob])[n]? = some u → (n < z.S.length ∧ z.S[n]? = some u) ∨ (n = z.S.length ∧ u = ob) := fun n u e => by
    rcases Nat.lt_or_ge n z.S.length with l | l
    · exact .inl ⟨l, by rw [List.getElem?_append_left l] at e; exact e⟩
    · rw [List.getElem?_append_right l] at e
      cases hk : n - z.S.length with
      | zero => rw [hk] at e; exact .inr ⟨by omega, (Option.some.inj e).symm⟩
      | succ k => rw [hk] at e; simp at e
  have mp : ∀ u : Ob, (z.newH p o u).m z.S.length = p := fun u => if_pos rfl
  refine ⟨fun n u e ne => ?_, fun n n' u u' e ne e' ne' q => ?_, fun a l => own_new t l, fun n u e ne => ?_⟩
  · rcases old n u e with ⟨l, e1⟩ | ⟨rfl, rfl⟩
    · obtain ⟨ho, q, r1⟩ := t.at_ n u e1 ne
      rw [st.agree n l]
      refine ⟨ho, ?_, r1.mono st⟩
      show upd z.H p o (z.m n) = some ho
      rw [upd_ne (ne_of_none q h)]
      exact q
    · rw [mp]
      exact ⟨o, upd_same, r⟩
  · rcases old n u e with ⟨l, e1⟩ | ⟨rfl, rfl⟩ <;> rcases old n' u' e' with ⟨l', e1'⟩ | ⟨rfl, rfl⟩
    · rw [st.agree n l, st.agree n' l'] at q
      exact t.inj n n' u u' e1 ne e1' ne' q
    · rw [st.agree n l] at q
      obtain ⟨ho, q1, _⟩ := t.at_ n u e1 ne
      rw [q, mp, h] at q1
      cases q1
    · rw [st.agree n' l'] at q
      obtain ⟨ho, q1, _⟩ := t.at_ n' u' e1' ne'
      rw [← q, mp, h] at q1
      cases q1
    · rfl
  · rcases old n u e with ⟨l, e1⟩ | ⟨rfl, rfl⟩
    · rw [st.agree n l]
      exact t.off n u e1 ne
    · rw [mp]
      exact fun l => t.own p l h
theorem newH_at : RW g (z.newH p o ob) (.h z.S.length) (.ref p) := by
  have h : (z.newH p o ob).m z.S.length = p := if_pos rfl
  have := RW.h (g := g) (z := z.newH p o ob) (n := z.S.length) (by simp)
  rw [h] at this
  exact this
theorem live_put {n : Nat} {a : Addr} {u : Ob} (hu : z.S[n]? = some u) (nu : u ≠ .gone) (h : Live (z.put n o ob) a) : Live z a := by
  rcases h with ⟨k, v, e, ne, ea⟩ | h
  · by_cases hk : k = n
    · subst hk
      exact .inl ⟨k, u, hu, nu, ea⟩
    · refine .inl ⟨k, v, ?_, ne, ea⟩
      have e' : (z.S.set n ob)[k]? = some v := e
      rw [List.getElem?_set_ne (Ne.symm hk)] at e'
      exact e'
  · exact .inr h
theorem Step.put {n : Nat} {u : Ob} (t : Tied g z) (hu : z.S[n]? = some u) (nu : u ≠ .gone) : Step z (z.put n o ob) :=
  ⟨⟨by simp, fun _ _ => rfl, fun a v e nl => ⟨by
    have : a ≠ z.m n := fun q => nl (.inl ⟨n, u, hu, nu, q.symm⟩)
    show upd z.H (z.m n) o a = some v
    rw [upd_ne this]
    exact e, fun l => nl (live_put hu nu l)⟩⟩, rfl, fun a l => upd_ne fun q => t.off n u hu nu (q ▸ l)⟩
theorem Tied.put {n : Nat} {u : Ob} (t : Tied g z) (hu : z.S[n]? = some u) (nu : u ≠ .gone) (r : RO g (z.put n o ob) (z.m n) ob o) : Tied g (z.put n o ob) := by
  have st : Step z (z.put n o ob) := Step.put t hu nu
  have hn : n < z.S.length := (List.getElem?_eq_some_iff.mp hu).1
  have old : ∀ (k : Nat) (v : Ob), (z.S.set n ob)[k]? = some v → (k = n ∧ v = ob) ∨ (k ≠ n ∧ z.S[k]? = some v) := fun k v e => by
    by_cases hk : k = n
    · subst hk
      rw [List.getElem?_set_self hn] at e
      exact .inl ⟨rfl, (Option.some.inj e).symm⟩
    · rw [List.getElem?_set_ne (Ne.symm hk)] at e
      exact .inr ⟨hk, e⟩
  have liv : ∀ (k : Nat) (v : Ob), (z.S.set n ob)[k]? = some v → v ≠ .gone → ∃ v', z.S[k]? = some v' ∧ v' ≠ .gone := fun k v e ne => by
    rcases old k v e with ⟨rfl, _⟩ | ⟨_, e1⟩
    · exact ⟨u, hu, nu⟩
    · exact ⟨v, e1, ne⟩
  refine ⟨fun k v e ne => ?_, fun k k' v v' e ne e' ne' q => ?_, fun a l => own_new t l, fun k v e ne => ?_⟩
  · rcases old k v e with ⟨rfl, rfl⟩ | ⟨hk, e1⟩
    · exact ⟨o, upd_same, r⟩
    · obtain ⟨ho, q, r1⟩ := t.at_ k v e1 ne
      refine ⟨ho, ?_, r1.mono st⟩
      have : z.m k ≠ z.m n := fun q => hk (t.inj k n v u e1 ne hu nu q)
      show upd z.H (z.m n) o (z.m k) = some ho
      rw [upd_ne this]
      exact q
  · obtain ⟨x, e1, n1⟩ := liv k v e ne
    obtain ⟨x', e1', n1'⟩ := liv k' v' e' ne'
    exact t.inj k k' x x' e1 n1 e1' n1' q
  · obtain ⟨x, e1, n1⟩ := liv k v e ne
    exact t.off k x e1 n1
theorem live_kill {n : Nat} {a : Addr} (h : Live (z.kill n) a) : Live z a ∧ ∀ u, z.S[n]? = some u → u ≠ .gone → Tied g z → z.m n ≠ a := by
  rcases h with ⟨k, v, e, ne, ea⟩ | h
  · have e' : (z.S.set n .gone)[k]? = some v := e
    by_cases hk : k = n
    · subst hk
      by_cases hl : k < z.S.length
      · rw [List.getElem?_set_self hl] at e'
        cases e'
        exact absurd rfl ne
      · rw [List.getElem?_eq_none (by simpa using hl)] at e'
        cases e'
    · rw [List.getElem?_set_ne (Ne.symm hk)] at e'
      refine ⟨.inl ⟨k, v, e', ne, ea⟩, fun u hu nu t q => ?_⟩
      have : z.m k = z.m n := ea.trans q.symm
      exact hk (t.inj k n v u e' ne hu nu this)
  · exact ⟨.inr h, fun u hu nu t q => t.off n u hu nu (q ▸ h)⟩
theorem Step.kill {n : Nat} (t : Tied g z) : Step z (z.kill n) := ⟨⟨by simp, fun _ _ => rfl, fun a v e nl => ⟨e, fun l => nl (live_kill (g := g) l).1⟩⟩, rfl, fun _ _ => rfl⟩
theorem Tied.kill {n : Nat} (t : Tied g z) : Tied g (z.kill n) := by
  have st : Step z (z.kill n) := Step.kill t
  have old : ∀ (k : Nat) (v : Ob), (z.S.set n .gone)[k]? = some v → v ≠ .gone → z.S[k]? = some v := fun k v e ne => by
    by_cases hk : k = n
    · subst hk
      by_cases hl : k < z.S.length
      · rw [List.getElem?_set_self hl] at e
        cases e
        exact absurd rfl ne
      · rw [List.getElem?_eq_none (by simpa using hl)] at e
        cases e
    · rw [List.getElem?_set_ne (Ne.symm hk)] at e
      exact e
  refine ⟨fun k v e ne => ?_, fun k k' v v' e ne e' ne' q => t.inj k k' v v' (old k v e ne) ne (old k' v' e' ne') ne' q, t.own, fun k v e ne => t.off k v (old k v e ne) ne⟩
  obtain ⟨ho, q, r⟩ := t.at_ k v (old k v e ne) ne
  exact ⟨ho, q, r.mono st⟩
/-- an object in hand: it is taken, changed, handed on as data -/
abbrev Wd.take (z : Wd) (p : Addr) (o : HO) : Wd := { z with H := upd z.H p o, own := fun a => a = p ∨ z.own a }
abbrev Wd.turn (z : Wd) (p : Addr) (o : HO) : Wd := { z with H := upd z.H p o }
abbrev Wd.back (z : Wd) (own : Addr → Prop) : Wd := { z with own := own }
theorem Step0.take (t : Tied g z) (h : z.H p = none) : Step0 z (z.take p o) :=
  ⟨Nat.le_refl _, fun _ _ => rfl, fun a u e n => ⟨by show upd z.H p o a = some u; rw [upd_ne (ne_of_none e h)]; exact e, fun l => by
    rcases l with l | l | l
    · exact n (.inl l)
    · subst l
      rw [h] at e
      cases e
    · exact n (.inr l)⟩⟩
theorem Tied.take (t : Tied g z) (h : z.H p = none) : Tied g (z.take p o) :=
  ⟨fun n u e ne => by
    obtain ⟨ho, q, r⟩ := t.at_ n u e ne
    refine ⟨ho, ?_, r.mono0 (Step0.take t h)⟩
    show upd z.H p o (z.m n) = some ho
    rw [upd_ne (ne_of_none q h)]
    exact q, t.inj, fun a l => by
      show upd z.H p o a ≠ none
      rcases l with rfl | l
      · rw [upd_same]
        exact fun q => by cases q
      · exact own_new t l, fun n u e ne l => by
      rcases l with l | l
      · obtain ⟨ho, q, r⟩ := t.at_ n u e ne
        rw [l, h] at q
        cases q
      · exact t.off n u e ne l⟩
theorem Step0.turn (hp : z.own p) : Step0 z (z.turn p o) :=
  ⟨Nat.le_refl _, fun _ _ => rfl, fun a u e n => ⟨by
    have : a ≠ p := fun q => n (.inr (q ▸ hp))
    show upd z.H p o a = some u
    rw [upd_ne this]
    exact e, n⟩⟩
theorem Tied.turn (t : Tied g z) (hp : z.own p) : Tied g (z.turn p o) :=
  ⟨fun n u e ne => by
    obtain ⟨ho, q, r⟩ := t.at_ n u e ne
    refine ⟨ho, ?_, r.mono0 (Step0.turn hp)⟩
    have : z.m n ≠ p := fun q => t.off n u e ne (q ▸ hp)
    show upd z.H p o (z.m n) = some ho
    rw [upd_ne this]
    exact q, t.inj, fun a l => own_new t l, t.off⟩
/-- less is held in hand -/
theorem Step0.back {own : Addr → Prop} (h : ∀ a, own a → z.own a) : Step0 z (z.back own) :=
  ⟨Nat.le_refl _, fun _ _ => rfl, fun a u e n => ⟨e, fun l => l.elim (fun l => n (.inl l)) fun l => n (.inr (h a l))⟩⟩
theorem Tied.back {own : Addr → Prop} (t : Tied g z) (h : ∀ a, own a → z.own a) : Tied g (z.back own) :=
  ⟨fun n u e ne => by
    obtain ⟨ho, q, r⟩ := t.at_ n u e ne
    exact ⟨ho, q, r.mono0 (Step0.back h)⟩, t.inj, fun a l => t.own a (h a l), fun n u e ne l => t.off n u e ne (h _ l)⟩
end

/-! ### outcomes -/
structure ExR (g : Kg) (z : Wd) (c : Str) (fs : List (Str × W)) (cls : Value) (d : Option Addr) : Prop where
  ex : ∃ (C dd : Addr) (fs' : List (Str × V)), g.mg c = some (.ref C) ∧ cls = .ref C ∧ d = some dd ∧ z.H dd = some (.xd fs') ∧ ¬ Live z dd ∧ RFs g z fs fs'
def Out {α β : Type} (g : Kg) (Wx : WX) (rel : Wd → α → β → Prop) (z : Wd) (σ : St) (r : R α) (Q : β → Hp → Prop) : Prop := match r with
  | .ok a S' => ∀ z' b, z'.S = S' → Step z z' → Tied g z' → rel z' a b → Q b z'.H
  | .ex c fs S' => ∀ z' cls d, z'.S = S' → Step z z' → Tied g z' → ExR g z' c fs cls d → Wx cls d σ z'.H
  | .bad => False
structure REnv (g : Kg) (z : Wd) (env : Env) (σ : St) : Prop where
  len : env.length = σ.length
  at_ : ∀ (i : Nat) (w : W), env[i]? = some (some w) → ∃ v, σ[i]? = some (some v) ∧ RW g z w v
theorem REnv.mono0 {g : Kg} {z z' : Wd} {env : Env} {σ : St} (st : Step0 z z') (h : REnv g z env σ) : REnv g z' env σ :=
  ⟨h.len, fun i w e => by
    obtain ⟨v, e1, r⟩ := h.at_ i w e
    exact ⟨v, e1, r.mono0 st⟩⟩
theorem REnv.mono {g : Kg} {z z' : Wd} {env : Env} {σ : St} (st : Step z z') (h : REnv g z env σ) : REnv g z' env σ := h.mono0 st.toStep0
theorem REnv.set {g : Kg} {z : Wd} {env : Env} {σ : St} {w : W} {v : V} (i : Nat) (h : REnv g z env σ) (r : RW g z w v) : REnv g z (env.set i (some w)) (σ.set i (some v)) := by
  refine ⟨by simp [h.len], fun j u e => ?_⟩
  by_cases hj : i = j
  · subst hj
    by_cases hl : i < env.length
    · rw [List.getElem?_set_self hl] at e
      cases e
      exact ⟨v, List.getElem?_set_self (h.len ▸ hl), r⟩
    · rw [List.getElem?_eq_none (by simpa using hl)] at e
      cases e
  · rw [List.getElem?_set_ne hj] at e ⊢
    exact h.at_ j u e
/-- less is known -/
theorem REnv.weak {g : Kg} {z : Wd} {env env' : Env} {σ : St} (h : REnv g z env σ) (hl : env'.length = env.length) (k : ∀ (i : Nat) (w : W), env'[i]? = some (some w) → env[i]? = some (some w)) : REnv g z env' σ :=
  ⟨hl.trans h.len, fun i w e => h.at_ i w (k i w e)⟩
def OutS (g : Kg) (Wx : WX) (z : Wd) (r : RS) (D : Ends) : Prop := match r with
  | .next e S' => ∀ z' σ', z'.S = S' → Step z z' → Tied g z' → REnv g z' e σ' → D.nx σ' z'.H
  | .brk e S' => ∀ z' σ', z'.S = S' → Step z z' → Tied g z' → REnv g z' e σ' → D.bk σ' z'.H
  | .cont e S' => ∀ z' σ', z'.S = S' → Step z z' → Tied g z' → REnv g z' e σ' → D.ct σ' z'.H
  | .ret w S' => ∀ z' v, z'.S = S' → Step z z' → Tied g z' → RW g z' w v → D.rt v z'.H
  | .ex c fs e S' => ∀ z' σ' cls d, z'.S = S' → Step z z' → Tied g z' → REnv g z' e σ' → ExR g z' c fs cls d → Wx cls d σ' z'.H
  | .bad => False
abbrev rB : Wd → Bool → Bool → Prop := fun _ a b => a = b
abbrev Ev := Env → Sto → R W
abbrev Tv := Env → Sto → R Bool
abbrev Av := Env → Sto → R (List W)
abbrev Sv := Env → Sto → RS
def tM {α β : Type} (g : Kg) (Wx : WX) (rel : Wd → α → β → Prop) (f : Env → Sto → R α) (σ : St) (H : Hp) (Q : β → Hp → Prop) : Prop :=
  ∃ z env, z.H = H ∧ Tied g z ∧ REnv g z env σ ∧ Out g Wx rel z σ (f env z.S) Q
def tMS (g : Kg) (Wx : WX) (f : Sv) : TS := fun D σ H => ∃ z env, z.H = H ∧ Tied g z ∧ REnv g z env σ ∧ OutS g Wx z (f env z.S) D
section
variable {α β γ δ : Type} {g : Kg} {Wx : WX} {rel : Wd → α → β → Prop} {rel' : Wd → γ → δ → Prop} {z z' : Wd} {σ : St}
/-- the outcome of the first part, seen by what comes behind it -/
theorem Out.bind {r : R α} {k : α → Sto → R γ} {Q : δ → Hp → Prop} {Q2 : β → Hp → Prop} (o : Out g Wx rel' z σ (r.bind k) Q)
    (h : ∀ z' b a, r = .ok a z'.S → Step z z' → Tied g z' → rel z' a b → Out g Wx rel' z' σ (k a z'.S) Q → Q2 b z'.H) : Out g Wx rel z σ r Q2 := by
  cases r with
  | ok a S =>
    intro z' b e st t rl
    subst e
    refine h z' b a rfl st t rl ?_
    have o' : Out g Wx rel' z σ (k a z'.S) Q := o
    cases hk : k a z'.S with
    | ok c S2 =>
      rw [hk] at o'
      exact fun z2 d e2 st2 t2 r2 => o' z2 d e2 (st.trans st2) t2 r2
    | ex c fs S2 =>
      rw [hk] at o'
      exact fun z2 cls d e2 st2 t2 x2 => o' z2 cls d e2 (st.trans st2) t2 x2
    | bad =>
      rw [hk] at o'
      exact o'
  | ex c fs S => exact o
  | bad => exact o
theorem Out.mono {r : R α} {Q Q2 : β → Hp → Prop} (o : Out g Wx rel z σ r Q) (h : ∀ b H, Q b H → Q2 b H) : Out g Wx rel z σ r Q2 := by
  cases r with
  | ok a S => exact fun z' b e st t rl => h _ _ (o z' b e st t rl)
  | ex c fs S => exact o
  | bad => exact o
/-- the outcome is here -/
theorem Out.now {a : α} {b : β} {Q : β → Hp → Prop} (o : Out g Wx rel z σ (.ok a z.S) Q) (t : Tied g z) (r : rel z a b) : Q b z.H := o z b rfl (Step.refl z) t r
theorem OutS.step {r : RS} {D : Ends} (st : Step z z') (o : OutS g Wx z r D) : OutS g Wx z' r D := by
  cases r with
  | next e S => exact fun z2 s2 e2 st2 => o z2 s2 e2 (st.trans st2)
  | brk e S => exact fun z2 s2 e2 st2 => o z2 s2 e2 (st.trans st2)
  | cont e S => exact fun z2 s2 e2 st2 => o z2 s2 e2 (st.trans st2)
  | ret w S => exact fun z2 s2 e2 st2 => o z2 s2 e2 (st.trans st2)
  | ex c fs e S => exact fun z2 s2 cls d e2 st2 => o z2 s2 cls d e2 (st.trans st2)
  | bad => exact o
/-- an expression's part of a statement -/
def R.bindS (e : Env) (r : R α) (k : α → Sto → RS) : RS := match r with
  | .ok a S => k a S
  | .ex c fs S => .ex c fs e S
  | .bad => .bad
theorem OutS.bind {r : R α} {k : α → Sto → RS} {D : Ends} {env : Env} {Q2 : β → Hp → Prop} (re : REnv g z env σ) (o : OutS g Wx z (r.bindS env k) D)
    (h : ∀ z' b a, r = .ok a z'.S → Step z z' → Tied g z' → rel z' a b → OutS g Wx z' (k a z'.S) D → Q2 b z'.H) : Out g Wx rel z σ r Q2 := by
  cases r with
  | ok a S =>
    intro z' b e st t rl
    subst e
    exact h z' b a rfl st t rl (OutS.step st o)
  | ex c fs S => exact fun z' cls d e st t x => o z' σ cls d e st t (re.mono st) x
  | bad => exact o
end
@[simp] theorem R.bindS_ok {α : Type} {a : α} {S : Sto} {e : Env} {k : α → Sto → RS} : (R.ok a S).bindS e k = k a S := rfl
@[simp] theorem R.bindS_ex {α : Type} {c : Str} {fs : List (Str × W)} {S : Sto} {e : Env} {k : α → Sto → RS} : (R.ex c fs S : R α).bindS e k = .ex c fs e S := rfl
@[simp] theorem R.bindS_bad {α : Type} {e : Env} {k : α → Sto → RS} : (R.bad : R α).bindS e k = .bad := rfl

/-! ### judgements -/
def ME (X : Cx) (Wx : WX) (e : Expr) (f : Ev) : Prop := PE X e (tM (gX X) Wx (RW (gX X)) f)
def MT (X : Cx) (Wx : WX) (e : Expr) (f : Tv) : Prop := PT X e (tM (gX X) Wx rB f)
def MA (X : Cx) (Wx : WX) (es : List Expr) (f : Av) : Prop := PA X es (tM (gX X) Wx (RWs (gX X)) f)
def MS (X : Cx) (Wx : WX) (st : Stmt) (f : Sv) : Prop := PS X st (tMS (gX X) Wx f)
def MSs (X : Cx) (Wx : WX) (st : List Stmt) (f : Sv) : Prop := PSs X st (tMS (gX X) Wx f)
theorem pe_mono {X : Cx} {e : Expr} {t t' : TE} (p : PE X e t) (h : ∀ σ H Q, t' σ H Q → t σ H Q) : PE X e t' := ⟨fun pins s σ H Q I q => p.run pins s σ H Q I (h σ H Q q)⟩
theorem pt_mono {X : Cx} {e : Expr} {t t' : TT} (p : PT X e t) (h : ∀ σ H Q, t' σ H Q → t σ H Q) : PT X e t' := ⟨fun pins s σ H Q I q => p.run pins s σ H Q I (h σ H Q q)⟩
theorem pa_mono {X : Cx} {e : List Expr} {t t' : TA} (p : PA X e t) (h : ∀ σ H Q, t' σ H Q → t σ H Q) : PA X e t' := ⟨fun pos pins s σ H Q I q => p.run pos pins s σ H Q I (h σ H Q q)⟩
theorem ps_mono {X : Cx} {e : Stmt} {t t' : TS} (p : PS X e t) (h : ∀ D σ H, t' D σ H → t D σ H) : PS X e t' := ⟨fun pins s σ H D I q => p.run pins s σ H D I (h D σ H q)⟩
theorem pss_mono {X : Cx} {e : List Stmt} {t t' : TS} (p : PSs X e t) (h : ∀ D σ H, t' D σ H → t D σ H) : PSs X e t' := ⟨fun pins s σ H D I q => p.run pins s σ H D I (h D σ H q)⟩
end Mi

set_option Elab.async false
set_option linter.all false
set_option maxRecDepth 100000
set_option maxHeartbeats 4000000
namespace Mi
open PySem L2
section
variable {g : Kg} {z : Wd}
theorem RWs.length : ∀ {ws : List W} {vs : List V}, RWs g z ws vs → ws.length = vs.length
  | _, _, .nil => rfl
  | _, _, .cons _ t => congrArg (· + 1) t.length
theorem RWs.append : ∀ {ws ws' : List W} {vs vs' : List V}, RWs g z ws vs → RWs g z ws' vs' → RWs g z (ws ++ ws') (vs ++ vs')
  | _, _, _, _, .nil, s => s
  | _, _, _, _, .cons h t, s => .cons h (t.append s)
theorem RWs.get : ∀ {ws : List W} {vs : List V} {i : Nat} {w : W}, RWs g z ws vs → ws[i]? = some w → ∃ v, vs[i]? = some v ∧ RW g z w v
  | _, _, _, _, .nil, e => by simp at e
  | _, _, 0, _, .cons r _, e => by simp at e; subst e; exact ⟨_, rfl, r⟩
  | _, _, i + 1, w, .cons _ t, e => by
    obtain ⟨u, h1, h2⟩ := RWs.get (i := i) (w := w) t (by simpa using e)
    exact ⟨u, by simpa using h1, h2⟩
theorem RWs.set : ∀ {ws : List W} {vs : List V} {w : W} {v : V} (i : Nat), RWs g z ws vs → RW g z w v → RWs g z (ws.set i w) (vs.set i v)
  | _, _, _, _, _, .nil, _ => .nil
  | _, _, _, _, 0, .cons _ t, r => .cons r t
  | _, _, _, _, i + 1, .cons q t, r => .cons q (RWs.set i t r)
theorem RWs.take : ∀ {ws : List W} {vs : List V} (n : Nat), RWs g z ws vs → RWs g z (ws.take n) (vs.take n)
  | _, _, 0, _ => .nil
  | _, _, _ + 1, .nil => .nil
  | _, _, n + 1, .cons r t => .cons r (RWs.take n t)
theorem RWs.drop : ∀ {ws : List W} {vs : List V} (n : Nat), RWs g z ws vs → RWs g z (ws.drop n) (vs.drop n)
  | _, _, 0, r => r
  | _, _, _ + 1, .nil => .nil
  | _, _, n + 1, .cons _ t => RWs.drop n t
theorem RWs.reverse : ∀ {ws : List W} {vs : List V}, RWs g z ws vs → RWs g z ws.reverse vs.reverse
  | _, _, .nil => .nil
  | _, _, .cons r t => by
    rw [List.reverse_cons, List.reverse_cons]
    exact t.reverse.append (.cons r .nil)
theorem RWs.rep {ws : List W} {vs : List V} (r : RWs g z ws vs) : ∀ k : Nat, RWs g z (List.replicate k ws).flatten (List.replicate k vs).flatten
  | 0 => .nil
  | k + 1 => by
    rw [List.replicate_succ, List.replicate_succ, List.flatten_cons, List.flatten_cons]
    exact r.append (r.rep k)
theorem RWs.dropLast {ws : List W} {vs : List V} (r : RWs g z ws vs) : RWs g z ws.dropLast vs.dropLast := by
  rw [List.dropLast_eq_take, List.dropLast_eq_take, r.length]
  exact r.take _
theorem RWs.strs : ∀ {xs : List Str} {vs : List V}, RWs g z (xs.map W.str) vs → vs = xs.map V.str
  | [], _, .nil => rfl
  | x :: xs, _, .cons r t => by
    cases r
    rw [t.strs]
    rfl
theorem RWs.ints : ∀ {xs : List Int} {vs : List V}, RWs g z (xs.map W.int) vs → vs = xs.map V.int
  | [], _, .nil => rfl
  | x :: xs, _, .cons r t => by
    cases r
    rw [t.ints]
    rfl
theorem RWs.bls : ∀ {xs : List Bool} {vs : List V}, RWs g z (xs.map W.bl) vs → vs = xs.map V.bl
  | [], _, .nil => rfl
  | x :: xs, _, .cons r t => by
    cases r
    rw [t.bls]
    rfl
theorem rws_strs : ∀ xs : List Str, RWs g z (xs.map W.str) (xs.map V.str)
  | [] => .nil
  | x :: xs => .cons (.str x) (rws_strs xs)
theorem rws_ints : ∀ xs : List Int, RWs g z (xs.map W.int) (xs.map V.int)
  | [] => .nil
  | x :: xs => .cons (.int x) (rws_ints xs)
end

/-! ### lists and dicts, as data or by their number -/
def lstAt (S : Sto) (n : Nat) : Option (List W) := match S[n]? with
  | some (.lst ws) => some ws
  | _ => none
def dctAt (S : Sto) (n : Nat) : Option (List (Key × W)) := match S[n]? with
  | some (.dct ws) => some ws
  | _ => none
theorem lstAt_eq {S : Sto} {n : Nat} {ws : List W} : lstAt S n = some ws ↔ S[n]? = some (.lst ws) := by
  unfold lstAt
  constructor
  · intro h
    split at h
    · rename_i e
      cases h
      exact e
    · cases h
  · intro h
    rw [h]
theorem dctAt_eq {S : Sto} {n : Nat} {ws : List (Key × W)} : dctAt S n = some ws ↔ S[n]? = some (.dct ws) := by
  unfold dctAt
  constructor
  · intro h
    split at h
    · rename_i e
      cases h
      exact e
    · cases h
  · intro h
    rw [h]
def seqL (S : Sto) : W → Option (List W)
  | .lst ws => some ws
  | .h n => lstAt S n
  | _ => none
def dctOf (S : Sto) : W → Option (List (Key × W))
  | .dct ks ws => some (ks.zip ws)
  | .h n => dctAt S n
  | _ => none
section
variable {g : Kg} {z : Wd}
theorem Tied.lstAt {n : Nat} {ws : List W} (t : Tied g z) (h : z.S[n]? = some (.lst ws)) : ∃ vs, z.H (z.m n) = some (.lst vs) ∧ RWs g z ws vs := by
  obtain ⟨ho, e, r⟩ := t.at_ n _ h (by intro q; cases q)
  cases r with
  | lst r => exact ⟨_, e, r⟩
theorem Tied.dctAt {n : Nat} {kvs : List (Key × W)} (t : Tied g z) (h : z.S[n]? = some (.dct kvs)) : ∃ kvs', z.H (z.m n) = some (.dK kvs') ∧ RFs g z kvs kvs' := by
  obtain ⟨ho, e, r⟩ := t.at_ n _ h (by intro q; cases q)
  cases r with
  | dct r => exact ⟨_, e, r⟩
theorem Tied.insAt {n : Nat} {c : Str} {fs : List (Str × W)} (t : Tied g z) (h : z.S[n]? = some (.ins c fs)) : ∃ C dx fs', g.mg c = some (.ref C) ∧ z.H (z.m n) = some (.ins C dx fs') ∧ RFs g z fs fs' := by
  obtain ⟨ho, e, r⟩ := t.at_ n _ h (by intro q; cases q)
  cases r with
  | ins a r => exact ⟨_, _, _, a, e, r⟩
theorem seqL_at {w : W} {v : V} {ws : List W} (t : Tied g z) (h : seqL z.S w = some ws) (r : RW g z w v) : ∃ a vs, v = .ref a ∧ z.H a = some (.lst vs) ∧ RWs g z ws vs := by
  cases r with
  | lst e _ r =>
    cases h
    exact ⟨_, _, rfl, e, r⟩
  | @h n l =>
    obtain ⟨vs, e1, r1⟩ := t.lstAt (lstAt_eq.mp h)
    exact ⟨_, vs, rfl, e1, r1⟩
  | _ => cases h
theorem rfs_zip {κ : Type} : ∀ {ks : List κ} {ws : List W} {vs : List V}, RWs g z ws vs → RFs g z (ks.zip ws) (ks.zip vs)
  | [], _, _, _ => .nil
  | _ :: _, _, _, .nil => .nil
  | k :: ks, _, _, .cons r t => .cons ⟨rfl, r⟩ (rfs_zip t)
theorem dctOf_at {w : W} {v : V} {kvs : List (Key × W)} (t : Tied g z) (h : dctOf z.S w = some kvs) (r : RW g z w v) : ∃ a kvs', v = .ref a ∧ z.H a = some (.dK kvs') ∧ RFs g z kvs kvs' := by
  cases r with
  | dct e _ l r =>
    cases h
    exact ⟨_, _, rfl, e, rfs_zip r⟩
  | @h n l =>
    obtain ⟨vs, e1, r1⟩ := t.dctAt (dctAt_eq.mp h)
    exact ⟨_, vs, rfl, e1, r1⟩
  | _ => cases h
end

/-! ### names and constants -/
def eV (i : Nat) : Ev := fun env S => match env[i]? with
  | some (some w) => .ok w S
  | _ => .bad
def eC (w : W) : Ev := fun _ S => .ok w S
section
variable {X : Cx} {Wx : WX}
theorem me_v (i : Nat) {x : Str} {pos : Pos} (hN : X.N[i]? = some x := by rfl) (hv : Vis X.env.scope x := by first | exact Or.inl rfl | exact Or.inr (Or.inl rfl) | exact Or.inr (Or.inr rfl)) (hd : (x == ("__debug__" : Str)) = false := by decide)
    (hcd : (x == ("__classdict__" : Str)) = false := by decide) : ME X Wx (.Name x pos) (eV i) := by
  refine pe_mono (pe_var hN hv hd hcd) ?_
  rintro σ H Q ⟨z, env, rfl, t, re, o⟩
  unfold eV at o
  split at o
  · rename_i w e
    obtain ⟨v, e1, r⟩ := re.at_ i w e
    exact ⟨v, e1, o.now t r⟩
  · exact o.elim
theorem me_of {e : Expr} {w : W} {v : V} (p : PE X e (tC v)) (r : ∀ z, RW (gX X) z w v) : ME X Wx e (eC w) := by
  refine pe_mono p ?_
  rintro σ H Q ⟨z, env, rfl, t, re, o⟩
  exact Out.now o t (r z)
theorem me_int {i j pos} : ME X Wx (.Constant (.int i) j pos) (eC (.int i)) := me_of pe_int fun _ => .int i
theorem me_bl {i j pos} : ME X Wx (.Constant (.bool i) j pos) (eC (.bl i)) := me_of pe_bl fun _ => .bl i
theorem me_non {j pos} : ME X Wx (.Constant .none j pos) (eC .non) := me_of pe_non fun _ => .non
theorem me_str {i j pos} : ME X Wx (.Constant (.str i) j pos) (eC (.str i)) := me_of pe_str fun _ => .str i
theorem me_glob {x : Str} {v : V} {u : Value} {w : W} {pos : Pos} (hm : X.mg x = some u) (rv : RelV v u) (r : ∀ z, RW (gX X) z w v) (hg : Gl X x := by rfl) (hd : (x == ("__debug__" : Str)) = false := by decide) : ME X Wx (.Name x pos) (eC w) := me_of (pe_glob hg hm rv hd) r
end
end Mi

set_option Elab.async false
set_option linter.all false
set_option maxRecDepth 100000
set_option maxHeartbeats 4000000
namespace Mi
open PySem L2
/-! ### two-place operations by values -/
abbrev Op2 := W → W → Sto → R W
def e2 (f : Op2) (a b : Ev) : Ev := fun env S => (a env S).bind fun x S1 => (b env S1).bind fun y S2 => f x y S2
def OpS (X : Cx) (Wx : WX) (f : Value → Value → Sem Value) (op : Op2) : Prop :=
  ∃ r, OpR X f r ∧ ∀ (z : Wd) (σ : St) (w1 w2 : W) (x y : V) (Q : VK), Tied (gX X) z → RW (gX X) z w1 x → RW (gX X) z w2 y → Out (gX X) Wx (RW (gX X)) z σ (op w1 w2 z.S) Q → r x y z.H Q
section
variable {X : Cx} {Wx : WX} {a b c : Expr} {fa fb fc : Ev} {pos : Pos}
theorem op_red {r : R2} {op : Op2} (h : ∀ (z : Wd) (σ : St) (w1 w2 : W) (x y : V) (Q : VK), Tied (gX X) z → RW (gX X) z w1 x → RW (gX X) z w2 y → Out (gX X) Wx (RW (gX X)) z σ (op w1 w2 z.S) Q → r x y z.H Q)
    {σ : St} {H : Hp} {Q : VK} (q : tM (gX X) Wx (RW (gX X)) (e2 op fa fb) σ H Q) : tOp r (tM (gX X) Wx (RW (gX X)) fa) (tM (gX X) Wx (RW (gX X)) fb) σ H Q := by
  obtain ⟨z, env, rfl, t, re, o⟩ := q
  refine ⟨z, env, rfl, t, re, o.bind fun z1 x w1 e1 st1 t1 r1 o1 => ⟨z1, env, rfl, t1, re.mono st1, o1.bind fun z2 y w2 e2 st2 t2 r2 o2 => ?_⟩⟩
  exact h z2 σ w1 w2 x y Q t2 (r1.mono st2) r2 o2
theorem me_op {op : Operator} {f : Op2} (h : OpS X Wx (binaryOp op) f) (ha : ME X Wx a fa) (hb : ME X Wx b fb) : ME X Wx (.BinOp a op b pos) (e2 f fa fb) := by
  obtain ⟨r, h1, h2⟩ := h
  exact pe_mono (pe_op h1 ha hb) fun σ H Q q => op_red h2 q
theorem me_cmp {op : CmpOp} {f : Op2} (h : OpS X Wx (compareOp op) f) (ha : ME X Wx a fa) (hb : ME X Wx b fb) (hm : behindInMarks op b = false) : ME X Wx (.Compare a [op] [b] pos) (e2 f fa fb) := by
  obtain ⟨r, h1, h2⟩ := h
  exact pe_mono (pe_cmpR h1 ha hb hm) fun σ H Q q => op_red h2 q
def asB (w : W) (S : Sto) : R Bool := match w with
  | .bl k => .ok k S
  | _ => .bad
def tC2 (f : Op2) (a b : Ev) : Tv := fun env S => (e2 f a b env S).bind asB
theorem mt_cmp {op : CmpOp} {f : Op2} (h : OpS X Wx (compareOp op) f) (ha : ME X Wx a fa) (hb : ME X Wx b fb) (hm : behindInMarks op b = false) : MT X Wx (.Compare a [op] [b] pos) (tC2 f fa fb) := by
  obtain ⟨r, h1, h2⟩ := h
  refine pt_mono (pt_cmpR h1 ha hb hm) ?_
  rintro σ H Q ⟨z, env, rfl, t, re, o⟩
  refine op_red h2 (fa := fa) (fb := fb) ⟨z, env, rfl, t, re, o.bind fun z1 x w1 e1 st1 t1 r1 o1 => ?_⟩
  cases r1 <;> first | exact o1.elim | exact ⟨_, rfl, Out.now o1 t1 rfl⟩
/-- a op b op' c -/
def eCh (f f' : Op2) (a b c : Ev) : Ev := fun env S => (a env S).bind fun x S1 => (b env S1).bind fun y S2 => (f x y S2).bind fun k S3 => match k with
  | .bl true => (c env S3).bind fun u S4 => f' y u S4
  | .bl false => .ok (.bl false) S3
  | _ => .bad
theorem ch_red {r r' : R2} {op op' : Op2} (h : ∀ (z : Wd) (σ : St) (w1 w2 : W) (x y : V) (Q : VK), Tied (gX X) z → RW (gX X) z w1 x → RW (gX X) z w2 y → Out (gX X) Wx (RW (gX X)) z σ (op w1 w2 z.S) Q → r x y z.H Q)
    (h' : ∀ (z : Wd) (σ : St) (w1 w2 : W) (x y : V) (Q : VK), Tied (gX X) z → RW (gX X) z w1 x → RW (gX X) z w2 y → Out (gX X) Wx (RW (gX X)) z σ (op' w1 w2 z.S) Q → r' x y z.H Q)
    {σ : St} {H : Hp} {Q : VK} (q : tM (gX X) Wx (RW (gX X)) (eCh op op' fa fb fc) σ H Q) :
    tChain r r' (tM (gX X) Wx (RW (gX X)) fa) (tM (gX X) Wx (RW (gX X)) fb) (tM (gX X) Wx (RW (gX X)) fc) σ H Q := by
  obtain ⟨z, env, rfl, t, re, o⟩ := q
  refine ⟨z, env, rfl, t, re, o.bind fun z1 x w1 e1 st1 t1 r1 o1 => ⟨z1, env, rfl, t1, re.mono st1, o1.bind fun z2 y w2 e2 st2 t2 r2 o2 => ?_⟩⟩
  refine h z2 σ w1 w2 x y _ t2 (r1.mono st2) r2 (o2.bind fun z3 k w3 e3 st3 t3 r3 o3 => ?_)
  cases r3 with
  | bl k =>
    refine ⟨k, rfl, ?_⟩
    cases k with
    | true =>
      rw [if_pos rfl]
      refine ⟨z3, env, rfl, t3, re.mono ((st1.trans st2).trans st3), Out.bind o3 fun z4 u w4 e4 st4 t4 r4 o4 => ?_⟩
      exact h' z4 σ w2 w4 y u Q t4 (r2.mono (st3.trans st4)) r4 o4
    | false =>
      rw [if_neg Bool.false_ne_true]
      exact Out.now o3 t3 (.bl false)
  | _ => exact o3.elim
theorem me_chain {op op' : CmpOp} {f f' : Op2} (h : OpS X Wx (compareOp op) f) (h' : OpS X Wx (compareOp op') f') (ha : ME X Wx a fa) (hb : ME X Wx b fb) (hc : ME X Wx c fc)
    (hm : lastMarks [op, op'] [b, c] = false := by with_unfolding_all rfl) : ME X Wx (.Compare a [op, op'] [b, c] pos) (eCh f f' fa fb fc) := by
  obtain ⟨r, h1, h2⟩ := h
  obtain ⟨r', h3, h4⟩ := h'
  exact pe_mono (pe_chain h1 h3 ha hb hc hm) fun σ H Q q => ch_red h2 h4 q
def tCh (f f' : Op2) (a b c : Ev) : Tv := fun env S => (eCh f f' a b c env S).bind asB
theorem mt_chain {op op' : CmpOp} {f f' : Op2} (h : OpS X Wx (compareOp op) f) (h' : OpS X Wx (compareOp op') f') (ha : ME X Wx a fa) (hb : ME X Wx b fb) (hc : ME X Wx c fc)
    (hm : lastMarks [op, op'] [b, c] = false := by with_unfolding_all rfl) : MT X Wx (.Compare a [op, op'] [b, c] pos) (tCh f f' fa fb fc) := by
  obtain ⟨r, h1, h2⟩ := h
  obtain ⟨r', h3, h4⟩ := h'
  refine pt_mono (pt_chain h1 h3 ha hb hc hm) ?_
  rintro σ H Q ⟨z, env, rfl, t, re, o⟩
  refine ch_red h2 h4 (fa := fa) (fb := fb) (fc := fc) ⟨z, env, rfl, t, re, o.bind fun z1 x w1 e1 st1 t1 r1 o1 => ?_⟩
  cases r1 <;> first | exact o1.elim | exact ⟨_, rfl, Out.now o1 t1 rfl⟩
end

/-! ### + - * // % ** -/
def mulOk (i j : Int) : Bool := decide ((-(2 ^ 64) < i ∧ i < 2 ^ 64) ∨ (-(2 ^ 64) < j ∧ j < 2 ^ 64))
def addL (x y : W) (S : Sto) : R W := match seqL S x with
  | none => .bad
  | some a => match seqL S y with
    | none => .bad
    | some b => if a.length + b.length ≤ sizeLine then .ok (.lst (a ++ b)) S else .bad
def wAdd : Op2 := fun x y S => match x with
  | .int i => (match y with
    | .int j => .ok (.int (i + j)) S
    | _ => .bad)
  | .str a => (match y with
    | .str b => if a.length + b.length ≤ sizeLine then .ok (.str (a ++ b)) S else .bad
    | _ => .bad)
  | .tup a => (match y with
    | .tup b => if a.length + b.length ≤ sizeLine then .ok (.tup (a ++ b)) S else .bad
    | _ => .bad)
  | .lst a => addL (.lst a) y S
  | .h n => addL (.h n) y S
  | _ => .bad
def wSub : Op2 := fun x y S => match x, y with
  | .int i, .int j => .ok (.int (i - j)) S
  | _, _ => .bad
def mulL (x : W) (k : Int) (S : Sto) : R W := match seqL S x with
  | none => .bad
  | some a => if -(2 ^ 63) ≤ k ∧ k < 2 ^ 63 ∧ a.length * k.toNat ≤ sizeLine then .ok (.lst (List.replicate k.toNat a).flatten) S else .bad
def wMul : Op2 := fun x y S => match y with
  | .int k => (match x with
    | .int i => if mulOk i k then .ok (.int (i * k)) S else .bad
    | .lst a => mulL (.lst a) k S
    | .h n => mulL (.h n) k S
    | _ => .bad)
  | _ => .bad
def wFdiv : Op2 := fun x y S => match x, y with
  | .int i, .int j => if j ≠ 0 ∧ j.natAbs < 1073741824 then .ok (.int (i.fdiv j)) S else .bad
  | _, _ => .bad
def wMod : Op2 := fun x y S => match x, y with
  | .int i, .int j => if j ≠ 0 then .ok (.int (i.fmod j)) S else .bad
  | _, _ => .bad
def wPow : Op2 := fun x y S => match x, y with
  | .int i, .int j => if 0 ≤ j ∧ j ≤ 1000000 ∧ i.natAbs < 2 ^ 64 then .ok (.int (i ^ j.toNat)) S else .bad
  | _, _ => .bad
section
variable {X : Cx} {Wx : WX}
theorem os_sub : OpS X Wx (binaryOp .Sub) wSub := by
  refine ⟨_, op_sub, fun z σ w1 w2 x y Q t r1 r2 o => ?_⟩
  cases r1 <;> first | exact o.elim | (cases r2 <;> first | exact o.elim | exact ⟨_, _, rfl, rfl, Out.now o t (.int _)⟩)
theorem os_fdiv : OpS X Wx (binaryOp .FloorDiv) wFdiv := by
  refine ⟨_, op_fdivN, fun z σ w1 w2 x y Q t r1 r2 o => ?_⟩
  cases r1 <;> first | exact o.elim | (cases r2 <;> first | exact o.elim | skip)
  unfold wFdiv at o
  dsimp only at o
  split at o
  · rename_i h
    exact ⟨_, _, rfl, rfl, h, Out.now o t (.int _)⟩
  · exact o.elim
theorem os_mod : OpS X Wx (binaryOp .Mod) wMod := by
  refine ⟨_, op_modN, fun z σ w1 w2 x y Q t r1 r2 o => ?_⟩
  cases r1 <;> first | exact o.elim | (cases r2 <;> first | exact o.elim | skip)
  unfold wMod at o
  dsimp only at o
  split at o
  · rename_i h
    exact ⟨_, _, rfl, rfl, h, Out.now o t (.int _)⟩
  · exact o.elim
theorem os_pow : OpS X Wx (binaryOp .Pow) wPow := by
  refine ⟨_, op_pow, fun z σ w1 w2 x y Q t r1 r2 o => ?_⟩
  cases r1 <;> first | exact o.elim | (cases r2 <;> first | exact o.elim | skip)
  unfold wPow at o
  dsimp only at o
  split at o
  · rename_i h
    exact ⟨_, _, rfl, rfl, h, Out.now o t (.int _)⟩
  · exact o.elim
theorem mul_red {z : Wd} {σ : St} {w : W} {x : V} {k : Int} {Q : VK} (t : Tied (gX X) z) (r : RW (gX X) z w x) (o : Out (gX X) Wx (RW (gX X)) z σ (mulL w k z.S) Q) : rRep x (.int k) z.H Q := by
  unfold mulL at o
  split at o
  · exact o.elim
  · rename_i ws h
    split at o
    · rename_i hk
      obtain ⟨a, vs, rfl, e, rs⟩ := seqL_at t h r
      refine ⟨a, k, vs, rfl, rfl, e, hk.1, hk.2.1, by rw [← rs.length]; exact hk.2.2, fun p hp => ?_⟩
      exact o (z.new p _) (.ref p) rfl (Step.new t hp) (t.new hp) (newL t hp (rs.rep _))
    · exact o.elim
theorem os_mul : OpS X Wx (binaryOp .Mult) wMul := by
  refine ⟨_, op_mul.or op_rep, fun z σ w1 w2 x y Q t r1 r2 o => ?_⟩
  cases r2 with
  | int k =>
    cases r1 with
    | int i =>
      unfold wMul at o
      dsimp only at o
      split at o
      · rename_i h
        have h' : (-(2 ^ 64) < i ∧ i < 2 ^ 64) ∨ (-(2 ^ 64) < k ∧ k < 2 ^ 64) := of_decide_eq_true h
        exact .inl ⟨_, _, rfl, rfl, h', Out.now o t (.int _)⟩
      · exact o.elim
    | lst e n r => exact .inr (mul_red t (.lst e n r) o)
    | h l => exact .inr (mul_red t (.h l) o)
    | _ => exact o.elim
  | _ => exact o.elim
theorem os_add : OpS X Wx (binaryOp .Add) wAdd := by
  refine ⟨_, op_add.or (op_add_str.or (op_catA.or op_cat)), fun z σ w1 w2 x y Q t r1 r2 o => ?_⟩
  have seq : Out (gX X) Wx (RW (gX X)) z σ (addL w1 w2 z.S) Q → rCat x y z.H Q := fun o => by
    unfold addL at o
    split at o
    · exact o.elim
    · rename_i ws h1
      split at o
      · exact o.elim
      · rename_i us h2
        split at o
        · rename_i hl
          obtain ⟨a, vs, rfl, e, rs⟩ := seqL_at t h1 r1
          obtain ⟨b, vs', rfl, e', rs'⟩ := seqL_at t h2 r2
          refine ⟨a, b, vs, vs', rfl, rfl, e, e', by rw [← rs.length, ← rs'.length]; exact hl, fun p hp => ?_⟩
          exact o (z.new p _) (.ref p) rfl (Step.new t hp) (t.new hp) (newL t hp (rs.append rs'))
        · exact o.elim
  cases r1 with
  | int i => cases r2 <;> first | exact o.elim | exact .inl ⟨_, _, rfl, rfl, Out.now o t (.int _)⟩
  | str i =>
    cases r2 <;> first | exact o.elim | skip
    unfold wAdd at o
    dsimp only at o
    split at o
    · rename_i h
      exact .inr (.inl ⟨_, _, rfl, rfl, h, Out.now o t (.str _)⟩)
    · exact o.elim
  | @tup a ws vs h r =>
    cases r2 with
    | @tup b us vs' h' r' =>
      unfold wAdd at o
      dsimp only at o
      split at o
      · rename_i hl
        refine .inr (.inr (.inl ⟨a, b, vs, vs', rfl, rfl, h.sq, h'.sq, by rw [← r.length, ← r'.length]; exact hl, fun e => ?_, fun _ e => ?_, fun _ _ p hp => ?_⟩))
        · subst e
          cases r
          exact o z _ rfl (Step.refl z) t (.tup h' r')
        · subst e
          cases r'
          exact o z _ rfl (Step.refl z) t (by rw [List.append_nil]; exact .tup h r)
        · exact o (z.new p _) (.ref p) rfl (Step.new t hp) (t.new hp) (newT t hp (r.append r'))
      · exact o.elim
    | _ => exact o.elim
  | lst e n r => exact .inr (.inr (.inr (seq o)))
  | h l => exact .inr (.inr (.inr (seq o)))
  | _ => exact o.elim
end
end Mi

set_option Elab.async false
set_option linter.all false
set_option maxRecDepth 100000
set_option maxHeartbeats 4000000
namespace Mi
open PySem L2
/-! ### data of a value -/
mutual
def datW (hd : Nat → Option PyData) : W → Option PyData
  | .non => some .none
  | .bl b => some (.bool b)
  | .int i => some (.int i)
  | .str x => some (.str x)
  | .h n => hd n
  | .tup ws => (datWs hd ws).map .tuple
  | .lst ws => (datWs hd ws).map .list
  | _ => none
def datWs (hd : Nat → Option PyData) : List W → Option (List PyData)
  | [] => some []
  | w :: ws => (datW hd w).bind fun d => (datWs hd ws).map (d :: ·)
end
def hdat (S : Sto) : Nat → Nat → Option PyData
  | 0 => fun _ => none
  | k + 1 => fun n => (lstAt S n).bind fun ws => (datWs (hdat S k) ws).map .list
abbrev dat (S : Sto) (w : W) : Option PyData := datW (hdat S 4) w
section
variable {g : Kg} {z : Wd}
mutual
theorem datW_dp (hd : Nat → Option PyData) (hh : ∀ n d, hd n = some d → Dp g.K z.H (.ref (z.m n)) d) : ∀ (w : W) {v : V} {d : PyData}, datW hd w = some d → RW g z w v → Dp g.K z.H v d
  | .non, _, _, e, r => by cases e; cases r; exact .non
  | .bl b, _, _, e, r => by cases e; cases r; exact .bl b
  | .int b, _, _, e, r => by cases e; cases r; exact .int b
  | .str b, _, _, e, r => by cases e; cases r; exact .str b
  | .h n, _, _, e, r => by cases r; exact hh n _ e
  | .tup ws, _, _, e, r => by
    cases r with
    | tup h r =>
      rw [datW] at e
      obtain ⟨ds, e1, rfl⟩ := Option.map_eq_some_iff.mp e
      exact .tup h.sq (datWs_dp hd hh ws e1 r)
  | .lst ws, _, _, e, r => by
    cases r with
    | lst h n r =>
      rw [datW] at e
      obtain ⟨ds, e1, rfl⟩ := Option.map_eq_some_iff.mp e
      exact .lst (SqL.of h) (datWs_dp hd hh ws e1 r)
  | .ty _, _, _, e, _ => by cases e
  | .fn _, _, _, e, _ => by cases e
  | .dct _ _, _, _, e, _ => by cases e
  | .scr _, _, _, e, _ => by cases e
theorem datWs_dp (hd : Nat → Option PyData) (hh : ∀ n d, hd n = some d → Dp g.K z.H (.ref (z.m n)) d) : ∀ (ws : List W) {vs : List V} {ds : List PyData}, datWs hd ws = some ds → RWs g z ws vs → DpAll g.K z.H vs ds
  | [], _, _, e, r => by cases e; cases r; exact .nil
  | w :: ws, _, _, e, r => by
    cases r with
    | cons r rs =>
      rw [datWs] at e
      obtain ⟨d, e1, e2⟩ := Option.bind_eq_some_iff.mp e
      obtain ⟨ds, e3, rfl⟩ := Option.map_eq_some_iff.mp e2
      exact .cons (datW_dp hd hh w e1 r) (datWs_dp hd hh ws e3 rs)
end
theorem hdat_dp (t : Tied g z) : ∀ k n d, hdat z.S k n = some d → Dp g.K z.H (.ref (z.m n)) d
  | 0, _, _, e => by cases e
  | k + 1, n, d, e => by
    obtain ⟨ws, e1, e2⟩ := Option.bind_eq_some_iff.mp (show (lstAt z.S n).bind (fun ws => (datWs (hdat z.S k) ws).map .list) = some d from e)
    obtain ⟨ds, e3, rfl⟩ := Option.map_eq_some_iff.mp e2
    obtain ⟨vs, e4, r⟩ := t.lstAt (lstAt_eq.mp e1)
    exact .lst (SqL.of e4) (datWs_dp _ (hdat_dp t k) ws e3 r)
theorem dat_dp (t : Tied g z) {w : W} {v : V} {d : PyData} (e : dat z.S w = some d) (r : RW g z w v) : Dp g.K z.H v d := datW_dp _ (hdat_dp t 4) w e r
end
/-! ### a dict is no text -/
section
open PySem.Spec PyProof.Rows PySem.SeqAt PySem.AutoSeq1 PySem.MeetsSeq
theorem sub_str_dict : isSubtype (.type "str") (.type "dict") = pure false := by kernel_rfl
theorem dict_ne_says (l : Addr) (es : Array DictEntry) (n : Nat) (b : Str) (u : Tok) :
    Meets (Builtin.«dict.__ne__» ⟨[.ref l, .str b u], []⟩) (fun _ R s => s.heap.get? l = some { cls := .type "dict", dict := none, data := .dict es n, slots := #[] } ∧ R (.ok (.ret .notImplemented)) s) :=
  .of_wp fun prog w A R s h => by
    obtain ⟨hp, g, d, tk, os⟩ := s
    obtain ⟨hl, h⟩ := h
    have f1 := sub_str_dict
    wp_walk using wpAny_loadPart' hl
    exact ⟨_, rfl, h⟩
theorem str_ne_says (b : Str) (u : Tok) (l : Addr) (es : Array DictEntry) (n : Nat) :
    Meets (Builtin.«str.__ne__» ⟨[.str b u, .ref l], []⟩) (fun _ R s => s.heap.get? l = some { cls := .type "dict", dict := none, data := .dict es n, slots := #[] } ∧ R (.ok (.ret .notImplemented)) s) :=
  .of_wp fun prog w A R s h => by
    obtain ⟨hp, g, d, tk, os⟩ := s
    obtain ⟨hl, h⟩ := h
    wp_walk using wpAny_loadPart' hl, wpAny_load hl
    exact ⟨_, rfl, h⟩
theorem slot_dict_ne : Slot "dict" (cmpInfo .NotEq).2.1 "dict.__ne__" := PySem.F.slot_dict_ne
/-- d != 'text' -/
def rNeDS : R2 := fun x y H Q => ∃ (a : Addr) (kvs : List (Key × V)) (z : Str), x = .ref a ∧ y = .str z ∧ H a = some (.dK kvs) ∧ Q (.bl true) H
theorem op_neDS {X : Cx} (hu : X.A.units < cLine) : OpR X (compareOp .NotEq) rNeDS := by
  intro pins s σ H x y v u Q I rx ry h
  obtain ⟨a, kvs, z, rfl, rfl, ha, q⟩ := h
  cases (show v = Value.ref a from rx)
  obtain ⟨t, rfl⟩ := (show ∃ t, u = Value.str z t from ry)
  obtain ⟨_, _, vs, _, o, es, ep, ho, ⟨e1, e2, e3⟩, e4, _⟩ := dk_of I.hok ha
  obtain ⟨oc, od, dt, sl⟩ := o
  dsimp only at e1 e2 e3 e4
  subst e1 e2 e3 e4
  refine rc_ne_decline_or (k := false) ⟨_, ho, rfl⟩ (typeIs_str s z t) (by decide) sub_str_dict slot_dict_ne F.slot_str_ne_refl
    (fun _ hq => call_meets slot_dict_ne ⟨_, ho, rfl⟩ F.entry_dict_ne (F.args_dict_ne_2 _ _) (dict_ne_says a es ep z t) ⟨ho, hq⟩)
    (fun _ hq => call_meets F.slot_str_ne_refl (typeIs_str s z t) F.entry_str_ne (F.args_str_ne_2 _ _) (str_ne_says z t a es ep) ⟨ho, hq⟩)
    (fun _ hq => wpAny_of_eq (rfl : isSame (.ref a) (.str z t) = pure false) hq) (.inr hu) ?_
  exact ⟨.bl true, H, I, rfl, q⟩
/-- lists of unlike lengths -/
def rEqLen (K : PySem.W.Frag) (k : Bool) : R2 := fun x y H Q => ∃ (a b : Addr) (xs ys : List V), x = .ref a ∧ y = .ref b ∧ SqL K H a xs ∧ SqL K H b ys ∧ xs.length ≠ ys.length ∧ Q (.bl k) H
theorem vals_size {xs : List V} {its : List Value} (h : Vals xs its) : its.toArray.size = xs.length := by
  rw [List.size_toArray]
  exact h.length.symm
theorem op_eqLen {X : Cx} (hu : X.A.units < cLine) : OpR X (compareOp .Eq) (rEqLen X.K false) := by
  intro pins s σ H x y v u Q I rx ry h
  obtain ⟨a, b, xs, ys, rfl, rfl, ha, hb, hl, q⟩ := h
  cases (show v = Value.ref a from rx)
  cases (show u = Value.ref b from ry)
  obtain ⟨i1, o1, n1, v1, e1, c1, d1⟩ := sqL_at I.hok I.kIn ha
  obtain ⟨i2, o2, n2, v2, e2, c2, d2⟩ := sqL_at I.hok I.kIn hb
  obtain ⟨oc, od, dt, sl⟩ := o1
  obtain ⟨oc2, od2, dt2, sl2⟩ := o2
  dsimp only at c1 d1 c2 d2
  subst c1 d1 c2 d2
  exact richCompare_meets_room (op := .Eq) ⟨_, e1, rfl⟩ ⟨_, e2, rfl⟩ F.slot_list_eq F.entry_list_eq (F.args_list_eq_2 _ _) (list_eq_lengthsAt a b i1.toArray i2.toArray n1 n2 od od2 sl sl2 (by rw [vals_size v1, vals_size v2]; simpa using hl))
    ⟨e1, e2, (fun z => nomatch z), .bl false, H, I, rfl, q⟩ hu
theorem op_neLen {X : Cx} (hu : X.A.units < cLine) : OpR X (compareOp .NotEq) (rEqLen X.K true) := by
  intro pins s σ H x y v u Q I rx ry h
  obtain ⟨a, b, xs, ys, rfl, rfl, ha, hb, hl, q⟩ := h
  cases (show v = Value.ref a from rx)
  cases (show u = Value.ref b from ry)
  obtain ⟨i1, o1, n1, v1, e1, c1, d1⟩ := sqL_at I.hok I.kIn ha
  obtain ⟨i2, o2, n2, v2, e2, c2, d2⟩ := sqL_at I.hok I.kIn hb
  obtain ⟨oc, od, dt, sl⟩ := o1
  obtain ⟨oc2, od2, dt2, sl2⟩ := o2
  dsimp only at c1 d1 c2 d2
  subst c1 d1 c2 d2
  exact richCompare_meets_room (op := .NotEq) ⟨_, e1, rfl⟩ ⟨_, e2, rfl⟩ F.slot_list_ne F.entry_list_ne (F.args_list_ne_2 _ _) (list_ne_lengthsAt a b i1.toArray i2.toArray n1 n2 od od2 sl sl2 (by rw [vals_size v1, vals_size v2]; simpa using hl))
    ⟨e1, e2, (fun z => nomatch z), .bl true, H, I, rfl, q⟩ hu
end
/-! ### == != < in is -/
def cmpD (S : Sto) (x y : W) (f : PyData → PyData → Bool) : R W := match dat S x with
  | none => .bad
  | some d => match dat S y with
    | none => .bad
    | some e => if SeqAt.shaped d = true ∧ SeqAt.shaped e = true then .ok (.bl (f d e)) S else .bad
def flatW : W → Bool
  | .non => true
  | .bl _ => true
  | .int _ => true
  | .str _ => true
  | _ => false
def eqF : W → W → Bool
  | .non, .non => true
  | .bl a, .bl b => a == b
  | .bl a, .int b => (if a then 1 else 0) == b
  | .int a, .bl b => a == (if b then 1 else 0)
  | .int a, .int b => a == b
  | .str a, .str b => a == b
  | _, _ => false
/-- the pairs that the plain rule of == speaks of -/
def scalW : W → W → Bool
  | .non, y => flatW y
  | .bl _, .int _ => false
  | .bl _, y => flatW y
  | .int _, .bl _ => false
  | .int _, y => flatW y
  | .str _, y => flatW y
  | _, _ => false
/-- lists of unlike lengths, whatever they hold -/
def lenNe (S : Sto) (x y : W) : Bool := match seqL S x with
  | some a => (match seqL S y with
    | some b => decide (a.length ≠ b.length)
    | none => false)
  | none => false
theorem lenNe_at {g : Kg} {z : Wd} {w w' : W} {v v' : V} (t : Tied g z) (h : lenNe z.S w w' = true) (r : RW g z w v) (r' : RW g z w' v') : ∃ (a b : Addr) (xs ys : List V), v = .ref a ∧ v' = .ref b ∧ SqL g.K z.H a xs ∧ SqL g.K z.H b ys ∧ xs.length ≠ ys.length := by
  unfold lenNe at h
  split at h
  · rename_i ws e1
    split at h
    · rename_i us e2
      obtain ⟨a, vs, rfl, h1, r1⟩ := seqL_at t e1 r
      obtain ⟨b, vs', rfl, h2, r2⟩ := seqL_at t e2 r'
      refine ⟨a, b, vs, vs', rfl, rfl, SqL.of h1, SqL.of h2, ?_⟩
      rw [← r1.length, ← r2.length]
      exact of_decide_eq_true h
    · cases h
  · cases h
def wEq : Op2 := fun x y S => if scalW x y = true then .ok (.bl (eqF x y)) S else if lenNe S x y = true then .ok (.bl false) S else cmpD S x y fun d e => PyData.eqv d e
def dctStr : W → W → Bool
  | .dct _ _, .str _ => true
  | _, _ => false
def wNe : Op2 := fun x y S => if scalW x y = true then .ok (.bl (!eqF x y)) S else if dctStr x y = true then .ok (.bl true) S else if lenNe S x y = true then .ok (.bl true) S else cmpD S x y fun d e => !PyData.eqv d e
def cmpI (f : Int → Int → Bool) (x y : W) (S : Sto) : R W := match x with
  | .int i => (match y with
    | .int j => .ok (.bl (f i j)) S
    | _ => .bad)
  | _ => .bad
def wLt : Op2 := fun x y S => match x with
  | .str a => (match y with
    | .str b => .ok (.bl (decide (a.cps.toList < b.cps.toList))) S
    | _ => .bad)
  | x => cmpI (fun i j => decide (i < j)) x y S
def wLe : Op2 := cmpI fun i j => decide (i ≤ j)
def wGt : Op2 := cmpI fun i j => decide (j < i)
def wGe : Op2 := cmpI fun i j => decide (j ≤ i)
def isNon : W → Bool
  | .non => true
  | _ => false
def isFnW : W → Bool
  | .fn _ => true
  | _ => false
def wIs : Op2 := fun x y S => match y with
  | .non => if isFnW x = true then .bad else .ok (.bl (isNon x)) S
  | _ => .bad
def wIsNot : Op2 := fun x y S => match y with
  | .non => if isFnW x = true then .bad else .ok (.bl (!isNon x)) S
  | _ => .bad
def lookW {κ : Type} [DecidableEq κ] (kvs : List (κ × W)) (k : κ) : Option W := (kvs.find? fun kv => decide (kv.1 = k)).map (·.2)
def keyOf : W → Option Key
  | .int i => some (.inl i)
  | .str x => some (.inr x)
  | _ => none
def seqI (S : Sto) : W → Option (List W)
  | .tup ws => some ws
  | w => seqL S w
def notB (neg b : Bool) : Bool := if neg then !b else b
def inDeep (S : Sto) (x y : W) (ws : List W) (neg : Bool) : R W := match seqL S y with
  | none => .bad
  | some _ => match dat S x with
    | none => .bad
    | some d => match datWs (hdat S 4) ws with
      | none => .bad
      | some ds => if SeqAt.shaped d = true ∧ SeqAt.shaped (.list ds) = true then .ok (.bl (notB neg (ds.any fun z => PyData.eqv z d))) S else .bad
def inSeq (S : Sto) (x y : W) (neg : Bool) : R W := match seqI S y with
  | none => .bad
  | some ws => if flatW x = true ∧ ws.all flatW = true then .ok (.bl (notB neg (ws.any fun w => eqF w x))) S else inDeep S x y ws neg
def inDct (x : W) (kvs : List (Key × W)) (neg : Bool) (S : Sto) : R W := match keyOf x with
  | some k => .ok (.bl (notB neg (lookW kvs k).isSome)) S
  | none => .bad
def inStr (x : W) (b : Str) (neg : Bool) (S : Sto) : R W := match x with
  | .str a => if a.cps.size = 1 then .ok (.bl (notB neg (decide (a.cps.getD 0 0 ∈ b.cps.toList)))) S else .bad
  | _ => .bad
def inOf (x y : W) (neg : Bool) (S : Sto) : R W := match dctOf S y with
  | some kvs => inDct x kvs neg S
  | none => inSeq S x y neg
def inW (neg : Bool) (x y : W) (S : Sto) : R W := match y with
  | .str b => inStr x b neg S
  | .tup ws => inSeq S x (.tup ws) neg
  | .lst ws => inSeq S x (.lst ws) neg
  | .dct ks ws => inDct x (ks.zip ws) neg S
  | .h n => inOf x (.h n) neg S
  | _ => .bad
def wIn : Op2 := inW false
def wNotIn : Op2 := inW true
section
variable {X : Cx} {Wx : WX}
theorem cmp_red {z : Wd} {σ : St} {w1 w2 : W} {x y : V} {Q : VK} {f : PyData → PyData → Bool} (t : Tied (gX X) z) (r1 : RW (gX X) z w1 x) (r2 : RW (gX X) z w2 y) (o : Out (gX X) Wx (RW (gX X)) z σ (cmpD z.S w1 w2 f) Q) :
    ∃ d e, Dp X.K z.H x d ∧ Dp X.K z.H y e ∧ SeqAt.shaped d = true ∧ SeqAt.shaped e = true ∧ Q (.bl (f d e)) z.H := by
  unfold cmpD at o
  split at o
  · exact o.elim
  · rename_i d h1
    split at o
    · exact o.elim
    · rename_i e h2
      split at o
      · rename_i hs
        exact ⟨d, e, dat_dp t h1 r1, dat_dp t h2 r2, hs.1, hs.2, Out.now o t (.bl _)⟩
      · exact o.elim
theorem flat_of {g : Kg} {z : Wd} {w : W} {v : V} (h : flatW w = true) (r : RW g z w v) : flatV v = true := by
  cases r <;> first | rfl | cases h
theorem eqF_of {g : Kg} {z : Wd} {w w' : W} {v v' : V} (h : flatW w = true) (h' : flatW w' = true) (r : RW g z w v) (r' : RW g z w' v') : eqF w w' = eqV v v' := by
  cases r <;> cases h <;> cases r' <;> cases h' <;> rfl
theorem all_flat {g : Kg} {z : Wd} : ∀ {ws : List W} {vs : List V}, ws.all flatW = true → RWs g z ws vs → vs.all flatV = true
  | _, _, _, .nil => rfl
  | w :: ws, v :: vs, h, .cons r t => by
    rw [List.all_cons, Bool.and_eq_true] at h ⊢
    exact ⟨flat_of h.1 r, all_flat h.2 t⟩
theorem any_eqF {g : Kg} {z : Wd} {x : W} {v : V} (hx : flatW x = true) (rx : RW g z x v) : ∀ {ws : List W} {vs : List V}, ws.all flatW = true → RWs g z ws vs → (ws.any fun w => eqF w x) = inV v vs
  | _, _, _, .nil => rfl
  | w :: ws, u :: vs, h, .cons r t => by
    rw [List.all_cons, Bool.and_eq_true] at h
    show (eqF w x || ws.any fun w => eqF w x) = (eqV u v || inV v vs)
    rw [eqF_of h.1 hx r rx, any_eqF hx rx h.2 t]
theorem scal_of {g : Kg} {z : Wd} {w w' : W} {v v' : V} (h : scalW w w' = true) (r : RW g z w v) (r' : RW g z w' v') : scal v v' = true ∧ decide (v = v') = eqF w w' := by
  cases r <;> first | cases h | (cases r' <;> first | cases h | skip)
  all_goals first
    | exact ⟨rfl, rfl⟩
    | (refine ⟨rfl, ?_⟩; first | exact dec_int | exact dec_bl | exact dec_str | exact decide_eq_false (fun q => by cases q) | exact decide_eq_true rfl)
theorem os_eq (hu : X.A.units + 64 < cLine) : OpS X Wx (compareOp .Eq) wEq := by
  refine ⟨_, op_eq.or ((op_eqD hu).or (op_eqLen (by omega))), fun z σ w1 w2 x y Q t r1 r2 o => ?_⟩
  unfold wEq at o
  split at o
  · rename_i h
    obtain ⟨h1, h2⟩ := scal_of h r1 r2
    refine .inl ⟨h1, ?_⟩
    rw [h2]
    exact Out.now o t (.bl _)
  · split at o
    · rename_i h
      obtain ⟨a, b, xs, ys, h1, h2, h3, h4, h5⟩ := lenNe_at t h r1 r2
      exact .inr (.inr ⟨a, b, xs, ys, h1, h2, h3, h4, h5, Out.now o t (.bl _)⟩)
    · exact .inr (.inl (cmp_red t r1 r2 o))
theorem os_ne (hu : X.A.units + 64 < cLine) : OpS X Wx (compareOp .NotEq) wNe := by
  refine ⟨_, op_ne.or ((op_neD hu).or ((op_neDS (by omega)).or (op_neLen (by omega)))), fun z σ w1 w2 x y Q t r1 r2 o => ?_⟩
  unfold wNe at o
  split at o
  · rename_i h
    obtain ⟨h1, h2⟩ := scal_of h r1 r2
    refine .inl ⟨h1, ?_⟩
    rw [h2]
    exact Out.now o t (.bl _)
  · split at o
    · rename_i h
      cases r1 with
      | dct e1 e2 e3 e4 =>
        cases r2 with
        | str b => exact .inr (.inr (.inl ⟨_, _, _, rfl, rfl, e1, Out.now o t (.bl _)⟩))
        | _ => cases h
      | _ => cases h
    · split at o
      · rename_i h
        obtain ⟨a, b, xs, ys, h1, h2, h3, h4, h5⟩ := lenNe_at t h r1 r2
        exact .inr (.inr (.inr ⟨a, b, xs, ys, h1, h2, h3, h4, h5, Out.now o t (.bl _)⟩))
      · exact .inr (.inl (cmp_red t r1 r2 o))
theorem cmpI_red {z : Wd} {σ : St} {w1 w2 : W} {x y : V} {Q : VK} {f : Int → Int → Bool} (t : Tied (gX X) z) (r1 : RW (gX X) z w1 x) (r2 : RW (gX X) z w2 y) (o : Out (gX X) Wx (RW (gX X)) z σ (cmpI f w1 w2 z.S) Q) :
    ∃ i j, x = .int i ∧ y = .int j ∧ Q (.bl (f i j)) z.H := by
  cases r1 <;> first | exact o.elim | (cases r2 <;> first | exact o.elim | exact ⟨_, _, rfl, rfl, Out.now o t (.bl _)⟩)
theorem os_lt : OpS X Wx (compareOp .Lt) wLt := by
  refine ⟨_, op_lt.or op_lt_str, fun z σ w1 w2 x y Q t r1 r2 o => ?_⟩
  cases r1 with
  | str a => cases r2 <;> first | exact o.elim | exact .inr ⟨_, _, rfl, rfl, Out.now o t (.bl _)⟩
  | int a => exact .inl (cmpI_red t (.int a) r2 o)
  | _ => exact o.elim
theorem os_le : OpS X Wx (compareOp .LtE) wLe := ⟨_, op_le, fun z σ w1 w2 x y Q t r1 r2 o => cmpI_red t r1 r2 o⟩
theorem os_gt : OpS X Wx (compareOp .Gt) wGt := ⟨_, op_gt, fun z σ w1 w2 x y Q t r1 r2 o => cmpI_red t r1 r2 o⟩
theorem os_ge : OpS X Wx (compareOp .GtE) wGe := ⟨_, op_ge, fun z σ w1 w2 x y Q t r1 r2 o => cmpI_red t r1 r2 o⟩
theorem isNon_eq {z : Wd} {w : W} {x : V} (hf : ¬ isFnW w = true) (r : RW (gX X) z w x) : isNon w = decide (x = .non) := by
  cases r with
  | non => rfl
  | fn e rv => exact absurd rfl hf
  | _ => exact (decide_eq_false fun q => by cases q).symm
theorem os_is : OpS X Wx (compareOp .Is) wIs := by
  refine ⟨_, op_isN, fun z σ w1 w2 x y Q t r1 r2 o => ?_⟩
  cases r2 <;> first | exact o.elim | skip
  refine ⟨rfl, ?_⟩
  unfold wIs at o
  dsimp only at o
  split at o
  · exact o.elim
  · rename_i hf
    rw [← isNon_eq hf r1]
    exact Out.now o t (.bl _)
theorem os_isNot : OpS X Wx (compareOp .IsNot) wIsNot := by
  refine ⟨_, op_notN, fun z σ w1 w2 x y Q t r1 r2 o => ?_⟩
  cases r2 <;> first | exact o.elim | skip
  refine ⟨rfl, ?_⟩
  unfold wIsNot at o
  dsimp only at o
  split at o
  · exact o.elim
  · rename_i hf
    rw [← isNon_eq hf r1]
    exact Out.now o t (.bl _)
theorem lookW_val {g : Kg} {z : Wd} {κ : Type} [DecidableEq κ] (k : κ) : ∀ {a : List (κ × W)} {b : List (κ × V)}, RFs g z a b → (lookW a k = none ∧ valV b k = none) ∨ ∃ w v, lookW a k = some w ∧ valV b k = some v ∧ RW g z w v
  | _, _, .nil => .inl ⟨rfl, rfl⟩
  | p :: a, q :: b, .cons h t => by
    by_cases e : p.1 = k
    · refine .inr ⟨p.2, q.2, ?_, valV_pos (h.1.symm.trans e), h.2⟩
      unfold lookW
      rw [List.find?_cons, decide_eq_true e]
      rfl
    · have e1 : lookW (p :: a) k = lookW a k := by
        unfold lookW
        rw [List.find?_cons, decide_eq_false e]
      rw [e1, valV_neg (fun q => e (h.1.trans q))]
      exact lookW_val k t
theorem keyOf_kV {g : Kg} {z : Wd} {w : W} {v : V} {k : Key} (h : keyOf w = some k) (r : RW g z w v) : v = kV k := by
  cases r <;> cases h <;> rfl
theorem op_dIn (hu : X.A.units + 1 < cLine) : OpR X (compareOp .In) (fun x y H Q => ∃ a o, y = .ref a ∧ DGet H a x o ∧ Q (.bl o.isSome) H) := by
  rintro pins s σ H x y v u Q I rx ry ⟨a, o, rfl, g, q⟩
  cases ry
  exact d_in hu I g rx fun s' I' => ⟨.bl _, H, I', rfl, q⟩
theorem op_dNotIn (hu : X.A.units + 1 < cLine) : OpR X (compareOp .NotIn) (fun x y H Q => ∃ a o, y = .ref a ∧ DGet H a x o ∧ Q (.bl (!o.isSome)) H) := by
  rintro pins s σ H x y v u Q I rx ry ⟨a, o, rfl, g, q⟩
  cases ry
  exact d_notIn hu I g rx fun s' I' => ⟨.bl _, H, I', rfl, q⟩
theorem inStr_red {z : Wd} {σ : St} {w : W} {x : V} {b : Str} {neg : Bool} {Q : VK} (t : Tied (gX X) z) (r : RW (gX X) z w x) (o : Out (gX X) Wx (RW (gX X)) z σ (inStr w b neg z.S) Q) :
    ∃ (c : Nat) (y : Str), x = .str ⟨#[c]⟩ ∧ V.str b = .str y ∧ Q (.bl (notB neg (decide (c ∈ y.cps.toList)))) z.H := by
  cases r <;> first | exact o.elim | skip
  rename_i a
  unfold inStr at o
  dsimp only at o
  split at o
  · rename_i h
    refine ⟨a.cps.getD 0 0, b, ?_, rfl, Out.now o t (.bl _)⟩
    obtain ⟨⟨l⟩⟩ := a
    match l, h with
    | [c], _ => rfl
  · exact o.elim
theorem inDct_red {z : Wd} {σ : St} {w : W} {x : V} {a : Addr} {kvs : List (Key × W)} {kvs' : List (Key × V)} {neg : Bool} {Q : VK} (t : Tied (gX X) z) (r : RW (gX X) z w x) (h : z.H a = some (.dK kvs')) (rk : RFs (gX X) z kvs kvs')
    (o : Out (gX X) Wx (RW (gX X)) z σ (inDct w kvs neg z.S) Q) : ∃ b oo, V.ref a = .ref b ∧ DGet z.H b x oo ∧ Q (.bl (notB neg oo.isSome)) z.H := by
  unfold inDct at o
  split at o
  · rename_i k e
    have ex := keyOf_kV e r
    subst ex
    refine ⟨a, _, rfl, DGet.k h, ?_⟩
    have : (valV kvs' k).isSome = (lookW kvs k).isSome := by
      rcases lookW_val k rk with ⟨h1, h2⟩ | ⟨_, _, h1, h2, _⟩ <;> rw [h1, h2] <;> rfl
    rw [this]
    exact Out.now o t (.bl _)
  · exact o.elim
theorem seqI_of {S : Sto} {w : W} {us : List W} (h : seqL S w = some us) : seqI S w = some us := by
  cases w <;> first | exact h | cases h
theorem seqI_at {g : Kg} {z : Wd} {w : W} {v : V} {ws : List W} (t : Tied g z) (h : seqI z.S w = some ws) (r : RW g z w v) : ∃ a vs, v = .ref a ∧ (SqL g.K z.H a vs ∨ SqT g.K z.H a vs) ∧ RWs g z ws vs := by
  have hl : seqL z.S w = some ws → ∃ a vs, v = .ref a ∧ (SqL g.K z.H a vs ∨ SqT g.K z.H a vs) ∧ RWs g z ws vs := fun h => by
    obtain ⟨a, vs, e, h1, r1⟩ := seqL_at t h r
    exact ⟨a, vs, e, .inl (SqL.of h1), r1⟩
  cases r with
  | tup h1 r1 =>
    cases h
    exact ⟨_, _, rfl, .inr h1.sq, r1⟩
  | _ => exact hl h
theorem inSeq_red {z : Wd} {σ : St} {w1 w2 : W} {x y : V} {neg : Bool} {Q : VK} (t : Tied (gX X) z) (r1 : RW (gX X) z w1 x) (r2 : RW (gX X) z w2 y) (o : Out (gX X) Wx (RW (gX X)) z σ (inSeq z.S w1 w2 neg) Q) :
    rIn X.K neg x y z.H Q ∨ ∃ d ds, Dp X.K z.H x d ∧ Dp X.K z.H y (.list ds) ∧ SeqAt.shaped d = true ∧ SeqAt.shaped (.list ds) = true ∧ Q (.bl (notB neg (ds.any fun z => PyData.eqv z d))) z.H := by
  unfold inSeq at o
  split at o
  · exact o.elim
  · rename_i ws e
    split at o
    · rename_i hf
      obtain ⟨a, vs, rfl, hs, rs⟩ := seqI_at t e r2
      refine .inl ⟨a, vs, rfl, hs, flat_of hf.1 r1, all_flat hf.2 rs, ?_⟩
      rw [← any_eqF hf.1 r1 hf.2 rs]
      exact Out.now o t (.bl _)
    · unfold inDeep at o
      split at o
      · exact o.elim
      · rename_i us e2
        split at o
        · exact o.elim
        · rename_i d h1
          split at o
          · exact o.elim
          · rename_i ds h2
            split at o
            · rename_i hs
              obtain ⟨a, vs, rfl, e3, rs⟩ := seqL_at t e2 r2
              have eu : us = ws := Option.some.inj ((seqI_of e2).symm.trans e)
              subst eu
              exact .inr ⟨d, ds, dat_dp t h1 r1, .lst (SqL.of e3) (datWs_dp _ (hdat_dp t 4) us h2 rs), hs.1, hs.2, Out.now o t (.bl _)⟩
            · exact o.elim
theorem in_red {z : Wd} {σ : St} {w1 w2 : W} {x y : V} {neg : Bool} {Q : VK} (t : Tied (gX X) z) (r1 : RW (gX X) z w1 x) (r2 : RW (gX X) z w2 y) (o : Out (gX X) Wx (RW (gX X)) z σ (inW neg w1 w2 z.S) Q) :
    (∃ (c : Nat) (b : Str), x = .str ⟨#[c]⟩ ∧ y = .str b ∧ Q (.bl (notB neg (decide (c ∈ b.cps.toList)))) z.H) ∨ (∃ a oo, y = .ref a ∧ DGet z.H a x oo ∧ Q (.bl (notB neg oo.isSome)) z.H) ∨ rIn X.K neg x y z.H Q ∨
      ∃ d ds, Dp X.K z.H x d ∧ Dp X.K z.H y (.list ds) ∧ SeqAt.shaped d = true ∧ SeqAt.shaped (.list ds) = true ∧ Q (.bl (notB neg (ds.any fun z => PyData.eqv z d))) z.H := by
  cases r2 with
  | str b => exact .inl (inStr_red t r1 o)
  | tup h r => exact .inr (.inr (inSeq_red t r1 (.tup h r) o))
  | lst h n r => exact .inr (.inr (inSeq_red t r1 (.lst h n r) o))
  | dct h n l r => exact .inr (.inl (inDct_red t r1 h (rfs_zip r) o))
  | @h n l =>
    have o' : Out (gX X) Wx (RW (gX X)) z σ (inOf w1 (.h n) neg z.S) Q := o
    unfold inOf at o'
    split at o'
    · rename_i kvs e
      obtain ⟨kvs', e1, rk⟩ := t.dctAt (dctAt_eq.mp e)
      exact .inr (.inl (inDct_red t r1 e1 rk o'))
    · exact .inr (.inr (inSeq_red t r1 (.h l) o'))
  | _ => exact o.elim
theorem os_in (hu : X.A.units + 65 < cLine) : OpS X Wx (compareOp .In) wIn := ⟨_, op_in_sign.or ((op_dIn (by omega)).or (op_in_seq.or (op_inD hu))), fun z σ w1 w2 x y Q t r1 r2 o => in_red t r1 r2 o⟩
theorem os_notIn (hu : X.A.units + 65 < cLine) : OpS X Wx (compareOp .NotIn) wNotIn := ⟨_, op_notIn_sign.or ((op_dNotIn (by omega)).or (op_notIn_seq.or (op_notInD hu))), fun z σ w1 w2 x y Q t r1 r2 o => in_red t r1 r2 o⟩
end
end Mi

set_option Elab.async false
set_option linter.all false
set_option maxRecDepth 100000
set_option maxHeartbeats 4000000
namespace Mi
open PySem L2
/-! ### truth -/
def truW (S : Sto) : W → Option Bool
  | .non => some false
  | .bl b => some b
  | .int i => some (i != 0)
  | .str y => if y.length ≤ sizeLine then some ((y.length : Int) != 0) else none
  | .tup ws => some (!ws.isEmpty)
  | .lst ws => some (!ws.isEmpty)
  | .dct ks ws => some (!(ks.zip ws).isEmpty)
  | .h n => match lstAt S n with
    | some ws => some (!ws.isEmpty)
    | none => (dctAt S n).map fun kvs => !kvs.isEmpty
  | _ => none
def opT (k : Option Bool) (S : Sto) : R Bool := match k with
  | some k => .ok k S
  | none => .bad
def tV (a : Ev) : Tv := fun env S => (a env S).bind fun w S1 => opT (truW S1 w) S1
def tAnd (a b : Tv) : Tv := fun env S => (a env S).bind fun c S1 => if c = true then b env S1 else .ok false S1
def tOr (a b : Tv) : Tv := fun env S => (a env S).bind fun c S1 => if c = true then .ok true S1 else b env S1
def tNot (a : Tv) : Tv := fun env S => (a env S).bind fun c S1 => .ok (!c) S1
def eAnd (a b : Ev) : Ev := fun env S => (a env S).bind fun w S1 => (asB w S1).bind fun c S2 => if c = true then b env S2 else .ok (.bl false) S2
def eOr (a b : Ev) : Ev := fun env S => (a env S).bind fun w S1 => (asB w S1).bind fun c S2 => if c = true then .ok (.bl true) S2 else b env S2
def eNot (a : Ev) : Ev := fun env S => (a env S).bind fun w S1 => (opT (truW S1 w) S1).bind fun c S2 => .ok (.bl (!c)) S2
def eIf (c : Tv) (a b : Ev) : Ev := fun env S => (c env S).bind fun k S1 => if k = true then a env S1 else b env S1
def MW (X : Cx) (Wx : WX) (e : Expr) (f : Tv) : Prop := PW X e (tM (gX X) Wx rB f)
theorem pw_mono {X : Cx} {e : Expr} {t t' : TT} (p : PW X e t) (h : ∀ σ H Q, t' σ H Q → t σ H Q) : PW X e t' := ⟨fun w pins s σ H Q I q => p.run w pins s σ H Q I (h σ H Q q)⟩
theorem empty_rws {g : Kg} {z : Wd} {ws : List W} {vs : List V} (r : RWs g z ws vs) : (!ws.isEmpty) = !vs.isEmpty := by
  cases r <;> rfl
theorem empty_rfs {g : Kg} {z : Wd} {κ : Type} {ws : List (κ × W)} {vs : List (κ × V)} (r : RFs g z ws vs) : (!ws.isEmpty) = !vs.isEmpty := by
  cases r <;> rfl
theorem truW_at {g : Kg} {z : Wd} {w : W} {v : V} {k : Bool} (t : Tied g z) (h : truW z.S w = some k) (r : RW g z w v) : TruV g.K v z.H k := by
  cases r with
  | non => cases h; rfl
  | bl b => cases h; rfl
  | int b => cases h; rfl
  | str y =>
    unfold truW at h
    dsimp only at h
    split at h
    · rename_i hl
      cases h
      exact ⟨hl, rfl⟩
    · cases h
  | tup e r => cases h; exact .inr (.inl ⟨_, e.sq, empty_rws r⟩)
  | lst e _ r => cases h; exact .inl ⟨_, SqL.of e, empty_rws r⟩
  | dct e _ _ r => cases h; exact .inr (.inr ⟨_, e, empty_rfs (rfs_zip r)⟩)
  | @h n l =>
    unfold truW at h
    dsimp only at h
    cases e : lstAt z.S n with
    | some ws =>
      rw [e] at h
      cases h
      obtain ⟨vs, e1, r1⟩ := t.lstAt (lstAt_eq.mp e)
      exact .inl ⟨_, SqL.of e1, empty_rws r1⟩
    | none =>
      rw [e] at h
      obtain ⟨kvs, e2, rfl⟩ := Option.map_eq_some_iff.mp h
      obtain ⟨vs, e1, r1⟩ := t.dctAt (dctAt_eq.mp e2)
      exact .inr (.inr ⟨_, e1, empty_rfs r1⟩)
  | _ => cases h
section
variable {X : Cx} {Wx : WX} {a b c : Expr} {fa fb fc : Ev} {ta tb : Tv} {pos : Pos} {rest : List Expr}
theorem mt_v (ha : ME X Wx a fa) (he : ∀ whole, isTrue a X.env whole = (do let v ← whole; standAt a.pos; holding [v] (truthy v)) := by intro _; rfl) : MT X Wx a (tV fa) := by
  refine pt_mono (pt_truth ha he) ?_
  rintro σ H Q ⟨z, env, rfl, t, re, o⟩
  refine ⟨z, env, rfl, t, re, o.bind fun z1 x w1 e1 st1 t1 r1 o1 => ?_⟩
  cases h : truW z1.S w1 with
  | none =>
    rw [h] at o1
    exact o1.elim
  | some k =>
    rw [h] at o1
    exact ⟨k, truW_at t1 h r1, Out.now o1 t1 rfl⟩
theorem mt_w {e : Expr} {f : Tv} (h : MW X Wx e f) : MT X Wx e f := PW.pt h
theorem mw_and1 (ha : MT X Wx a ta) : MW X Wx (.BoolOp .And [a] pos) ta := pw_and1 ha
theorem mw_or1 (ha : MT X Wx a ta) : MW X Wx (.BoolOp .Or [a] pos) ta := pw_or1 ha
theorem mw_and (ha : MT X Wx a ta) (hb : MW X Wx (.BoolOp .And (b :: rest) pos) tb) : MW X Wx (.BoolOp .And (a :: b :: rest) pos) (tAnd ta tb) := by
  refine pw_mono (pw_and ha hb) ?_
  rintro σ H Q ⟨z, env, rfl, t, re, o⟩
  refine ⟨z, env, rfl, t, re, o.bind fun z1 k c e1 st1 t1 r1 o1 => ?_⟩
  cases r1
  cases k with
  | true => exact iteT ⟨z1, env, rfl, t1, re.mono st1, o1⟩
  | false => exact iteF (Out.now o1 t1 rfl)
theorem mw_or (ha : MT X Wx a ta) (hb : MW X Wx (.BoolOp .Or (b :: rest) pos) tb) : MW X Wx (.BoolOp .Or (a :: b :: rest) pos) (tOr ta tb) := by
  refine pw_mono (pw_or ha hb) ?_
  rintro σ H Q ⟨z, env, rfl, t, re, o⟩
  refine ⟨z, env, rfl, t, re, o.bind fun z1 k c e1 st1 t1 r1 o1 => ?_⟩
  cases r1
  cases k with
  | true => exact iteT (Out.now o1 t1 rfl)
  | false => exact iteF ⟨z1, env, rfl, t1, re.mono st1, o1⟩
theorem mt_not (ha : MT X Wx a ta) : MT X Wx (.UnaryOp .Not a pos) (tNot ta) := by
  refine pt_mono (pt_not ha) ?_
  rintro σ H Q ⟨z, env, rfl, t, re, o⟩
  refine ⟨z, env, rfl, t, re, o.bind fun z1 k c e1 st1 t1 r1 o1 => ?_⟩
  cases r1
  exact Out.now o1 t1 rfl
theorem me_one {op} (ha : ME X Wx a fa) : ME X Wx (.BoolOp op [a] pos) fa := pe_one ha
theorem me_and (ha : ME X Wx a fa) (hb : ME X Wx (.BoolOp .And (b :: rest) pos) fb) : ME X Wx (.BoolOp .And (a :: b :: rest) pos) (eAnd fa fb) := by
  refine pe_mono (pe_and ha hb) ?_
  rintro σ H Q ⟨z, env, rfl, t, re, o⟩
  refine ⟨z, env, rfl, t, re, o.bind fun z1 x w e1 st1 t1 r1 o1 => ?_⟩
  cases r1 <;> first | exact o1.elim | skip
  rename_i k
  refine ⟨k, rfl, ?_⟩
  cases k with
  | true => exact iteT ⟨z1, env, rfl, t1, re.mono st1, o1⟩
  | false => exact iteF (Out.now o1 t1 (.bl _))
theorem me_or (ha : ME X Wx a fa) (hb : ME X Wx (.BoolOp .Or (b :: rest) pos) fb) : ME X Wx (.BoolOp .Or (a :: b :: rest) pos) (eOr fa fb) := by
  refine pe_mono (pe_or ha hb) ?_
  rintro σ H Q ⟨z, env, rfl, t, re, o⟩
  refine ⟨z, env, rfl, t, re, o.bind fun z1 x w e1 st1 t1 r1 o1 => ?_⟩
  cases r1 <;> first | exact o1.elim | skip
  rename_i k
  refine ⟨k, rfl, ?_⟩
  cases k with
  | true => exact iteT (Out.now o1 t1 (.bl _))
  | false => exact iteF ⟨z1, env, rfl, t1, re.mono st1, o1⟩
theorem me_not (ha : ME X Wx a fa) : ME X Wx (.UnaryOp .Not a pos) (eNot fa) := by
  refine pe_mono (pe_notT ha) ?_
  rintro σ H Q ⟨z, env, rfl, t, re, o⟩
  refine ⟨z, env, rfl, t, re, o.bind fun z1 x w1 e1 st1 t1 r1 o1 => ?_⟩
  cases h : truW z1.S w1 with
  | none =>
    rw [h] at o1
    exact o1.elim
  | some k =>
    rw [h] at o1
    exact ⟨k, truW_at t1 h r1, Out.now o1 t1 (.bl _)⟩
theorem me_if (hc : MT X Wx c ta) (ha : ME X Wx a fa) (hb : ME X Wx b fb) : ME X Wx (.IfExp c a b pos) (eIf ta fa fb) := by
  refine pe_mono (pe_ifExp hc ha hb) ?_
  rintro σ H Q ⟨z, env, rfl, t, re, o⟩
  refine ⟨z, env, rfl, t, re, o.bind fun z1 k c e1 st1 t1 r1 o1 => ?_⟩
  cases r1
  cases k with
  | true => exact iteT ⟨z1, env, rfl, t1, re.mono st1, o1⟩
  | false => exact iteF ⟨z1, env, rfl, t1, re.mono st1, o1⟩
end

/-! ### argument lists, displays -/
def aNil : Av := fun _ S => .ok [] S
def aCons (a : Ev) (r : Av) : Av := fun env S => (a env S).bind fun w S1 => (r env S1).bind fun ws S2 => .ok (w :: ws) S2
def eTup (r : Av) : Ev := fun env S => (r env S).bind fun ws S1 => if ws.length ≤ sizeLine then .ok (.tup ws) S1 else .bad
/-- a list that is data; a list that changes -/
def eLst (r : Av) : Ev := fun env S => (r env S).bind fun ws S1 => if ws.length ≤ sizeLine then .ok (.lst ws) S1 else .bad
def eLstH (r : Av) : Ev := fun env S => (r env S).bind fun ws S1 => if ws.length ≤ sizeLine then .ok (.h S1.length) (S1 ++ [.lst ws]) else .bad
section
variable {X : Cx} {Wx : WX} {e : Expr} {es : List Expr} {fe : Ev} {fs : Av} {pos : Pos}
theorem ma_nil : MA X Wx [] aNil := by
  refine pa_mono pa_nil ?_
  rintro σ H Q ⟨z, env, rfl, t, re, o⟩
  exact Out.now o t .nil
theorem ma_cons (ha : ME X Wx e fe) (hr : MA X Wx es fs) (hs : starEach (e :: es) X.env = (false, eval e X.env) :: starEach es X.env := by rfl) : MA X Wx (e :: es) (aCons fe fs) := by
  refine pa_mono (pa_cons ha hr hs) ?_
  rintro σ H Q ⟨z, env, rfl, t, re, o⟩
  refine ⟨z, env, rfl, t, re, o.bind fun z1 x w e1 st1 t1 r1 o1 => ⟨z1, env, rfl, t1, re.mono st1, o1.bind fun z2 xs ws e2 st2 t2 r2 o2 => ?_⟩⟩
  exact Out.now o2 t2 (.cons (r1.mono st2) r2)
theorem me_tup {x1} (h : MA X Wx es fs) : ME X Wx (.Tuple es x1 pos) (eTup fs) := by
  refine pe_mono (pe_tup h) ?_
  rintro σ H Q ⟨z, env, rfl, t, re, o⟩
  refine ⟨z, env, rfl, t, re, o.bind fun z1 xs ws e1 st1 t1 r1 o1 => ?_⟩
  split at o1
  · rename_i hl
    refine ⟨by rw [← r1.length]; exact hl, fun p hp => ?_⟩
    exact o1 (z1.new p _) (.ref p) rfl (Step.new t1 hp) (t1.new hp) (newT t1 hp r1)
  · exact o1.elim
theorem me_lst (h : MA X Wx es fs) : ME X Wx (.List es pos) (eLst fs) := by
  refine pe_mono (pe_lst h) ?_
  rintro σ H Q ⟨z, env, rfl, t, re, o⟩
  refine ⟨z, env, rfl, t, re, o.bind fun z1 xs ws e1 st1 t1 r1 o1 => ?_⟩
  split at o1
  · rename_i hl
    refine ⟨by rw [← r1.length]; exact hl, fun p hp => ?_⟩
    exact o1 (z1.new p _) (.ref p) rfl (Step.new t1 hp) (t1.new hp) (newL t1 hp r1)
  · exact o1.elim
theorem me_lstH (h : MA X Wx es fs) : ME X Wx (.List es pos) (eLstH fs) := by
  refine pe_mono (pe_lst h) ?_
  rintro σ H Q ⟨z, env, rfl, t, re, o⟩
  refine ⟨z, env, rfl, t, re, o.bind fun z1 xs ws e1 st1 t1 r1 o1 => ?_⟩
  split at o1
  · rename_i hl
    refine ⟨by rw [← r1.length]; exact hl, fun p hp => ?_⟩
    exact o1 (z1.newH p (.lst xs) (.lst ws)) (.ref p) rfl (Step.newH t1 hp) (t1.newH hp (.lst (r1.mono (Step.newH t1 hp)))) newH_at
  · exact o1.elim
/-- what is data may be taken as it is: a list or dict that changes no more -/
def frzR (w : W) (S : Sto) : R W := match w with
  | .h n => (match S[n]? with
    | some (.lst ws) => .ok (.lst ws) (S.set n .gone)
    | some (.dct kvs) => .ok (.dct (kvs.map (·.1)) (kvs.map (·.2))) (S.set n .gone)
    | _ => .bad)
  | w => .ok w S
def eFrz (a : Ev) : Ev := fun env S => (a env S).bind frzR
theorem rfs_split {g : Kg} {z : Wd} {κ : Type} : ∀ {a : List (κ × W)} {b : List (κ × V)}, RFs g z a b → RWs g z (a.map (·.2)) (b.map (·.2)) ∧ (a.map (·.1)).zip (b.map (·.2)) = b ∧ a.length = b.length
  | _, _, .nil => ⟨.nil, rfl, rfl⟩
  | p :: a, q :: b, .cons h t => by
    obtain ⟨h1, h2, h3⟩ := rfs_split t
    refine ⟨.cons h.2 h1, ?_, congrArg (· + 1) h3⟩
    rw [List.map_cons, List.map_cons, List.zip_cons_cons, h2, h.1]
theorem frz_red {g : Kg} {z : Wd} {σ : St} {w : W} {x : V} {Q : VK} (t : Tied g z) (r : RW g z w x) (o : Out g Wx (RW g) z σ (frzR w z.S) Q) : Q x z.H := by
  cases r with
  | @h n l =>
    have o' := o
    unfold frzR at o'
    dsimp only at o'
    split at o'
    · rename_i ws e
      obtain ⟨vs, e1, r1⟩ := t.lstAt e
      refine o' (z.kill n) _ rfl (Step.kill t) t.kill (.lst e1 (fun q => ?_) (r1.mono (Step.kill t)))
      exact (live_kill (g := g) q).2 _ e (by intro q; cases q) t rfl
    · rename_i kvs e
      obtain ⟨kvs', e1, r1⟩ := t.dctAt e
      obtain ⟨h1, h2, h3⟩ := rfs_split r1
      refine o' (z.kill n) _ rfl (Step.kill t) t.kill (.dct (by rw [h2]; exact e1) (fun q => ?_) (by rw [List.length_map, List.length_map]; exact h3) (h1.mono (Step.kill t)))
      exact (live_kill (g := g) q).2 _ e (by intro q; cases q) t rfl
    · exact o'.elim
  | non => exact Out.now o t .non
  | bl b => exact Out.now o t (.bl b)
  | int b => exact Out.now o t (.int b)
  | str b => exact Out.now o t (.str b)
  | ty b => exact Out.now o t (.ty b)
  | fn a b => exact Out.now o t (.fn a b)
  | tup a b => exact Out.now o t (.tup a b)
  | lst a b c => exact Out.now o t (.lst a b c)
  | dct a b c d => exact Out.now o t (.dct a b c d)
  | scr a => exact Out.now o t (.scr a)
theorem me_frz (h : ME X Wx e fe) : ME X Wx e (eFrz fe) := by
  refine pe_mono h ?_
  rintro σ H Q ⟨z, env, rfl, t, re, o⟩
  exact ⟨z, env, rfl, t, re, o.bind fun z1 x w e1 st1 t1 r1 o1 => frz_red t1 r1 o1⟩
end

/-! ### subscripts and slices -/
def opR {α : Type} (k : Option α) (S : Sto) : R α := match k with
  | some k => .ok k S
  | none => .bad
theorem opR_some {α β : Type} {g : Kg} {Wx : WX} {rel : Wd → α → β → Prop} {z : Wd} {σ : St} {k : Option α} {Q : β → Hp → Prop} (o : Out g Wx rel z σ (opR k z.S) Q) : ∃ a, k = some a ∧ Out g Wx rel z σ (.ok a z.S) Q := by
  cases k with
  | none => exact o.elim
  | some a => exact ⟨a, rfl, o⟩
def ixD (kvs : List (Key × W)) (y : W) : Option W := (keyOf y).bind fun k => lookW kvs k
def ixI {α : Type} (ws : List α) (y : W) : Option α := match y with
  | .int i => atI ws i
  | _ => none
def ixOf (S : Sto) (x y : W) : Option W := match x with
  | .tup ws => ixI ws y
  | .lst ws => ixI ws y
  | .dct ks ws => ixD (ks.zip ws) y
  | .str z => if z.length ≤ sizeLine then (ixI z.cps.toList y).map fun c => .str ⟨#[c]⟩ else none
  | .h n => (match S[n]? with
    | some (.lst ws) => ixI ws y
    | some (.dct kvs) => ixD kvs y
    | _ => none)
  | _ => none
def wIx : Op2 := fun x y S => opR (ixOf S x y) S
def cutW (ws : List W) (lo hi : Option Int) : List W := (ws.drop (HT.sIx ws.length 0 lo)).take (HT.sIx ws.length ws.length hi - HT.sIx ws.length 0 lo)
def slOf (S : Sto) (x : W) (lo hi : Option Int) : Option W := match x with
  | .tup ws => some (.tup (cutW ws lo hi))
  | .lst ws => some (.lst (cutW ws lo hi))
  | .scr ns => some (.lst (cutW (ns.map W.int) lo hi))
  | .str z => if z.length ≤ sizeLine then some (.str (cutS z lo hi)) else none
  | .h n => (lstAt S n).map fun ws => .lst (cutW ws lo hi)
  | _ => none
abbrev Pv := Env → Sto → R (Option Int)
def pNone : Pv := fun _ S => .ok none S
def asI (w : W) (S : Sto) : R (Option Int) := match w with
  | .int i => .ok (some i) S
  | _ => .bad
def pSome (a : Ev) : Pv := fun env S => (a env S).bind asI
def eSl (a : Ev) (lo hi : Pv) : Ev := fun env S => (a env S).bind fun x S1 => (lo env S1).bind fun l S2 => (hi env S2).bind fun u S3 => opR (slOf S3 x l u) S3
section
variable {g : Kg} {z : Wd}
theorem ixI_at {ws : List W} {vs : List V} {y : W} {v : V} {w : W} (h : ixI ws y = some w) (r : RWs g z ws vs) (ry : RW g z y v) : ∃ i u, v = .int i ∧ atI vs i = some u ∧ RW g z w u := by
  cases ry with
  | int i =>
    have h' : atI ws i = some w := h
    unfold atI at h'
    obtain ⟨j, e1, e2⟩ := Option.bind_eq_some_iff.mp h'
    obtain ⟨u, e3, r3⟩ := r.get e2
    refine ⟨i, u, rfl, ?_, r3⟩
    unfold atI
    rw [← r.length, e1]
    exact e3
  | _ => cases h
theorem ixD_at {kvs : List (Key × W)} {kvs' : List (Key × V)} {y : W} {v : V} {w : W} (h : ixD kvs y = some w) (r : RFs g z kvs kvs') (ry : RW g z y v) : ∃ k u, v = kV k ∧ valV kvs' k = some u ∧ RW g z w u := by
  obtain ⟨k, e1, e2⟩ := Option.bind_eq_some_iff.mp h
  rcases lookW_val k r with ⟨h1, _⟩ | ⟨w', u, h1, h2, h3⟩
  · rw [h1] at e2
    cases e2
  · rw [h1] at e2
    cases e2
    exact ⟨k, u, keyOf_kV e1 ry, h2, h3⟩
theorem RWs.cut {ws : List W} {vs : List V} (lo hi : Option Int) (r : RWs g z ws vs) : RWs g z (cutW ws lo hi) (cutV vs lo hi) := by
  unfold cutW cutV
  rw [r.length]
  exact (r.drop _).take _
end
section
variable {X : Cx} {Wx : WX} {a b : Expr} {fa fb : Ev} {pos p2 : Pos}
theorem ix_dict (hu : X.A.units + 1 < cLine) : IxR X (fun x y H Q => ∃ a v, x = .ref a ∧ DGet H a y (some v) ∧ Q v H) := by
  rintro value slice pins s σ H x y v u Q I rx ry ⟨a, w, rfl, g, q⟩ hs
  cases rx
  exact PyProof.Rows.tail_any (dict_typeIs I g) PySem.F.slot_dict_getitem.lookup (d_getItem hu I g ry fun w' s' I' r' => ⟨w, H, I', r', q⟩) hs
theorem me_ix (hu : X.A.units + 1 < cLine) (ha : ME X Wx a fa) (hb : ME X Wx b fb) (hs : PlainIx b := by exact fun _ _ => rfl) : ME X Wx (.Subscript a b pos) (e2 wIx fa fb) := by
  refine pe_mono (pe_ix (ix_seq.or (ix_dict hu)) ha hb hs) fun σ H Q q => op_red (fun z σ w1 w2 x y Q t r1 r2 o => ?_) q
  obtain ⟨w, e, o'⟩ := opR_some o
  cases r1 with
  | tup h r =>
    obtain ⟨i, u, rfl, e1, r3⟩ := ixI_at (w := w) e r r2
    exact .inl (.inr (.inl ⟨_, _, i, u, rfl, rfl, h.sq, e1, Out.now o' t r3⟩))
  | lst h n r =>
    obtain ⟨i, u, rfl, e1, r3⟩ := ixI_at (w := w) e r r2
    exact .inl (.inl ⟨_, _, i, u, rfl, rfl, SqL.of h, e1, Out.now o' t r3⟩)
  | dct h n l r =>
    obtain ⟨k, u, rfl, e1, r3⟩ := ixD_at (w := w) e (rfs_zip r) r2
    exact .inr ⟨_, u, rfl, e1 ▸ DGet.k h, Out.now o' t r3⟩
  | str s =>
    unfold ixOf at e
    dsimp only at e
    split at e
    · rename_i hl
      obtain ⟨c, e1, rfl⟩ := Option.map_eq_some_iff.mp e
      cases r2 with
      | int i => exact .inl (.inr (.inr ⟨s, i, c, rfl, rfl, hl, e1, Out.now o' t (.str _)⟩))
      | _ => cases e1
    · cases e
  | @h n l =>
    unfold ixOf at e
    dsimp only at e
    split at e
    · rename_i ws e0
      obtain ⟨vs, h, r⟩ := t.lstAt e0
      obtain ⟨i, u, rfl, e1, r3⟩ := ixI_at (w := w) e r r2
      exact .inl (.inl ⟨_, _, i, u, rfl, rfl, SqL.of h, e1, Out.now o' t r3⟩)
    · rename_i kvs e0
      obtain ⟨kvs', h, r⟩ := t.dctAt e0
      obtain ⟨k, u, rfl, e1, r3⟩ := ixD_at (w := w) e r r2
      exact .inr ⟨_, u, rfl, e1 ▸ DGet.k h, Out.now o' t r3⟩
    · cases e
  | _ => cases e
def MP (X : Cx) (Wx : WX) (e : Option Expr) (f : Pv) : Prop := PO X e (tM (gX X) Wx (fun _ a b => a = b) f)
theorem po_mono {e : Option Expr} {t t' : TO} (p : PO X e t) (h : ∀ σ H Q, t' σ H Q → t σ H Q) : PO X e t' := ⟨fun pins s σ H Q I q => p.run pins s σ H Q I (h σ H Q q)⟩
theorem mp_none : MP X Wx none pNone := by
  refine po_mono po_none ?_
  rintro σ H Q ⟨z, env, rfl, t, re, o⟩
  exact Out.now o t rfl
theorem mp_some (ha : ME X Wx a fa) : MP X Wx (some a) (pSome fa) := by
  refine po_mono (po_some ha) ?_
  rintro σ H Q ⟨z, env, rfl, t, re, o⟩
  refine ⟨z, env, rfl, t, re, o.bind fun z1 x w e1 st1 t1 r1 o1 => ?_⟩
  cases r1 <;> first | exact o1.elim | exact ⟨_, rfl, Out.now o1 t1 rfl⟩
theorem me_sl {lo hi : Option Expr} {fl fh : Pv} (ha : ME X Wx a fa) (hl : MP X Wx lo fl) (hh : MP X Wx hi fh) : ME X Wx (.Subscript a (.Slice lo hi none p2) pos) (eSl fa fl fh) := by
  refine pe_mono (pe_slice ((sl_list.or sl_str).or sl_tupA) ha hl hh) ?_
  rintro σ H Q ⟨z, env, rfl, t, re, o⟩
  refine ⟨z, env, rfl, t, re, o.bind fun z1 x w e1 st1 t1 r1 o1 => ⟨z1, env, rfl, t1, re.mono st1, o1.bind fun z2 l l' e2 st2 t2 r2 o2 => ⟨z2, env, rfl, t2, re.mono (st1.trans st2), o2.bind fun z3 u u' e3 st3 t3 r3 o3 => ?_⟩⟩⟩
  cases r2
  cases r3
  have rx := r1.mono (st2.trans st3)
  obtain ⟨y, e, o⟩ := opR_some o3
  cases rx with
  | @tup _ ws _ h r =>
    cases e
    refine .inr ⟨_, _, rfl, h.sq, fun hw => ?_, fun _ p hp => o (z3.new p _) (.ref p) rfl (Step.new t3 hp) (t3.new hp) (newT t3 hp (r.cut _ _))⟩
    have e' : cutW ws l u = ws := by
      unfold cutW
      rw [r.length, hw.1, hw.2, List.drop_zero, Nat.sub_zero, ← r.length, List.take_length]
    rw [e'] at o
    exact o z3 _ rfl (Step.refl _) t3 (.tup h r)
  | lst h n r =>
    cases e
    exact .inl (.inl ⟨_, _, rfl, SqL.of h, fun p hp => o (z3.new p _) (.ref p) rfl (Step.new t3 hp) (t3.new hp) (newL t3 hp (r.cut _ _))⟩)
  | scr h =>
    cases e
    exact .inl (.inl ⟨_, _, rfl, h.sq, fun p hp => o (z3.new p _) (.ref p) rfl (Step.new t3 hp) (t3.new hp) (newL t3 hp ((rws_ints _).cut _ _))⟩)
  | str s =>
    unfold slOf at e
    dsimp only at e
    split at e
    · rename_i hl
      cases e
      exact .inl (.inr ⟨s, rfl, hl, Out.now o t3 (.str _)⟩)
    · cases e
  | @h n l =>
    obtain ⟨ws, e0, rfl⟩ := Option.map_eq_some_iff.mp (show (lstAt z3.S n).map _ = some y from e)
    obtain ⟨vs, h, r⟩ := t3.lstAt (lstAt_eq.mp e0)
    exact .inl (.inl ⟨_, _, rfl, SqL.of h, fun p hp => o (z3.new p _) (.ref p) rfl (Step.new t3 hp) (t3.new hp) (newL t3 hp (r.cut _ _))⟩)
  | _ => cases e
end
end Mi

set_option Elab.async false
set_option linter.all false
set_option maxRecDepth 100000
set_option maxHeartbeats 4000000
namespace Mi
open PySem L2
/-! ### statements -/
def RS.bind (r : RS) (k : Env → Sto → RS) : RS := match r with
  | .next e S => k e S
  | r => r
@[simp] theorem RS.bind_next {e : Env} {S : Sto} {k : Env → Sto → RS} : (RS.next e S).bind k = k e S := rfl
@[simp] theorem RS.bind_ret {w : W} {S : Sto} {k : Env → Sto → RS} : (RS.ret w S).bind k = .ret w S := rfl
@[simp] theorem RS.bind_brk {e : Env} {S : Sto} {k : Env → Sto → RS} : (RS.brk e S).bind k = .brk e S := rfl
@[simp] theorem RS.bind_cont {e : Env} {S : Sto} {k : Env → Sto → RS} : (RS.cont e S).bind k = .cont e S := rfl
@[simp] theorem RS.bind_ex {c : Str} {fs : List (Str × W)} {e : Env} {S : Sto} {k : Env → Sto → RS} : (RS.ex c fs e S).bind k = .ex c fs e S := rfl
@[simp] theorem RS.bind_bad {k : Env → Sto → RS} : (RS.bad).bind k = .bad := rfl
def sNil : Sv := fun env S => .next env S
def sSeq (a b : Sv) : Sv := fun env S => (a env S).bind b
def sSet (i : Nat) (a : Ev) : Sv := fun env S => (a env S).bindS env fun w S1 => .next (env.set i (some w)) S1
def sExpr (a : Ev) : Sv := fun env S => (a env S).bindS env fun _ S1 => .next env S1
def sRet (a : Ev) : Sv := fun env S => (a env S).bindS env fun w S1 => .ret w S1
def sRetN : Sv := fun _ S => .ret .non S
def sBrk : Sv := fun env S => .brk env S
def sCont : Sv := fun env S => .cont env S
def sIf (c : Tv) (a b : Sv) : Sv := fun env S => (c env S).bindS env fun k S1 => if k = true then a env S1 else b env S1
/-- the outcome of the first statement, seen by what comes behind it -/
theorem OutS.seq {g : Kg} {Wx : WX} {z : Wd} {r : RS} {k : Env → Sto → RS} {D D' : Ends} (o : OutS g Wx z (r.bind k) D) (h1 : D'.bk = D.bk) (h2 : D'.ct = D.ct) (h3 : D'.rt = D.rt)
    (h : ∀ z' env' σ', r = .next env' z'.S → Step z z' → Tied g z' → REnv g z' env' σ' → OutS g Wx z' (k env' z'.S) D → D'.nx σ' z'.H) : OutS g Wx z r D' := by
  cases r with
  | next e S =>
    intro z' σ' es st t re
    subst es
    exact h z' e σ' rfl st t re (OutS.step st o)
  | brk e S => intro z' σ' es st t re; rw [h1]; exact o z' σ' es st t re
  | cont e S => intro z' σ' es st t re; rw [h2]; exact o z' σ' es st t re
  | ret w S => intro z' v es st t r; rw [h3]; exact o z' v es st t r
  | ex c fs e S => exact o
  | bad => exact o
theorem OutS.now {g : Kg} {Wx : WX} {z : Wd} {env : Env} {σ : St} {D : Ends} (o : OutS g Wx z (.next env z.S) D) (t : Tied g z) (re : REnv g z env σ) : D.nx σ z.H := o z σ rfl (Step.refl z) t re
section
variable {X : Cx} {Wx : WX} {a b c : Expr} {fa fb fc : Ev} {tc : Tv} {pos pos' : Pos} {st : Stmt} {sts sts' : List Stmt} {f1 f2 : Sv}
theorem mss_nil : MSs X Wx [] sNil := by
  refine pss_mono pss_nil ?_
  rintro D σ H ⟨z, env, rfl, t, re, o⟩
  exact OutS.now o t re
theorem mss_one (h : MS X Wx st f1) : MSs X Wx [st] f1 := pss_one h
theorem mss_cons (h1 : MS X Wx st f1) (h2 : MSs X Wx sts f2) : MSs X Wx (st :: sts) (sSeq f1 f2) := by
  refine pss_mono (pss_cons h1 h2) ?_
  rintro D σ H ⟨z, env, rfl, t, re, o⟩
  refine ⟨z, env, rfl, t, re, OutS.seq o rfl rfl rfl fun z1 e1 σ1 er st1 t1 re1 o1 => ?_⟩
  exact ⟨z1, e1, rfl, t1, re1, o1⟩
theorem ms_set {i : Nat} {x : Str} (hN : X.N.Nodup) (ha : ME X Wx a fa) (hi : X.N[i]? = some x := by rfl) (hx : Loc X.env.scope x := by first | exact Or.inl rfl | exact Or.inr rfl)
    (hs : swapsWith a (some (.Name x pos')) pos.line X.env = pure false := by rfl) (hf : X.fn x = true ∨ X.env.scope.names.lookup x = some .local := by first | exact .inl rfl | exact .inr rfl | assumption) : MS X Wx (.Assign [.Name x pos'] a pos) (sSet i fa) := by
  refine ps_mono (ps_set hN hi hx ha hs hf) ?_
  rintro D σ H ⟨z, env, rfl, t, re, o⟩
  refine ⟨z, env, rfl, t, re, OutS.bind re o fun z1 v w e1 st1 t1 r1 o1 => ?_⟩
  exact OutS.now o1 t1 ((re.mono st1).set i r1)
theorem ms_expr (ha : ME X Wx a fa) (hs : swapsWith a none pos.line X.env = pure false := by rfl) : MS X Wx (.Expr a pos) (sExpr fa) := by
  refine ps_mono (ps_expr ha hs) ?_
  rintro D σ H ⟨z, env, rfl, t, re, o⟩
  refine ⟨z, env, rfl, t, re, OutS.bind re o fun z1 v w e1 st1 t1 r1 o1 => ?_⟩
  exact OutS.now o1 t1 (re.mono st1)
theorem ms_ret (ha : ME X Wx a fa) : MS X Wx (.Return (some a) pos) (sRet fa) := by
  refine ps_mono (ps_ret ha) ?_
  rintro D σ H ⟨z, env, rfl, t, re, o⟩
  refine ⟨z, env, rfl, t, re, OutS.bind re o fun z1 v w e1 st1 t1 r1 o1 => ?_⟩
  exact o1 z1 v rfl (Step.refl _) t1 r1
theorem ms_retN : MS X Wx (.Return none pos) sRetN := by
  refine ps_mono ps_retN ?_
  rintro D σ H ⟨z, env, rfl, t, re, o⟩
  exact o z .non rfl (Step.refl _) t .non
theorem ms_pass : MS X Wx (.Pass pos) sNil := by
  refine ps_mono ps_pass ?_
  rintro D σ H ⟨z, env, rfl, t, re, o⟩
  exact OutS.now o t re
theorem ms_brk : MS X Wx (.Break pos) sBrk := by
  refine ps_mono ps_break ?_
  rintro D σ H ⟨z, env, rfl, t, re, o⟩
  exact o z σ rfl (Step.refl _) t re
theorem ms_cont : MS X Wx (.Continue pos) sCont := by
  refine ps_mono ps_continue ?_
  rintro D σ H ⟨z, env, rfl, t, re, o⟩
  exact o z σ rfl (Step.refl _) t re
theorem ms_if (hc : MT X Wx c tc) (ha : MSs X Wx sts f1) (hb : MSs X Wx sts' f2) : MS X Wx (.If c sts sts' pos) (sIf tc f1 f2) := by
  refine ps_mono (ps_if hc ha hb) ?_
  rintro D σ H ⟨z, env, rfl, t, re, o⟩
  refine ⟨z, env, rfl, t, re, OutS.bind re o fun z1 k k' e1 st1 t1 r1 o1 => ?_⟩
  cases r1
  cases k with
  | true => exact iteT ⟨z1, env, rfl, t1, re.mono st1, o1⟩
  | false => exact iteF ⟨z1, env, rfl, t1, re.mono st1, o1⟩
end

/-! ### for -/
/-- the store of an item: a name; a tuple of names -/
abbrev Gv := W → Env → Sto → RS
def gName (i : Nat) : Gv := fun w env S => .next (env.set i (some w)) S
def setAll : List Nat → List W → Env → Env
  | i :: is, w :: ws, env => setAll is ws (env.set i (some w))
  | _, _, env => env
def gTup (is : List Nat) : Gv := fun w env S => match w with
  | .tup ws => if ws.length = is.length then .next (setAll is ws env) S else .bad
  | _ => .bad
def MG (X : Cx) (e : Expr) (f : Gv) : Prop := ∃ t : TG, PG X e t ∧ ∀ (Wx : WX) (z : Wd) (env : Env) (σ : St) (w : W) (v : V) (D : Ends), Tied (gX X) z → REnv (gX X) z env σ → RW (gX X) z w v → OutS (gX X) Wx z (f w env z.S) D → t v σ z.H D.nx
section
variable {X : Cx} {pos : Pos}
theorem mg_name {i : Nat} {x : Str} (hN : X.N.Nodup) (hi : X.N[i]? = some x := by rfl) (hx : Loc X.env.scope x := by first | exact Or.inl rfl | exact Or.inr rfl) (hf : X.fn x = true ∨ X.env.scope.names.lookup x = some .local := by first | exact .inl rfl | exact .inr rfl | assumption) : MG X (.Name x pos) (gName i) :=
  ⟨_, pg_name hN hi hx hf, fun Wx z env σ w v D t re r o => OutS.now o t (re.set i r)⟩
/-- names in a row -/
def MGs (X : Cx) (es : List Expr) (is : List Nat) : Prop := ∃ t : TGs, PGs X es t ∧ ∀ (z : Wd) (env : Env) (σ : St) (ws : List W) (vs : List V) (Q : St → Hp → Prop), Tied (gX X) z → REnv (gX X) z env σ → RWs (gX X) z ws vs → ws.length = is.length →
  (∀ σ', REnv (gX X) z (setAll is ws env) σ' → Q σ' z.H) → t vs σ z.H Q
theorem mgs_nil : MGs X [] [] := ⟨_, pgs_nil, fun z env σ ws vs Q t re r hl h => by
  cases r with
  | nil => exact ⟨rfl, h σ re⟩
  | cons => cases hl⟩
theorem mgs_cons {e : Expr} {es : List Expr} {i : Nat} {is : List Nat} (h1 : ∃ x pos, e = .Name x pos ∧ PG X (.Name x pos) (L2.gName i)) (h2 : MGs X es is)
    (hs : (assignEach (e :: es) X.env).map (·.2) = assign e X.env :: (assignEach es X.env).map (·.2) := by rfl) : MGs X (e :: es) (i :: is) := by
  obtain ⟨x, pos, rfl, p⟩ := h1
  obtain ⟨t, p2, h2⟩ := h2
  refine ⟨_, pgs_cons p p2 hs, fun z env σ ws vs Q tt re r hl h => ?_⟩
  cases r with
  | nil => cases hl
  | @cons w ws v vs r rs => exact ⟨v, vs, rfl, h2 z _ _ ws vs Q tt (re.set i r) rs (Nat.succ.inj hl) h⟩
theorem gn {i : Nat} {x : Str} {pos : Pos} (hN : X.N.Nodup) (hi : X.N[i]? = some x := by rfl) (hx : Loc X.env.scope x := by first | exact Or.inl rfl | exact Or.inr rfl) (hf : X.fn x = true ∨ X.env.scope.names.lookup x = some .local := by first | exact .inl rfl | exact .inr rfl | assumption) :
    ∃ y p, Expr.Name x pos = .Name y p ∧ PG X (.Name y p) (L2.gName i) := ⟨x, pos, rfl, pg_name hN hi hx hf⟩
theorem mg_tup {es : List Expr} {is : List Nat} {k : Nat} (hc : X.calm = true) (h : MGs X es is) (hn : (assignEach es X.env).length = is.length := by rfl) (hst : (assignEach es X.env).findIdx? (·.1) = none := by rfl) : MG X (.Tuple es k pos) (gTup is) := by
  obtain ⟨t, p, h⟩ := h
  refine ⟨_, pg_tup hc p hn hst, fun Wx z env σ w v D tt re r o => ?_⟩
  cases r with
  | @tup a ws vs hh r =>
    unfold gTup at o
    dsimp only at o
    split at o
    · rename_i hl
      exact ⟨a, vs, rfl, hh.sq, by rw [← r.length]; exact hl, h z env σ ws vs _ tt re r hl fun σ' re' => OutS.now o tt re'⟩
    · exact o.elim
  | _ => exact o.elim
end
/-- target = value -/
def sAsg (g : Gv) (a : Ev) : Sv := fun env S => (a env S).bindS env fun w S1 => g w env S1
theorem ms_asg {X : Cx} {Wx : WX} {tg a : Expr} {fa : Ev} {f : Gv} {pos : Pos} (ha : ME X Wx a fa) (hg : MG X tg f) (hs : swapsWithSole [tg] a pos.line X.env = pure false := by rfl) (hw : swappedStores [tg] a X.env = pure none := by rfl)
    (h1 : (assignEach [tg] X.env).map (·.2) = [assign tg X.env] := by rfl) : MS X Wx (.Assign [tg] a pos) (sAsg f fa) := by
  obtain ⟨tt, p, hg⟩ := hg
  refine ps_mono (ps_asg ha p hs hw h1) ?_
  rintro D σ H ⟨z, env, rfl, t, re, o⟩
  refine ⟨z, env, rfl, t, re, OutS.bind re o fun z1 v w e1 st1 t1 r1 o1 => ?_⟩
  exact hg Wx z1 env σ w v D t1 (re.mono st1) r1 o1

end Mi

set_option Elab.async false
set_option linter.all false
set_option maxRecDepth 100000
set_option maxHeartbeats 4000000
namespace Mi
open PySem L2
/-! ### what is walked: its items, and the list's number where it is one that changes -/
def okN (n : Option Nat) (ws : List W) (S : Sto) : Prop := ∀ k, n = some k → lstAt S k = some ws
@[simp] theorem okN_none (ws : List W) (S : Sto) : okN none ws S ↔ True := ⟨fun _ => trivial, fun _ k e => by cases e⟩
@[simp] theorem okN_some (k : Nat) (ws : List W) (S : Sto) : okN (some k) ws S ↔ lstAt S k = some ws := ⟨fun h => h k rfl, fun h j e => by cases e; exact h⟩
structure Wlk (g : Kg) (z : Wd) (J : It) (ws : List W) (n : Option Nat) : Prop where
  ok : okN n ws z.S
  goes : ∀ z' i, Step0 z z' → Tied g z' → okN n ws z'.S → i < ws.length → J.go i z'.H
  stops : ∀ z', Step0 z z' → Tied g z' → okN n ws z'.S → J.stop ws.length z'.H
  yields : ∀ z' i w x H', Step0 z z' → Tied g z' → okN n ws z'.S → ws[i]? = some w → J.yld i z'.H x H' → ∃ z'', z''.H = H' ∧ z''.S = z'.S ∧ Step z' z'' ∧ Tied g z'' ∧ RW g z'' w x
abbrev rI (g : Kg) : Wd → List W × Option Nat → It → Prop := fun z p J => Wlk g z J p.1 p.2
abbrev Iv := Env → Sto → R (List W × Option Nat)
def MI (X : Cx) (Wx : WX) (tg iter : Expr) (f : Iv) : Prop := ∃ wi, PI X tg iter wi ∧ ∀ σ H R, tM (gX X) Wx (rI (gX X)) f σ H R → wi σ H R
/-- an iterable by its value -/
def IterR (X : Cx) (tg : Expr) (r : V → Hp → (It → Hp → Prop) → Prop) : Prop :=
  ∀ (pins : List (Addr × Obj)) (s : Shared) (σ : St) (H : Hp) (x : V) (v : Value) (R : It → Hp → Prop), Inv X pins σ H s → RelV x v → r x H R → wpAny (model X.prog X.w) X.A (pyIter v) (PIE X pins σ tg R) X.xe s
section
variable {X : Cx} {tg : Expr}
theorem ir_list : IterR X tg (fun x H R => ∃ a xs, x = .ref a ∧ SqL X.K H a xs ∧ R (Itl X.K a) H) := by
  rintro pins s σ H x v R I r ⟨a, xs, rfl, hq, q⟩
  cases r
  obtain ⟨its, rv, p, hz⟩ := I.list hq
  refine wpAny_pyIter_list p.isList ?_
  refine ⟨s.heap.objs.size, [s.heap.objs.size], _, _, H, rfl, I.kept (t' := s.toks) fun b o e => Heap.get?_push_of_some _ e, turn_list a _, ⟨_, Heap.get?_push_size _ rfl, rfl, rfl⟩, fun b hb => ?_, q⟩
  have e : b = s.heap.objs.size := by simpa using hb
  subst e
  exact I.fpOk (Nat.le_refl _) (I.hok.fresh (Nat.le_refl _))
theorem ir_tup : IterR X tg (fun x H R => ∃ a xs, x = .ref a ∧ SqT X.K H a xs ∧ R (Itt X.K a) H) := by
  rintro pins s σ H x v R I r ⟨a, xs, rfl, hq, q⟩
  cases r
  obtain ⟨its, rv, p, hz⟩ := I.tuple hq
  refine wpAny_pyIter_tuple (show s.heap.IsTuple a its.toArray from p) ?_
  refine ⟨s.heap.objs.size, [s.heap.objs.size], _, _, H, rfl, I.kept (t' := s.toks) fun b o e => Heap.get?_push_of_some _ e, turn_tuple a _, ⟨_, Heap.get?_push_size _ rfl, rfl, rfl⟩, fun b hb => ?_, q⟩
  have e : b = s.heap.objs.size := by simpa using hb
  subst e
  exact I.fpOk (Nat.le_refl _) (I.hok.fresh (Nat.le_refl _))
theorem ir_str : IterR X tg (fun x H R => ∃ y, x = .str y ∧ R (Its y) H) := by
  rintro pins s σ H x v R I r ⟨y, rfl, q⟩
  obtain ⟨t, rfl⟩ := r
  cases ha : y.cps.all (· < 128)
  · exact wpAny_pyIter_wide ha (pi_one (tk := s.toks) I _ (turn_str _ y t "str_iterator" (.inr rfl)) ⟨_, Heap.get?_push_size _ rfl, rfl, rfl⟩ q)
  · exact wpAny_pyIter_ascii ha (pi_one (tk := s.toks) I _ (turn_str _ y t "str_ascii_iterator" (.inl rfl)) ⟨_, Heap.get?_push_size _ rfl, rfl, rfl⟩ q)
theorem IterR.or {r r' : V → Hp → (It → Hp → Prop) → Prop} (h : IterR X tg r) (h' : IterR X tg r') : IterR X tg (fun x H R => r x H R ∨ r' x H R) := by
  intro pins s σ H x v R I rx q
  rcases q with q | q
  · exact h pins s σ H x v R I rx q
  · exact h' pins s σ H x v R I rx q
theorem pi_val {l : Expr} {tl : TE} {r : V → Hp → (It → Hp → Prop) → Prop} (hr : IterR X tg r) (hl : PE X l tl) : PI X tg l (fun σ H R => tl σ H fun x H1 => r x H1 R) :=
  ⟨fun pins s σ H R I h => thn (hl.run pins s σ H _ I h) fun v s1 ⟨x, H1, I1, r1, q1⟩ => hr pins s1 σ H1 x v R I1 r1 q1⟩
end
section
variable {g : Kg} {z : Wd}
theorem wlk_tup {a : Addr} {ws : List W} {vs : List V} (h : HasT g z a vs) (r : RWs g z ws vs) : Wlk g z (Itt g.K a) ws none := by
  have at_ : ∀ {z' : Wd}, Step0 z z' → SqT g.K z'.H a vs := fun st => (h.mono0 st).sq
  refine ⟨by simp, fun z' i st t _ hi => ?_, fun z' st t _ => ⟨vs, at_ st, Nat.le_of_eq r.length.symm⟩, fun z' i w x H' st t _ hw y => ?_⟩
  · exact ⟨vs, vs[i]'(by rw [← r.length]; exact hi), at_ st, List.getElem?_eq_getElem _⟩
  · obtain ⟨rfl, y⟩ := y
    obtain ⟨v, e, rv⟩ := r.get hw
    have := y vs (at_ st)
    rw [e] at this
    cases this
    exact ⟨z', rfl, rfl, Step.refl _, t, rv.mono0 st⟩
theorem wlk_lst {a : Addr} {ws : List W} {vs : List V} (h : z.H a = some (.lst vs)) (n : ¬ Live z a) (r : RWs g z ws vs) : Wlk g z (Itl g.K a) ws none := by
  have at_ : ∀ {z' : Wd}, Step0 z z' → SqL g.K z'.H a vs := fun st => SqL.of (st.stay _ _ h n).1
  refine ⟨by simp, fun z' i st t _ hi => ?_, fun z' st t _ => ⟨vs, at_ st, Nat.le_of_eq r.length.symm⟩, fun z' i w x H' st t _ hw y => ?_⟩
  · exact ⟨vs, vs[i]'(by rw [← r.length]; exact hi), at_ st, List.getElem?_eq_getElem _⟩
  · obtain ⟨rfl, y⟩ := y
    obtain ⟨v, e, rv⟩ := r.get hw
    have := y vs (at_ st)
    rw [e] at this
    cases this
    exact ⟨z', rfl, rfl, Step.refl _, t, rv.mono0 st⟩
theorem wlk_lstH {k : Nat} {ws : List W} (h : lstAt z.S k = some ws) (hk : k < z.S.length) : Wlk g z (Itl g.K (z.m k)) ws (some k) := by
  have at_ : ∀ {z' : Wd}, Step0 z z' → Tied g z' → okN (some k) ws z'.S → ∃ vs, SqL g.K z'.H (z.m k) vs ∧ RWs g z' ws vs := fun st t o => by
    obtain ⟨vs, e, r⟩ := t.lstAt (lstAt_eq.mp (o k rfl))
    rw [st.agree k hk] at e
    exact ⟨vs, SqL.of e, r⟩
  refine ⟨by simpa using h, fun z' i st t o hi => ?_, fun z' st t o => ?_, fun z' i w x H' st t o hw y => ?_⟩
  · obtain ⟨vs, e, r⟩ := at_ st t o
    exact ⟨vs, vs[i]'(by rw [← r.length]; exact hi), e, List.getElem?_eq_getElem _⟩
  · obtain ⟨vs, e, r⟩ := at_ st t o
    exact ⟨vs, e, Nat.le_of_eq r.length.symm⟩
  · obtain ⟨rfl, y⟩ := y
    obtain ⟨vs, e, r⟩ := at_ st t o
    obtain ⟨v, e1, rv⟩ := r.get hw
    have := y vs e
    rw [e1] at this
    cases this
    exact ⟨z', rfl, rfl, Step.refl _, t, rv⟩
def signs (x : Str) : List W := x.cps.toList.map fun c => W.str ⟨#[c]⟩
theorem wlk_str {x : Str} : Wlk g z (Its x) (signs x) none := by
  have hl : (signs x).length = x.cps.size := by simp [signs]
  refine ⟨by simp, fun z' i st t _ hi => by rw [hl] at hi; exact hi, fun z' st t _ => by rw [hl]; exact Nat.le_refl _, fun z' i w v H' st t _ hw y => ?_⟩
  obtain ⟨rfl, c, e, rfl⟩ := y
  unfold signs at hw
  rw [List.getElem?_map, Array.getElem?_toList, e] at hw
  cases hw
  exact ⟨z', rfl, rfl, Step.refl _, t, .str _⟩
def rangeW (lo : Int) (n : Nat) : List W := (List.range n).map fun i => W.int (lo + (i : Nat))
theorem wlk_range {lo : Int} {n : Nat} : Wlk g z (Itr lo n) (rangeW lo n) none := by
  have hl : (rangeW lo n).length = n := by simp [rangeW]
  refine ⟨by simp, fun z' i st t _ hi => by rw [hl] at hi; exact hi, fun z' st t _ => by rw [hl]; exact Nat.le_refl _, fun z' i w v H' st t _ hw y => ?_⟩
  obtain ⟨rfl, rfl⟩ := y
  unfold rangeW at hw
  rw [List.getElem?_map] at hw
  obtain ⟨j, e, rfl⟩ := Option.map_eq_some_iff.mp hw
  have : j = i := by
    rw [List.getElem?_range (by
      have := (List.getElem?_eq_some_iff.mp e).1
      simpa using this)] at e
    exact (Option.some.inj e).symm
  subst this
  exact ⟨z', rfl, rfl, Step.refl _, t, .int _⟩
end
def itemsOf (w : W) (S : Sto) : R (List W × Option Nat) := match w with
  | .tup ws => .ok (ws, none) S
  | .lst ws => .ok (ws, none) S
  | .str x => .ok (signs x, none) S
  | .h n => opR ((lstAt S n).map fun ws => (ws, some n)) S
  | _ => .bad
def iVal (a : Ev) : Iv := fun env S => (a env S).bind itemsOf
def iRange1 (a : Av) : Iv := fun env S => (a env S).bind fun ws S1 => match ws with
  | [.int j] => if -(2 ^ 62) ≤ j ∧ j < 2 ^ 62 then .ok (rangeW 0 j.toNat, none) S1 else .bad
  | _ => .bad
def iRange2 (a : Av) : Iv := fun env S => (a env S).bind fun ws S1 => match ws with
  | [.int i, .int j] => if (-(2 ^ 62) ≤ i ∧ i < 2 ^ 62) ∧ (-(2 ^ 62) ≤ j ∧ j < 2 ^ 62) then .ok (rangeW i (j - i).toNat, none) S1 else .bad
  | _ => .bad
section
variable {X : Cx} {Wx : WX} {tg l a b : Expr} {fl : Ev} {fa : Av} {p pos : Pos}
theorem mi_val (hl : ME X Wx l fl) : MI X Wx tg l (iVal fl) := by
  refine ⟨_, pi_val (ir_list.or (ir_tup.or ir_str)) hl, ?_⟩
  rintro σ H R ⟨z, env, rfl, t, re, o⟩
  refine ⟨z, env, rfl, t, re, o.bind fun z1 x w e1 st1 t1 r1 o1 => ?_⟩
  cases r1 with
  | tup h r => exact .inr (.inl ⟨_, _, rfl, h.sq, Out.now o1 t1 (wlk_tup h r)⟩)
  | lst h n r => exact .inl ⟨_, _, rfl, SqL.of h, Out.now o1 t1 (wlk_lst h n r)⟩
  | str y => exact .inr (.inr ⟨y, rfl, Out.now o1 t1 wlk_str⟩)
  | @h n hn =>
    obtain ⟨q, e, o⟩ := opR_some o1
    obtain ⟨ws, e2, rfl⟩ := Option.map_eq_some_iff.mp e
    obtain ⟨vs, e3, r⟩ := t1.lstAt (lstAt_eq.mp e2)
    exact .inl ⟨_, _, rfl, SqL.of e3, Out.now o t1 (wlk_lstH e2 hn)⟩
  | _ => exact o1.elim
theorem mi_range1 (hm : X.mg "range" = none) (ha : MA X Wx [a] fa) (hg : Gl X "range" := by rfl) (hs : starEach [a] X.env = [(false, eval a X.env)] := by rfl) : MI X Wx tg (.Call (.Name "range" p) [a] [] pos) (iRange1 fa) := by
  refine ⟨_, pi_range1 hg hm ha hs, ?_⟩
  rintro σ H R ⟨z, env, rfl, t, re, o⟩
  refine ⟨z, env, rfl, t, re, o.bind fun z1 xs ws e1 st1 t1 r1 o1 => ?_⟩
  cases r1 with
  | nil => exact o1.elim
  | cons r rs =>
    cases r <;> first | exact o1.elim | skip
    cases rs with
    | cons => exact o1.elim
    | nil =>
      dsimp only at o1
      split at o1
      · rename_i h
        exact ⟨_, rfl, h.1, h.2, Out.now o1 t1 wlk_range⟩
      · exact o1.elim
theorem mi_range2 (hm : X.mg "range" = none) (ha : MA X Wx [a, b] fa) (hg : Gl X "range" := by rfl) (hs : starEach [a, b] X.env = [(false, eval a X.env), (false, eval b X.env)] := by rfl) (hs2 : starEach [b] X.env = [(false, eval b X.env)] := by rfl) :
    MI X Wx tg (.Call (.Name "range" p) [a, b] [] pos) (iRange2 fa) := by
  refine ⟨_, pi_range2 hg hm ha hs hs2, ?_⟩
  rintro σ H R ⟨z, env, rfl, t, re, o⟩
  refine ⟨z, env, rfl, t, re, o.bind fun z1 xs ws e1 st1 t1 r1 o1 => ?_⟩
  cases r1 with
  | nil => exact o1.elim
  | cons r rs =>
    cases r <;> first | exact o1.elim | skip
    cases rs with
    | nil => exact o1.elim
    | cons r2 rs =>
      cases r2 <;> first | exact o1.elim | skip
      cases rs with
      | cons => exact o1.elim
      | nil =>
        dsimp only at o1
        split at o1
        · rename_i h
          exact ⟨_, _, rfl, ⟨h.1.1, h.1.2, h.2.1, h.2.2⟩, Out.now o1 t1 wlk_range⟩
        · exact o1.elim
end

/-! ### for -/
open Classical in
/-- the turns -/
noncomputable def forW (f : Gv) (b : Sv) (n : Option Nat) (all : List W) : List W → Sv
  | [], env, S => if okN n all S then .next env S else .bad
  | w :: ws, env, S => if okN n all S then (match f w env S with
    | .next e1 S1 => (match b e1 S1 with
      | .next e2 S2 => forW f b n all ws e2 S2
      | .cont e2 S2 => forW f b n all ws e2 S2
      | .brk e2 S2 => .next e2 S2
      | r => r)
    | _ => .bad) else .bad
noncomputable def sFor (i : Iv) (f : Gv) (b : Sv) : Sv := fun env S => (i env S).bindS env fun p S1 => forW f b p.2 p.1 p.1 env S1
theorem ms_for {X : Cx} {Wx : WX} {tg iter : Expr} {body : List Stmt} {fi : Iv} {f : Gv} {fb : Sv} {pos : Pos} (hp : PassesOwn (model X.prog X.w) X.A X.env X.xe) (hc : X.calm = true) (hi : MI X Wx tg iter fi) (hg : MG X tg f) (hb : MSs X Wx body fb)
    (hs : ∀ x, foldedSetIterable iter X.env x = pure x := by intro _; rfl) : MS X Wx (.For tg iter body [] pos) (sFor fi f fb) := by
  obtain ⟨wi, pi, hi⟩ := hi
  obtain ⟨tg', pg, hg⟩ := hg
  refine ps_mono (ps_for hp hc pi pg hb hs) ?_
  rintro D σ H ⟨z, env, rfl, t, re, o⟩
  refine hi σ z.H _ ⟨z, env, rfl, t, re, OutS.bind re o fun z1 J pr e1 st1 t1 wk o1 => ?_⟩
  obtain ⟨ws, n⟩ := pr
  dsimp only at wk o1
  refine ⟨fun i m σ' H' => m = ws.length - i ∧ i ≤ ws.length ∧ ∃ z2 env2, z2.H = H' ∧ Step0 z1 z2 ∧ Tied (gX X) z2 ∧ REnv (gX X) z2 env2 σ' ∧ OutS (gX X) Wx z2 (forW f fb n ws (ws.drop i) env2 z2.S) D,
    ⟨ws.length, by simp, Nat.zero_le _, z1, env, rfl, Step0.refl _, t1, re.mono st1, o1⟩, ?_⟩
  rintro i m σ' H' ⟨rfl, hi, z2, env2, rfl, st2, t2, re2, o2⟩
  by_cases hlt : i < ws.length
  · rw [List.drop_eq_getElem_cons hlt] at o2
    unfold forW at o2
    split at o2
    · rename_i hok
      refine .inr ⟨wk.goes z2 i st2 t2 hok hlt, fun σ3 H3 => ∃ z3 env3, z3.H = H3 ∧ Step0 z1 z3 ∧ Tied (gX X) z3 ∧ REnv (gX X) z3 env3 σ3 ∧ OutS (gX X) Wx z3 (forW f fb n ws (ws.drop (i + 1)) env3 z3.S) D,
        fun σ3 H3 h3 => ⟨ws.length - (i + 1), by omega, rfl, hlt, h3⟩, fun x H3 y => ?_⟩
      obtain ⟨z3, rfl, eS, st3, t3, r3⟩ := wk.yields z2 i ws[i] x H3 st2 t2 hok (List.getElem?_eq_getElem hlt) y
      have o3 := OutS.step st3 o2
      rw [← eS] at o3
      cases hf : f ws[i] env2 z3.S with
      | next e4 S4 =>
        rw [hf] at o3
        dsimp only at o3
        refine hg Wx z3 env2 σ' ws[i] x { nx := fun σ2 H2 => tMS (gX X) Wx fb { D with nx := fun σ3 H3 => ∃ z3 env3, z3.H = H3 ∧ Step0 z1 z3 ∧ Tied (gX X) z3 ∧ REnv (gX X) z3 env3 σ3 ∧ OutS (gX X) Wx z3 (forW f fb n ws (ws.drop (i + 1)) env3 z3.S) D, ct := fun σ3 H3 => ∃ z3 env3, z3.H = H3 ∧ Step0 z1 z3 ∧ Tied (gX X) z3 ∧ REnv (gX X) z3 env3 σ3 ∧ OutS (gX X) Wx z3 (forW f fb n ws (ws.drop (i + 1)) env3 z3.S) D, bk := D.nx } σ2 H2, rt := D.rt } t3 (re2.mono st3) r3 ?_
        rw [hf]
        intro z4 σ4 eS4 st4 t4 re4
        subst eS4
        refine ⟨z4, e4, rfl, t4, re4, ?_⟩
        have o4 := OutS.step st4 o3
        cases hb' : fb e4 z4.S with
        | next e5 S5 =>
          rw [hb'] at o4
          intro z5 σ5 eS5 st5 t5 re5
          subst eS5
          exact ⟨z5, e5, rfl, (st2.trans st3.toStep0).trans (st4.trans st5).toStep0, t5, re5, OutS.step st5 o4⟩
        | cont e5 S5 =>
          rw [hb'] at o4
          intro z5 σ5 eS5 st5 t5 re5
          subst eS5
          exact ⟨z5, e5, rfl, (st2.trans st3.toStep0).trans (st4.trans st5).toStep0, t5, re5, OutS.step st5 o4⟩
        | brk e5 S5 =>
          rw [hb'] at o4
          exact fun z5 σ5 eS5 st5 t5 re5 => o4 z5 σ5 eS5 st5 t5 re5
        | ret w5 S5 =>
          rw [hb'] at o4
          exact o4
        | ex c fs e5 S5 =>
          rw [hb'] at o4
          exact o4
        | bad =>
          rw [hb'] at o4
          exact o4
      | _ =>
        rw [hf] at o3
        exact o3.elim
    · exact o2.elim
  · have e : i = ws.length := by omega
    subst e
    rw [List.drop_length] at o2
    unfold forW at o2
    split at o2
    · rename_i hok
      exact .inl ⟨wk.stops z2 st2 t2 hok, OutS.now o2 t2 re2⟩
    · exact o2.elim
end Mi

set_option Elab.async false
set_option linter.all false
set_option maxRecDepth 100000
set_option maxHeartbeats 4000000
namespace Mi
open PySem L2
abbrev W0 : WX := fun _ _ _ _ => False
def R.noEx {α : Type} (r : R α) : R α := match r with
  | .ok a S => .ok a S
  | _ => .bad
@[simp] theorem R.noEx_ok {α : Type} {a : α} {S : Sto} : (R.ok a S).noEx = .ok a S := rfl
@[simp] theorem R.noEx_ex {α : Type} {c : Str} {fs : List (Str × W)} {S : Sto} : (R.ex c fs S : R α).noEx = .bad := rfl
@[simp] theorem R.noEx_bad {α : Type} : (R.bad : R α).noEx = .bad := rfl
def wipeE (env : Env) : List Nat → Env
  | [] => env
  | v :: vs => (wipeE env vs).set v none
theorem wipeE_length (env : Env) : ∀ vs : List Nat, (wipeE env vs).length = env.length
  | [] => rfl
  | v :: vs => by unfold wipeE; rw [List.length_set, wipeE_length env vs]
theorem REnv.none {g : Kg} {z : Wd} {env : Env} {σ : St} (i : Nat) (h : REnv g z env σ) : REnv g z (env.set i none) (σ.set i none) := by
  refine ⟨by simp [h.len], fun j u e => ?_⟩
  by_cases hj : i = j
  · subst hj
    by_cases hl : i < env.length
    · rw [List.getElem?_set_self hl] at e
      cases e
    · rw [List.getElem?_eq_none (by simpa using hl)] at e
      cases e
  · rw [List.getElem?_set_ne hj] at e ⊢
    exact h.at_ j u e
theorem REnv.wipe {g : Kg} {z : Wd} {env : Env} {σ : St} (h : REnv g z env σ) : ∀ vs : List Nat, REnv g z (wipeE env vs) (L2.wipe σ vs)
  | [] => h
  | v :: vs => (h.wipe vs).none v
theorem wipe_set {σ : St} {i : Nat} {x : Option V} : ∀ {vs : List Nat}, i ∈ vs → L2.wipe (σ.set i x) vs = L2.wipe σ vs
  | v :: vs, h => by
    unfold L2.wipe
    by_cases hi : i ∈ vs
    · rw [wipe_set hi]
    · have e : i = v := (List.mem_cons.mp h).resolve_right hi
      subst e
      have key : ∀ vs : List Nat, (L2.wipe (σ.set i x) vs).set i Option.none = (L2.wipe σ vs).set i Option.none := fun vs => by
        induction vs with
        | nil => exact List.set_set ..
        | cons u us ih =>
          unfold L2.wipe
          by_cases hu : u = i
          · subst hu
            rw [ih]
          · rw [List.set_comm _ _ hu, ih, List.set_comm _ _ (Ne.symm hu)]
      exact key vs
theorem set_none_wipe {σ : St} (v : Nat) : ∀ vs : List Nat, L2.wipe (σ.set v Option.none) vs = (L2.wipe σ vs).set v Option.none
  | [] => rfl
  | u :: us => by
    unfold L2.wipe
    rw [set_none_wipe v us]
    by_cases h : u = v
    · subst h
      rw [List.set_set]
    · exact List.set_comm _ _ (Ne.symm h)
theorem wipe_wipe {σ : St} : ∀ vs : List Nat, L2.wipe (L2.wipe σ vs) vs = L2.wipe σ vs
  | [] => rfl
  | v :: vs => by
    show (L2.wipe ((L2.wipe σ vs).set v Option.none) vs).set v Option.none = (L2.wipe σ vs).set v Option.none
    rw [set_none_wipe, List.set_set, wipe_wipe vs]
open Classical in
noncomputable def lcW (f : Gv) (t : Tv) (e : Ev) (n : Option Nat) (all : List W) (env : Env) : List W → List W → Sto → R (List W)
  | [], acc, S => if okN n all S then .ok acc S else .bad
  | w :: ws, acc, S => if okN n all S then (match f w env S with
    | .next e1 S1 => ((t e1 S1).noEx).bind fun k S2 => if k = true then ((e e1 S2).noEx).bind fun x S3 => if acc.length < sizeLine then lcW f t e n all env ws (acc ++ [x]) S3 else .bad else lcW f t e n all env ws acc S2
    | _ => .bad) else .bad
abbrev finL (ws : List W) (S : Sto) : R W := .ok (.lst ws) S
abbrev finH (ws : List W) (S : Sto) : R W := .ok (.h S.length) (S ++ [.lst ws])
noncomputable def eLc0 (fin : List W → Sto → R W) (vs : List Nat) (i : Iv) (f : Gv) (t : Tv) (e : Ev) : Ev := fun env S => (i env S).bind fun p S1 => (lcW f t e p.2 p.1 (wipeE env vs) p.1 [] S1).bind fin
noncomputable abbrev eLc := eLc0 finL
noncomputable abbrev eLcH := eLc0 finH
def tYes : Tv := fun _ S => .ok true S
/-- the store of an item within a comprehension -/
def MGb (X : Cx) (scope : Scope) (tg : Expr) (f : Gv) (vs : List Nat) : Prop := ∃ t : TG, (∀ (s : Shared) (H : Hp) (C : Addr) (cl : List (Str × Addr)) (fp : List Addr), PG (X.blk s H scope (compEnvC scope cl C X.env) fp) tg t) ∧
  ∀ (z : Wd) (env : Env) (σ : St) (w : W) (v : V) (e1 : Env) (S1 : Sto) (Q : St → Hp → Prop), Tied (gX X) z → REnv (gX X) z env σ → RW (gX X) z w v → f w env z.S = .next e1 S1 →
    (S1 = z.S → ∀ σ', REnv (gX X) z e1 σ' → wipe σ' vs = wipe σ vs → Q σ' z.H) → t v σ z.H Q
def MTs (X : Cx) (Wx : WX) (es : List Expr) (f : Tv) : Prop := PTs X es (tM (gX X) Wx rB f)
section
variable {X : Cx} {Wx : WX}
theorem mts_nil : MTs X Wx [] tYes := ⟨fun pins s σ H Q I h => by
  obtain ⟨z, env, rfl, t, re, o⟩ := h
  exact pts_nil.run pins s σ z.H Q I (Out.now o t rfl)⟩
theorem mts_one {c : Expr} {f : Tv} (h : MT X Wx c f) : MTs X Wx [c] f := pts_one h
theorem mgb_name {scope : Scope} {x : Str} {i : Nat} {pos : Pos} {vs : List Nat} (hN : X.N.Nodup) (hv : i ∈ vs) (h : ∀ (s : Shared) (H : Hp) (C : Addr) (cl : List (Str × Addr)) (fp : List Addr), PG (X.blk s H scope (compEnvC scope cl C X.env) fp) (.Name x pos) (L2.gName i)) : MGb X scope (.Name x pos) (gName i) vs := by
  refine ⟨_, h, fun z env σ w v e1 S1 Q t re r e q => ?_⟩
  cases e
  exact q rfl _ (re.set i r) (wipe_set hv)
def MGsb (X : Cx) (scope : Scope) (es : List Expr) (is vs : List Nat) : Prop := ∃ t : TGs, (∀ (s : Shared) (H : Hp) (C : Addr) (cl : List (Str × Addr)) (fp : List Addr), PGs (X.blk s H scope (compEnvC scope cl C X.env) fp) es t) ∧
  ∀ (z : Wd) (env : Env) (σ : St) (ws : List W) (us : List V) (Q : St → Hp → Prop), Tied (gX X) z → REnv (gX X) z env σ → RWs (gX X) z ws us → ws.length = is.length →
    (∀ σ', REnv (gX X) z (setAll is ws env) σ' → wipe σ' vs = wipe σ vs → Q σ' z.H) → t us σ z.H Q
theorem mgsb_nil {scope : Scope} {vs : List Nat} : MGsb X scope [] [] vs := ⟨_, fun _ _ _ _ _ => pgs_nil, fun z env σ ws us Q t re r hl h => by
  cases r with
  | nil => exact ⟨rfl, h σ re rfl⟩
  | cons => cases hl⟩
theorem mgsb_cons {scope : Scope} {vs is : List Nat} {x : Str} {pos : Pos} {i : Nat} {es : List Expr} (hv : i ∈ vs) (h1 : ∀ (s : Shared) (H : Hp) (C : Addr) (cl : List (Str × Addr)) (fp : List Addr), PG (X.blk s H scope (compEnvC scope cl C X.env) fp) (.Name x pos) (L2.gName i)) (h2 : MGsb X scope es is vs)
    (hs : ∀ C cl, (assignEach (.Name x pos :: es) (compEnvC scope cl C X.env)).map (·.2) = assign (.Name x pos) (compEnvC scope cl C X.env) :: (assignEach es (compEnvC scope cl C X.env)).map (·.2) := by intros; rfl) : MGsb X scope (.Name x pos :: es) (i :: is) vs := by
  obtain ⟨t, p2, h2⟩ := h2
  refine ⟨_, fun s H C cl fp => pgs_cons (h1 s H C cl fp) (p2 s H C cl fp) (hs C cl), fun z env σ ws us Q tt re r hl h => ?_⟩
  cases r with
  | nil => cases hl
  | @cons w ws v us r rs => exact ⟨v, us, rfl, h2 z _ _ ws us Q tt (re.set i r) rs (Nat.succ.inj hl) fun σ' re' e' => h σ' re' (e'.trans (wipe_set hv))⟩
theorem mgb_tup {scope : Scope} {es : List Expr} {is vs : List Nat} {k : Nat} {pos : Pos} (hc : X.calm = true) (h : MGsb X scope es is vs) (hn : ∀ C cl, (assignEach es (compEnvC scope cl C X.env)).length = is.length := by intros; rfl)
    (hst : ∀ C cl, (assignEach es (compEnvC scope cl C X.env)).findIdx? (·.1) = none := by intros; rfl) : MGb X scope (.Tuple es k pos) (gTup is) vs := by
  obtain ⟨t, p, h⟩ := h
  refine ⟨L2.gTup X.K is.length t, fun s H C cl fp => pg_tup (X := X.blk s H scope (compEnvC scope cl C X.env) fp) hc (p s H C cl fp) (hn C cl) (hst C cl), fun z env σ w v e1 S1 Q tt re r e q => ?_⟩
  cases r with
  | @tup a ws us hh r =>
    unfold gTup at e
    dsimp only at e
    split at e
    · rename_i hl
      cases e
      exact ⟨a, us, rfl, hh.sq, by rw [← r.length]; exact hl, h z env σ ws us _ tt re r hl fun σ' re' e' => q rfl σ' re' e'⟩
    · cases e
  | _ => cases e
/-- what a new object is handed on as -/
def FinG {α : Type} (g : Kg) (rel : Wd → α → HO → Prop) (fin : α → Sto → R W) : Prop := ∀ (Wx : WX) (z1 z2 : Wd) (σ : St) (D : Addr) (acc : α) (o : HO) (Q : VK), z1.H D = none → Tied g z1 → Step0 z1 z2 → Tied g z2 → z2.own = (fun a => a = D ∨ z1.own a) → (∀ a, z1.own a → z2.H a = z1.H a) →
  z2.H D = some o → rel z2 acc o → Out g Wx (RW g) z1 σ (fin acc z2.S) Q → Q (.ref D) z2.H
abbrev rL (g : Kg) : Wd → List W → HO → Prop := fun z ws o => ∃ vs, o = .lst vs ∧ RWs g z ws vs
abbrev rD (g : Kg) : Wd → List (Key × W) → HO → Prop := fun z kvs o => ∃ kvs', o = .dK kvs' ∧ RFs g z kvs kvs'
abbrev FinOk (g : Kg) (fin : List W → Sto → R W) : Prop := FinG g (rL g) fin
theorem fin_back {g : Kg} {z1 z2 : Wd} {D : Addr} (st : Step0 z1 z2) (t1 : Tied g z1) (t2 : Tied g z2) (hD : z1.H D = none) (ho : z2.own = (fun a => a = D ∨ z1.own a)) (hk : ∀ a, z1.own a → z2.H a = z1.H a) :
    Step z1 (z2.back z1.own) ∧ Tied g (z2.back z1.own) ∧ Step0 z2 (z2.back z1.own) ∧ ¬ Live (z2.back z1.own) D := by
  have sub : ∀ a, z1.own a → z2.own a := fun a h => by rw [ho]; exact .inr h
  have hD2 : z2.own D := by rw [ho]; exact .inl rfl
  refine ⟨⟨st.trans (Step0.back sub), rfl, hk⟩, t2.back sub, Step0.back sub, fun l => ?_⟩
  rcases l with ⟨n, o, e, ne, q⟩ | l
  · exact t2.off n o e ne (q ▸ hD2)
  · exact t1.own D l hD
theorem fin_data {α : Type} {g : Kg} {rel : Wd → α → HO → Prop} {wf : α → W} (hrw : ∀ (z z' : Wd) (p : Addr) (a : α) (o : HO), Step0 z z' → z'.H p = some o → ¬ Live z' p → rel z a o → RW g z' (wf a) (.ref p)) : FinG g rel (fun a S => .ok (wf a) S) := by
  intro Wx z1 z2 σ D acc ob Q hD t1 st t2 ho hk h2 r o
  obtain ⟨s1, tb, s0, nl⟩ := fin_back st t1 t2 hD ho hk
  exact o (z2.back z1.own) (.ref D) rfl s1 tb (hrw _ _ _ _ _ s0 h2 nl r)
theorem fin_obj {α : Type} {g : Kg} {rel : Wd → α → HO → Prop} {of : α → Ob} (hro : ∀ (z z' : Wd) (p : Addr) (a : α) (o : HO), Step0 z z' → rel z a o → RO g z' p (of a) o) : FinG g rel (fun a S => .ok (.h S.length) (S ++ [of a])) := by
  intro Wx z1 z2 σ D acc ob Q hD t1 st t2 ho hk h2 r o
  have hD2 : z2.own D := by rw [ho]; exact .inl rfl
  have offD : ∀ n u, z2.S[n]? = some u → u ≠ .gone → z2.m n ≠ D := fun n u e ne q => t2.off n u e ne (q ▸ hD2)
  have old : ∀ (n : Nat) (u : Ob), (z2.S ++ [of acc])[n]? = some u → (n < z2.S.length ∧ z2.S[n]? = some u) ∨ (n = z2.S.length ∧ u = of acc) := fun n u e => by
    rcases Nat.lt_or_ge n z2.S.length with l | l
    · exact .inl ⟨l, by rw [List.getElem?_append_left l] at e; exact e⟩
    · rw [List.getElem?_append_right l] at e
      cases hk : n - z2.S.length with
      | zero => rw [hk] at e; exact .inr ⟨by omega, (Option.some.inj e).symm⟩
      | succ k => rw [hk] at e; simp at e
  let z' : Wd := { m := fun n => if n = z2.S.length then D else z2.m n, S := z2.S ++ [of acc], H := z2.H, own := z1.own }
  have mp : z'.m z2.S.length = D := if_pos rfl
  have mo : ∀ n, n < z2.S.length → z'.m n = z2.m n := fun n l => if_neg (Nat.ne_of_lt l)
  have live : ∀ a, Live z' a → Live z2 a := fun a l => by
    rcases l with ⟨n, u, e, ne, q⟩ | l
    · rcases old n u e with ⟨l, e1⟩ | ⟨rfl, rfl⟩
      · exact .inl ⟨n, u, e1, ne, (mo n l).symm.trans q⟩
      · rw [mp] at q
        subst q
        exact .inr hD2
    · exact .inr (by rw [ho]; exact .inr l)
  have s0 : Step0 z2 z' := ⟨by show _ ≤ (z2.S ++ [of acc]).length; simp, mo, fun a u e n => ⟨e, fun l => n (live a l)⟩⟩
  have tz : Tied g z' := by
    refine ⟨fun n u e ne => ?_, fun n n' u u' e ne e' ne' q => ?_, fun a l => t2.own a (by rw [ho]; exact .inr l), fun n u e ne => ?_⟩
    · rcases old n u e with ⟨l, e1⟩ | ⟨rfl, rfl⟩
      · obtain ⟨hoo, q, r1⟩ := t2.at_ n u e1 ne
        rw [mo n l]
        exact ⟨hoo, q, r1.mono0 s0⟩
      · rw [mp]
        exact ⟨ob, h2, hro _ _ _ _ _ s0 r⟩
    · rcases old n u e with ⟨l, e1⟩ | ⟨rfl, rfl⟩ <;> rcases old n' u' e' with ⟨l', e1'⟩ | ⟨rfl, rfl⟩
      · rw [mo n l, mo n' l'] at q
        exact t2.inj n n' u u' e1 ne e1' ne' q
      · rw [mo n l, mp] at q
        exact (offD n u e1 ne q).elim
      · rw [mo n' l', mp] at q
        exact (offD n' u' e1' ne' q.symm).elim
      · rfl
    · rcases old n u e with ⟨l, e1⟩ | ⟨rfl, rfl⟩
      · rw [mo n l]
        exact fun q => t2.off n u e1 ne (by rw [ho]; exact .inr q)
      · rw [mp]
        exact fun q => t1.own D q hD
  have s1 : Step z1 z' := ⟨st.trans s0, rfl, hk⟩
  refine o z' (.ref D) rfl s1 tz ?_
  have := RW.h (g := g) (z := z') (n := z2.S.length) (by show _ < (z2.S ++ [of acc]).length; simp)
  rw [mp] at this
  exact this
def finD (kvs : List (Key × W)) (S : Sto) : R W := .ok (.dct (kvs.map (·.1)) (kvs.map (·.2))) S
def finDH (kvs : List (Key × W)) (S : Sto) : R W := .ok (.h S.length) (S ++ [.dct kvs])
theorem fin_lst {g : Kg} : FinOk g finL := fin_data (wf := W.lst) fun z z' p a o st h n ⟨vs, e, r⟩ => by
  subst e
  exact .lst h n (r.mono0 st)
theorem fin_h {g : Kg} : FinOk g finH := fin_obj (of := Ob.lst) fun z z' p a o st ⟨vs, e, r⟩ => by
  subst e
  exact .lst (r.mono0 st)
theorem fin_d {g : Kg} : FinG g (rD g) finD := fin_data (wf := fun kvs : List (Key × W) => W.dct (kvs.map (·.1)) (kvs.map (·.2))) fun z z' p a o st h n ⟨vs, e, r⟩ => by
  subst e
  obtain ⟨h1, h2, h3⟩ := rfs_split r
  exact .dct (by rw [h2]; exact h) n (by rw [List.length_map, List.length_map]; exact h3) (h1.mono0 st)
theorem fin_dh {g : Kg} : FinG g (rD g) finDH := fin_obj (of := Ob.dct) fun z z' p a o st ⟨vs, e, r⟩ => by
  subst e
  exact .dct (r.mono0 st)
end
section
variable {X : Cx} {Wx : WX} {tg iter elt : Expr} {ifs : List Expr} {scope : Scope} {own : List (Str × Nat)} {fi : Iv} {f : Gv} {ft : Tv} {fe : Ev} {pos : Pos} {fin : List W → Sto → R W}
theorem lc_red {wi : TI} {t : TG} (hfin : FinOk (gX X) fin) (hi : ∀ σ H R, tM (gX X) Wx (rI (gX X)) fi σ H R → wi σ H R)
    (hg : ∀ (z : Wd) (env : Env) (σ : St) (w : W) (v : V) (e1 : Env) (S1 : Sto) (Q : St → Hp → Prop), Tied (gX X) z → REnv (gX X) z env σ → RW (gX X) z w v → f w env z.S = .next e1 S1 →
      (S1 = z.S → ∀ σ', REnv (gX X) z e1 σ' → wipe σ' (own.map (·.2)) = wipe σ (own.map (·.2)) → Q σ' z.H) → t v σ z.H Q)
    {σ : St} {H : Hp} {Q : VK} (q : tM (gX X) Wx (RW (gX X)) (eLc0 fin (own.map (·.2)) fi f ft fe) σ H Q) : tLc wi t (tM (gX X) W0 rB ft) (tM (gX X) W0 (RW (gX X)) fe) (own.map (·.2)) σ H Q := by
  obtain ⟨z, env, rfl, tt, re, o⟩ := q
  refine hi σ z.H _ ⟨z, env, rfl, tt, re, o.bind fun z1 J pr e1 st1 t1 wk o1 => ?_⟩
  obtain ⟨ws, n⟩ := pr
  dsimp only at wk o1
  intro D hD
  generalize hvs : own.map (·.2) = vs at o1 hg
  have inv0 : Step0 z1 (z1.take D (.lst [])) := Step0.take t1 hD
  refine ⟨fun i m H' => m = ws.length - i ∧ i ≤ ws.length ∧ ∃ z2 acc accv, z2.H = H' ∧ Step0 z1 z2 ∧ Tied (gX X) z2 ∧ z2.own = (fun a => a = D ∨ z1.own a) ∧ (∀ a, z1.own a → z2.H a = z1.H a) ∧ z2.H D = some (.lst accv) ∧ RWs (gX X) z2 acc accv ∧
      Out (gX X) Wx (RW (gX X)) z1 σ ((lcW f ft fe n ws (wipeE env vs) (ws.drop i) acc z2.S).bind fin) Q,
    ⟨ws.length, by simp, Nat.zero_le _, z1.take D (.lst []), [], [], rfl, inv0, t1.take hD, rfl, fun a l => upd_ne fun q => t1.own a l (q ▸ hD), upd_same, .nil, o1⟩, ?_⟩
  rintro i m H' ⟨rfl, hi, z2, acc, accv, rfl, st2, t2, ho2, hk2, hD2, ra, o2⟩
  have re2 : REnv (gX X) z2 env σ := (re.mono st1).mono0 st2
  by_cases hlt : i < ws.length
  · rw [List.drop_eq_getElem_cons hlt] at o2
    unfold lcW at o2
    split at o2
    · rename_i hok
      refine .inr ⟨wk.goes z2 i st2 t2 hok hlt, fun H3 => ∃ z2 acc accv, z2.H = H3 ∧ Step0 z1 z2 ∧ Tied (gX X) z2 ∧ z2.own = (fun a => a = D ∨ z1.own a) ∧ (∀ a, z1.own a → z2.H a = z1.H a) ∧ z2.H D = some (.lst accv) ∧ RWs (gX X) z2 acc accv ∧
        Out (gX X) Wx (RW (gX X)) z1 σ ((lcW f ft fe n ws (wipeE env vs) (ws.drop (i + 1)) acc z2.S).bind fin) Q, fun H3 h3 => ⟨ws.length - (i + 1), by omega, rfl, hlt, h3⟩, fun x H3 y => ?_⟩
      obtain ⟨z3, rfl, eS, st3, t3, r3⟩ := wk.yields z2 i ws[i] x H3 st2 t2 hok (List.getElem?_eq_getElem hlt) y
      have ho3 : z3.own = (fun a => a = D ∨ z1.own a) := st3.same.trans ho2
      have D2 : z2.own D := by rw [ho2]; exact .inl rfl
      rw [← eS] at o2
      cases hf : f ws[i] (wipeE env vs) z3.S with
      | next e4 S4 =>
        rw [hf] at o2
        dsimp only at o2
        refine hg z3 (wipeE env vs) (wipe σ vs) ws[i] x e4 S4 _ t3 ((re2.mono st3).wipe vs) r3 hf fun eS4 σ4 re4 hw => ?_
        subst eS4
        refine ⟨hw.trans (wipe_wipe vs), z3, e4, rfl, t3, re4, ?_⟩
        cases ht : ft e4 z3.S with
        | ok k S5 =>
          rw [ht] at o2
          intro z5 k' eS5 st5 t5 ek
          cases ek
          subst eS5
          have st15 : Step0 z1 z5 := (st2.trans st3.toStep0).trans st5.toStep0
          have st25 : Step z2 z5 := st3.trans st5
          have o5 : Out (gX X) Wx (RW (gX X)) z1 σ ((if k = true then ((fe e4 z5.S).noEx).bind fun x S3 => if acc.length < sizeLine then lcW f ft fe n ws (wipeE env vs) (ws.drop (i + 1)) (acc ++ [x]) S3 else .bad else lcW f ft fe n ws (wipeE env vs) (ws.drop (i + 1)) acc z5.S).bind fin) Q := o2
          cases k with
          | true =>
            rw [if_pos rfl] at o5 ⊢
            refine ⟨z5, e4, rfl, t5, re4.mono st5, ?_⟩
            cases hee : fe e4 z5.S with
            | ok y S6 =>
              rw [hee] at o5
              intro z6 v eS6 st6 t6 r6
              subst eS6
              have st26 : Step z2 z6 := st25.trans st6
              have o6 : Out (gX X) Wx (RW (gX X)) z1 σ ((if acc.length < sizeLine then lcW f ft fe n ws (wipeE env vs) (ws.drop (i + 1)) (acc ++ [y]) z6.S else .bad).bind fin) Q := o5
              split at o6
              · rename_i hl
                have hD6 : z6.H D = some (.lst accv) := (st26.keep D D2).trans hD2
                have ho6 : z6.own = (fun a => a = D ∨ z1.own a) := st26.same.trans ho2
                have D6 : z6.own D := by rw [ho6]; exact .inl rfl
                have ra6 := ra.mono st26
                refine ⟨accv, hD6, by rw [← ra.length]; exact hl, z6.turn D (.lst (accv ++ [v])), acc ++ [y], accv ++ [v], rfl, (st15.trans st6.toStep0).trans (Step0.turn D6), t6.turn D6, ho6, fun a l => ?_, upd_same, ?_, o6⟩
                · have : a ≠ D := fun q => t1.own a l (q ▸ hD)
                  show upd z6.H D _ a = _
                  rw [upd_ne this, st26.keep a (by rw [ho2]; exact .inr l)]
                  exact hk2 a l
                · exact (ra6.append (.cons r6 .nil)).mono0 (Step0.turn D6)
              · exact o6.elim
            | ex c fs S6 =>
              rw [hee] at o5
              exact o5.elim
            | bad =>
              rw [hee] at o5
              exact o5.elim
          | false =>
            rw [if_neg Bool.false_ne_true] at o5 ⊢
            refine ⟨z5, acc, accv, rfl, st15, t5, st25.same.trans ho2, fun a l => (st25.keep a (by rw [ho2]; exact .inr l)).trans (hk2 a l), (st25.keep D D2).trans hD2, ra.mono st25, o5⟩
        | ex c fs S5 =>
          rw [ht] at o2
          exact o2.elim
        | bad =>
          rw [ht] at o2
          exact o2.elim
      | _ =>
        rw [hf] at o2
        exact o2.elim
    · exact o2.elim
  · have e : i = ws.length := by omega
    subst e
    rw [List.drop_length] at o2
    unfold lcW at o2
    split at o2
    · rename_i hok
      exact .inl ⟨wk.stops z2 st2 t2 hok, hfin Wx z1 z2 σ D acc (.lst accv) Q hD t1 st2 t2 ho2 hk2 hD2 ⟨accv, rfl, ra⟩ o2⟩
    · exact o2.elim
theorem me_lc0 (hfin : FinOk (gX X) fin) (hc : X.calm = true) (hN : X.N.Nodup) (hi : MI X Wx tg iter fi) (ok : BlkOk X.N X.env.scope scope own) (hg : MGb X scope tg f (own.map (·.2)))
    (ht : ∀ (s : Shared) (H : Hp) (C : Addr) (cl : List (Str × Addr)) (fp : List Addr), MTs (X.blk s H scope (compEnvC scope cl C X.env) fp) W0 ifs ft) (he : ∀ (s : Shared) (H : Hp) (C : Addr) (cl : List (Str × Addr)) (fp : List Addr), ME (X.blk s H scope (compEnvC scope cl C X.env) fp) W0 elt fe)
    (hs : ∀ x, foldedSetIterable iter X.env x = pure x := by intro _; rfl) : ME X Wx (.ListComp elt [⟨tg, iter, ifs, 0⟩] scope pos) (eLc0 fin (own.map (·.2)) fi f ft fe) := by
  obtain ⟨wi, pi, hi⟩ := hi
  obtain ⟨t, pg, hg⟩ := hg
  exact pe_mono (pe_lc (tt := tM (gX X) W0 rB ft) (te := tM (gX X) W0 (RW (gX X)) fe) hc hN pi ok pg ht he hs) fun σ H Q q => lc_red hfin hi hg q
theorem ms_setLc0 {i : Nat} {y : Str} {py spos : Pos} (hfin : FinOk (gX X) fin) (hc : X.calm = true) (hN : X.N.Nodup) (hy : X.N[i]? = some y) (hyl : X.env.scope.names.lookup y = some .local)
    (hsw : swapsWith (.ListComp elt [⟨tg, iter, ifs, 0⟩] scope pos) (some (.Name y py)) spos.line X.env = pure true) (hi : MI X Wx tg iter fi) (ok : BlkOk X.N X.env.scope scope own) (hg : MGb X scope tg f (own.map (·.2)))
    (ht : ∀ (s : Shared) (H : Hp) (C : Addr) (cl : List (Str × Addr)) (fp : List Addr), MTs (X.blk s H scope (compEnvC scope cl C X.env) fp) W0 ifs ft) (he : ∀ (s : Shared) (H : Hp) (C : Addr) (cl : List (Str × Addr)) (fp : List Addr), ME (X.blk s H scope (compEnvC scope cl C X.env) fp) W0 elt fe)
    (hs : ∀ x, foldedSetIterable iter X.env x = pure x := by intro _; rfl) : MS X Wx (.Assign [.Name y py] (.ListComp elt [⟨tg, iter, ifs, 0⟩] scope pos) spos) (sSet i (eLc0 fin (own.map (·.2)) fi f ft fe)) := by
  obtain ⟨wi, pi, hi⟩ := hi
  obtain ⟨t, pg, hg⟩ := hg
  refine ps_mono (ps_setLc (tt := tM (gX X) W0 rB ft) (te := tM (gX X) W0 (RW (gX X)) fe) hc hN hy hyl hsw pi ok pg ht he hs) ?_
  rintro D σ H ⟨z, env, rfl, tt, re, o⟩
  refine lc_red hfin hi hg ⟨z, env, rfl, tt, re, OutS.bind re o fun z1 v w e1 st1 t1 r1 o1 => ?_⟩
  exact OutS.now o1 t1 ((re.mono st1).set i r1)
end
end Mi

set_option Elab.async false
set_option linter.all false
set_option maxRecDepth 100000
set_option maxHeartbeats 4000000
namespace Mi
open PySem L2 PySem.Spec PyProof.Rows
/-! ### defs that are called where no repr is under way; an exception may leave them -/
structure FnG (P : Program) (w : World) (K : PySem.W.Frag) (mg : Str → Option Value) (base : Heap) (k : Nat) (f : Addr) (fd : FuncData) (ps : List Str) (sp : Sp) : Prop where
  len : ∀ vs H Q E, sp vs H Q E → vs.length = ps.length
  run : ∀ (A : Around) (outer : List PySem.Env) (s : Shared) (H : Hp) (args : Args) (us : List Value) (vs : List V) (Q : VK) (E : XK),
    A.guards = some [] → Room k A → Env0 P w K mg base A outer s H → BindsTo s fd args (ps.zip us) → Vals vs us → sp vs H Q E →
    codeAny (model P w) A (.call (.ref f) args) (CR (L2.CX P w) outer P w H s Q E) s
theorem FnG.mono {P : Program} {w : World} {K : PySem.W.Frag} {mg : Str → Option Value} {base : Heap} {j k : Nat} {f : Addr} {fd : FuncData} {ps : List Str} {sp : Sp}
    (F : FnG P w K mg base j f fd ps sp) (h : j ≤ k) : FnG P w K mg base k f fd ps sp :=
  ⟨F.len, fun A outer s H args us vs Q E hg hr => F.run A outer s H args us vs Q E hg (hr.mono h)⟩
theorem fun_okG {P : Program} {w : World} {K : PySem.W.Frag} {mg : Str → Option Value} {base : Heap} {x qual : Str} {st : Stmt} {f : Addr} {fd : FuncData} {N ps : List Str} {k : Nat} {sp : Sp}
    (F : Fun K x qual st f fd) (S : FnScope N ps (defScope st)) (len : ∀ vs H Q E, sp vs H Q E → vs.length = ps.length)
    (hbody : ∀ (cdv : Value) (A : Around) (outer : List PySem.Env) (s : Shared) (H : Hp) (vs : List V) (Q : VK) (E : XK),
      (A.deeper (envOfC qual (defScope st) s.heap.objs.size f cdv)).guards = some [] → Room k (A.deeper (envOfC qual (defScope st) s.heap.objs.size f cdv)) → sp vs H Q E →
      ∃ t, PSs (cxOf (L2.CX P w) P w K mg base N qual (defScope st) f cdv A outer s H E) (defBody st) t ∧ t { nx := fun _ H' => Q .non H', rt := Q } (start N vs) H) :
    FnG P w K mg base (k + 1) f fd ps sp := by
  obtain ⟨oc, od, kV, doc, pm, an, cdv, ct, osl, rfl, lk, hcd⟩ := F.ex
  constructor
  · exact len
  · intro A outer s H args us vs Q E hg hr e0 hb r hsp
    have big : ∀ b o, base.get? b = some o → s.heap.get? b = some o := fun b o e => (e0.bs b o e).1
    have KX : K.In s.heap := e0.mod.kin.keeps big
    have kinds : ∀ y ∈ ps.zip us, (defScope st).names.lookup y.1 = some .local ∨
        ((defScope st).names.lookup y.1 = some .cell ∧ ((cellsFrom (s.heap.objs.size + 1) (defScope st).names []).lookup y.1).isSome = true) := by
      rintro ⟨n, v⟩ hy
      refine (S.par n (List.of_mem_zip hy).1).imp id fun q => ?_
      exact ⟨q, PySem.W.cellsFrom_some _ _ _ (.inl q)⟩
    refine codeAny_call_function hr.depth (KX _ _ lk) rfl S.co S.gen rfl (PySem.W.codeRec_of KX hcd) (hb _ _ _ _ ?_)
    refine wpAny_newFunctionEnv_cells S.kind kinds fun env he s1 xc => ?_
    cases he
    refine ⟨(e0.mod.nolimit.keeps big).keeps xc.toInCall.keep, codeAny_func ?_⟩
    obtain ⟨t, ht, hq⟩ := hbody cdv A outer s H vs Q E hg (hr.deeper _) hsp
    have I0 := inv_start (CX := L2.CX P w) (E := E) (cd := cdv) (f := f) (qual := qual) S hr.hd e0 (len _ _ _ _ hsp) r xc
    refine wpAny_mono (ht.run [] s1 (start N vs) H _ I0 hq) ?_ (fun _ _ z => z)
    intro fl s2 z
    cases fl with
    | ret u => obtain ⟨v, σ2, H2, J, rv, q⟩ := z; exact ⟨v, H2, J.os, J.bare, J.base, J.hok, rv, q⟩
    | next => obtain ⟨σ2, H2, J, q⟩ := z; exact ⟨.non, H2, J.os, J.bare, J.base, J.hok, rfl, q⟩
    | brk => obtain ⟨_, _, _, q⟩ := z; exact q.elim
    | cont => obtain ⟨_, _, _, q⟩ := z; exact q.elim
/-! ### the promise of a mirrored def -/
def spM (g : Kg) (n : Nat) (m : List W → Sto → R W) : Sp := fun vs H Q E => ∃ z ws, z.H = H ∧ Tied g z ∧ RWs g z ws vs ∧ ws.length = n ∧ Out g (fun cls d _ H' => E cls d H') (RW g) z [] (m ws z.S) Q
def runF (N : Nat) (f : Sv) (ws : List W) (S : Sto) : R W := match f (ws.map some ++ List.replicate (N - ws.length) none) S with
  | .next _ S' => .ok .non S'
  | .ret w S' => .ok w S'
  | .ex c fs _ S' => .ex c fs S'
  | _ => .bad
theorem renv_start {g : Kg} {z : Wd} {N : List Str} {ws : List W} {vs : List V} (r : RWs g z ws vs) : REnv g z (ws.map some ++ List.replicate (N.length - ws.length) none) (start N vs) := by
  have e := r.length
  refine ⟨by simp [L2.start, e], fun i w h => ?_⟩
  rcases Nat.lt_or_ge i ws.length with l | l
  · rw [List.getElem?_append_left (by simpa using l), List.getElem?_map] at h
    obtain ⟨w', h1, h2⟩ := Option.map_eq_some_iff.mp h
    cases h2
    obtain ⟨v, e1, rv⟩ := r.get h1
    refine ⟨v, ?_, rv⟩
    unfold L2.start
    rw [List.getElem?_append_left (by rw [List.length_map, ← e]; exact l), List.getElem?_map, e1]
    rfl
  · rw [List.getElem?_append_right (by simpa using l)] at h
    have := List.mem_of_getElem? h
    simp at this
/-- THE RULE: a def keeps the promise of its mirror, by its body -/
theorem fn_body {P : Program} {w : World} {K : PySem.W.Frag} {mg : Str → Option Value} {base : Heap} {x qual : Str} {st : Stmt} {f : Addr} {fd : FuncData} {N ps : List Str} {k : Nat} {fb : Sv}
    (F : Fun K x qual st f fd) (S : FnScope N ps (defScope st))
    (hbody : ∀ (cdv : Value) (A : Around) (outer : List PySem.Env) (s : Shared) (H : Hp) (E : XK),
      (A.deeper (envOfC qual (defScope st) s.heap.objs.size f cdv)).guards = some [] → Room k (A.deeper (envOfC qual (defScope st) s.heap.objs.size f cdv)) →
      MSs (cxOf (L2.CX P w) P w K mg base N qual (defScope st) f cdv A outer s H E) (fun cls d _ H' => E cls d H') (defBody st) fb) :
    FnG P w K mg base (k + 1) f fd ps (spM ⟨K, mg⟩ ps.length (runF N.length fb)) := by
  refine fun_okG F S (fun vs H Q E h => ?_) fun cdv A outer s H vs Q E hg hr h => ?_
  · obtain ⟨z, ws, _, _, r, hl, _⟩ := h
    rw [← r.length]
    exact hl
  · refine ⟨_, hbody cdv A outer s H E hg hr, ?_⟩
    obtain ⟨z, ws, rfl, t, r, hl, o⟩ := h
    refine ⟨z, _, rfl, t, renv_start (N := N) r, ?_⟩
    unfold runF at o
    show OutS _ _ z (fb (ws.map some ++ List.replicate (N.length - ws.length) none) z.S) _
    cases hf : fb (ws.map some ++ List.replicate (N.length - ws.length) none) z.S with
    | next e S' =>
      rw [hf] at o
      exact fun z' σ' es st t' re => o z' .non es st t' .non
    | ret w S' =>
      rw [hf] at o
      exact fun z' v es st t' r => o z' v es st t' r
    | ex c fs e S' =>
      rw [hf] at o
      exact fun z' σ' cls d es st t' re x => o z' cls d es st t' x
    | _ =>
      rw [hf] at o
      exact o.elim
/-! ### calls -/
theorem out_at {α β : Type} {g : Kg} {Wx : WX} {rel : Wd → α → β → Prop} {z : Wd} {σ : L2.St} {r : R α} {Q : β → Hp → Prop} (o : Out g Wx rel z σ r Q) : Out g (fun cls d _ H' => Wx cls d σ H') rel z [] r Q := by
  cases r <;> exact o
section
variable {X : Cx} {Wx : WX} {k : Nat} {f C : Addr} {fd : FuncData} {ps : List Str} {sp : Sp} {x m : Str} {p pos apos : Pos} {e o : Expr} {es : List Expr} {ta : TE} {t : TA} {dvs : List V} {ds : List Value}
theorem run_fnG {pins : List (Addr × Obj)} {σ : L2.St} {H : Hp} {s : Shared} {Q : VK} {us : List Value} {vs : List V} (F : FnG X.prog X.w X.K X.mg X.base k f fd ps sp) (hgu : X.A.guards = some []) (hr : Room k X.A)
    (hb : Binds X.K fd ps ds) (hd : Vals dvs ds) (tk : Takes X Wx) (I : Inv X pins σ H s) (r : Vals vs us) (h : sp (vs ++ dvs) H Q (WE Wx σ)) :
    wpAny (model X.prog X.w) X.A (call (.ref f) us) (EP X pins σ Q) X.xe s := by
  have both : Vals (vs ++ dvs) (us ++ ds) := r.append hd
  have lens : (us ++ ds).length = ps.length := both.length.symm.trans (F.len _ _ _ _ h)
  refine wpAny_call (codeAny_mono (F.run X.A X.stack s H ⟨us, []⟩ (us ++ ds) (vs ++ dvs) Q (WE Wx σ) hgu hr I.env0 (hb s us I.kIn lens) both h) ?_)
  intro res s2 z
  match res, z with
  | .error er, z => exact passAt tk σ pins H s er s2 I z
  | .ok (.ret u), z => exact I.after z
def tCallG (sp : Sp) (dvs : List V) (Wx : WX) (t : TA) : TE := fun σ H Q => t σ H fun vs H1 => sp (vs ++ dvs) H1 Q (WE Wx σ)
theorem pe_callG (F : FnG X.prog X.w X.K X.mg X.base k f fd ps sp) (hgu : X.A.guards = some []) (hr : Room k X.A) (hg : Gl X x) (hm : X.mg x = some (.ref f)) (hk : PySem.W.keepIn X.K (.ref f) = true)
    (hb : Binds X.K fd ps ds) (hd : Vals dvs ds) (tk : Takes X Wx) (ha : PA X (e :: es) t) (hdb : (x == ("__debug__" : Str)) = false := by decide)
    (he : starEach (e :: es) X.env = (false, eval e X.env) :: starEach es X.env := by rfl) (hpl : (backTo pos (starEach es X.env)).any (·.1) = false := by rfl) :
    PE X (.Call (.Name x p) (e :: es) [] pos) (tCallG sp dvs Wx t) := by
  constructor
  intro pins s σ H Q I h
  refine wpAny_Call_Name_kw (ld_glob I hg hm ?_ hdb)
  refine PySem.W.callWith_K (h₀ := X.base) I.ok.mod.kin hk (thn (ha.run pos pins s σ H _ I h) ?_) he hpl
  rintro us s1 ⟨vs, H1, I1, r, q⟩
  exact ⟨I1.kIn, run_fnG F hgu hr hb hd tk I1 r q⟩
theorem pe_callG0 (F : FnG X.prog X.w X.K X.mg X.base k f fd ps sp) (hgu : X.A.guards = some []) (hr : Room k X.A) (hg : Gl X x) (hm : X.mg x = some (.ref f)) (hk : PySem.W.keepIn X.K (.ref f) = true)
    (hb : Binds X.K fd ps ds) (hd : Vals dvs ds) (tk : Takes X Wx) (hdb : (x == ("__debug__" : Str)) = false := by decide) :
    PE X (.Call (.Name x p) [] [] pos) (tCallG sp dvs Wx tNil) := by
  constructor
  intro pins s σ H Q I h
  refine wpAny_Call_Name_kw (ld_glob I hg hm ?_ hdb)
  exact PySem.W.callWith_K0 I.kIn hk (run_fnG (us := []) F hgu hr hb hd tk I .nil h)
/-- o.m(e, ..) -/
def tMethG (C : Addr) (m : Str) (sp : Sp) (dvs : List V) (Wx : WX) (ta : TE) (t : TA) : TE := fun σ H Q => ta σ H fun x H1 => ∃ a dx fs, x = .ref a ∧ H1 a = some (.ins C dx fs) ∧ fs.lookup m = none ∧
  t σ H1 fun vs H2 => sp (x :: (vs ++ dvs)) H2 Q (WE Wx σ)
theorem pe_methG {pl : Sem Bool} (he : PE X o ta) (c : Cls X.K C) (hm : Meth X.K C m f) (F : FnG X.prog X.w X.K X.mg X.base k f fd ps sp) (hgu : X.A.guards = some []) (hr : Room k X.A) (hb : Binds X.K fd ps ds) (hd : Vals dvs ds) (tk : Takes X Wx) (ha : PA X (e :: es) t)
    (hst : starEach (e :: es) X.env = (false, eval e X.env) :: starEach es X.env := by rfl) (hpl : (backTo pos (starEach es X.env)).any (·.1) = false := by rfl)
    (ht : eval (.Call (.Attribute o m apos) (e :: es) [] pos) X.env = (do
      let ov ← eval o X.env
      standAt apos.atName
      let (f, first) ← holding [ov] (getMethod ov m pl)
      callWith pos f first (backTo pos (starEach (e :: es) X.env)) (backToKw pos (keywordEach [] X.env))) := by rfl) :
    PE X (.Call (.Attribute o m apos) (e :: es) [] pos) (tMethG C m sp dvs Wx ta t) := by
  refine ⟨fun pins s σ H Q I h => ?_⟩
  refine PySem.W.methodCall_KW (pl := pl) (thn (he.run pins s σ H _ I h) fun u s1 ⟨x, H1, I1, rx, a, dx, fs, ex, ea, l, q⟩ => ?_) ht
  subst ex
  obtain rfl : u = Value.ref a := rx
  refine getmeth_ok I1 ea c hm l ?_
  refine PySem.W.callWith_K (first := [.ref a]) (h₀ := X.base) I.ok.mod.kin hm.kp (thn (ha.run pos pins s1 σ H1 _ I1 q) fun us s2 ⟨vs, H2, I2, r, q2⟩ => ⟨I2.kIn, ?_⟩) hst hpl
  exact run_fnG (us := .ref a :: us) (vs := .ref a :: vs) F hgu hr hb hd tk I2 (.cons rfl r) q2
theorem pe_methG0 {pl : Sem Bool} (he : PE X o ta) (c : Cls X.K C) (hm : Meth X.K C m f) (F : FnG X.prog X.w X.K X.mg X.base k f fd ps sp) (hgu : X.A.guards = some []) (hr : Room k X.A) (hb : Binds X.K fd ps ds) (hd : Vals dvs ds) (tk : Takes X Wx)
    (ht : eval (.Call (.Attribute o m apos) [] [] pos) X.env = (do
      let ov ← eval o X.env
      standAt apos.atName
      let (f, first) ← holding [ov] (getMethod ov m pl)
      callWith pos f first (backTo pos (starEach [] X.env)) (backToKw pos (keywordEach [] X.env))) := by rfl) :
    PE X (.Call (.Attribute o m apos) [] [] pos) (tMethG C m sp dvs Wx ta tNil) := by
  refine ⟨fun pins s σ H Q I h => ?_⟩
  refine PySem.W.methodCall_KW (pl := pl) (thn (he.run pins s σ H _ I h) fun u s1 ⟨x, H1, I1, rx, a, dx, fs, ex, ea, l, q⟩ => ?_) ht
  subst ex
  obtain rfl : u = Value.ref a := rx
  refine getmeth_ok I1 ea c hm l ?_
  exact PySem.W.callWith_K0 (first := [.ref a]) I1.kIn hm.kp (run_fnG (us := [.ref a]) (vs := [.ref a]) F hgu hr hb hd tk I1 (.cons rfl .nil) q)
/-- C(e, ..) -/
def tMakeG (C : Addr) (sp : Sp) (dvs : List V) (Wx : WX) (t : TA) : TE := fun σ H Q => t σ H fun vs H1 => ∀ x dx, H1 x = none → H1 dx = none → dx ≠ x →
  sp (.ref x :: (vs ++ dvs)) (upd (upd H1 dx (.own x)) x (.ins C dx [])) (fun v H2 => v = .non ∧ Q (.ref x) H2) (WE Wx σ)
theorem make_guards {A : Around} {C : Addr} {us : List Value} {kw : List (Str × Value)} (h : A.guards = some []) : (A.under (.builtin "type.__call__" ⟨.ref C :: us, kw⟩)).guards = some [] := by
  first | exact h | simpa [Around.under, Code.guards, pushGuards, Code.isGuard, guardIds] using h
theorem run_makeG {pins : List (Addr × Obj)} {σ : L2.St} {H : Hp} {s : Shared} {Q : VK} {us : List Value} {vs : List V} (M : Mk X.K C f) (F : FnG X.prog X.w X.K X.mg X.base k f fd ps sp) (hgu : X.A.guards = some []) (hr : Room (k + 1) X.A) (hb : Binds X.K fd ps ds) (hd : Vals dvs ds)
    (tk : Takes X Wx) (I : Inv X pins σ H s) (r : Vals vs us)
    (h : ∀ x dx, H x = none → H dx = none → dx ≠ x → sp (.ref x :: (vs ++ dvs)) (upd (upd H dx (.own x)) x (.ins C dx [])) (fun v H2 => v = .non ∧ Q (.ref x) H2) (WE Wx σ)) :
    wpAny (model X.prog X.w) X.A (call (.ref C) us) (EP X pins σ Q) X.xe s := by
  have hq := h (s.heap.objs.size + 1) s.heap.objs.size (I.hok.fresh (Nat.le_succ _)) (I.hok.fresh (Nat.le_refl _)) (Nat.ne_of_lt (Nat.lt_succ_self _))
  have I2 := Inv.made (C := C) I
  have r2 : Vals (V.ref (s.heap.objs.size + 1) :: (vs ++ dvs)) (Value.ref (s.heap.objs.size + 1) :: (us ++ ds)) := .cons rfl (r.append hd)
  have hl : (Value.ref (s.heap.objs.size + 1) :: us ++ ds).length = ps.length := by
    have e := r2.length
    rw [F.len _ _ _ _ hq] at e
    exact e.symm
  refine wpAny_call (make_map (f := f) I.kIn M.makes M.init (beq_iff_eq.mp M.fn) (codeAny_mono (F.run _ X.stack _ _ ⟨Value.ref (s.heap.objs.size + 1) :: us, []⟩ (Value.ref (s.heap.objs.size + 1) :: (us ++ ds)) _ _ (WE Wx σ) (make_guards hgu) (hr.make C us [])
    (I2.env0.make C us []) (hb _ (Value.ref (s.heap.objs.size + 1) :: us) I2.kIn hl) r2 hq) fun r s' hq' => ?_))
  match r, hq' with
  | .error er, hq' => exact passAt tk σ pins _ _ er s' I2 hq'
  | .ok (.ret u), hq' =>
    obtain ⟨v, H', I3, rv, ev, q3⟩ := I2.after hq'
    subst ev
    exact ⟨rv, ⟨V.ref (s.heap.objs.size + 1), H', I3, rfl, q3⟩⟩
theorem pe_makeG (M : Mk X.K C f) (F : FnG X.prog X.w X.K X.mg X.base k f fd ps sp) (hgu : X.A.guards = some []) (hr : Room (k + 1) X.A) (hg : Gl X x) (hm : X.mg x = some (.ref C)) (hb : Binds X.K fd ps ds) (hd : Vals dvs ds) (tk : Takes X Wx)
    (ha : PA X (e :: es) t) (hdb : (x == ("__debug__" : Str)) = false := by decide) (he : starEach (e :: es) X.env = (false, eval e X.env) :: starEach es X.env := by rfl) (hpl : (backTo pos (starEach es X.env)).any (·.1) = false := by rfl) :
    PE X (.Call (.Name x p) (e :: es) [] pos) (tMakeG C sp dvs Wx t) := by
  refine ⟨fun pins s σ H Q I h => ?_⟩
  refine wpAny_Call_Name_kw (ld_glob I hg hm ?_ hdb)
  refine PySem.W.callWith_K (h₀ := X.base) I.ok.mod.kin M.kp (thn (ha.run pos pins s σ H _ I h) fun us s1 ⟨vs, H1, I1, r, q⟩ => ⟨I1.kIn, ?_⟩) he hpl
  exact run_makeG M F hgu hr hb hd tk I1 r q
theorem pe_makeG0 (M : Mk X.K C f) (F : FnG X.prog X.w X.K X.mg X.base k f fd ps sp) (hgu : X.A.guards = some []) (hr : Room (k + 1) X.A) (hg : Gl X x) (hm : X.mg x = some (.ref C)) (hb : Binds X.K fd ps ds) (hd : Vals dvs ds) (tk : Takes X Wx)
    (hdb : (x == ("__debug__" : Str)) = false := by decide) : PE X (.Call (.Name x p) [] [] pos) (tMakeG C sp dvs Wx tNil) := by
  refine ⟨fun pins s σ H Q I h => ?_⟩
  refine wpAny_Call_Name_kw (ld_glob I hg hm ?_ hdb)
  exact PySem.W.callWith_K0 I.kIn M.kp (run_makeG (us := []) M F hgu hr hb hd tk I .nil h)
end
def eCall (n : Nat) (m : List W → Sto → R W) (dws : List W) (a : Av) : Ev := fun env S => (a env S).bind fun ws S1 => if (ws ++ dws).length = n then m (ws ++ dws) S1 else .bad
def insOk (S : Sto) (c m : Str) (w : W) : Bool := match w with
  | .h n => (match S[n]? with
    | some (.ins c' fs) => decide (c' = c) && (fs.lookup m).isNone
    | _ => false)
  | _ => false
def eMeth (c mn : Str) (n : Nat) (m : List W → Sto → R W) (dws : List W) (o : Ev) (a : Av) : Ev := fun env S => (o env S).bind fun x S1 => if insOk S1 c mn x = true then (a env S1).bind fun ws S2 => if (x :: (ws ++ dws)).length = n then m (x :: (ws ++ dws)) S2 else .bad else .bad
def eMake (c : Str) (n : Nat) (m : List W → Sto → R W) (dws : List W) (a : Av) : Ev := fun env S => (a env S).bind fun ws S1 => if (W.h S1.length :: (ws ++ dws)).length = n then (m (.h S1.length :: (ws ++ dws)) (S1 ++ [.ins c []])).bind fun w S2 => match w with
  | .non => .ok (.h S1.length) S2
  | _ => .bad else .bad
theorem rfs_lookup {g : Kg} {z : Wd} (f : Str) : ∀ {a : List (Str × W)} {b : List (Str × V)}, RFs g z a b → (a.lookup f = none ∧ b.lookup f = none) ∨ ∃ w v, a.lookup f = some w ∧ b.lookup f = some v ∧ RW g z w v
  | _, _, .nil => .inl ⟨rfl, rfl⟩
  | (k, w) :: a, (k', v) :: b, .cons h t => by
    obtain ⟨h1, h2⟩ := h
    dsimp only at h1 h2
    subst h1
    rw [List.lookup_cons, List.lookup_cons]
    cases e : f == k with
    | true => exact .inr ⟨w, v, rfl, rfl, h2⟩
    | false => exact rfs_lookup f t
section
variable {X : Cx} {Wx : WX} {k n : Nat} {f C : Addr} {fd : FuncData} {ps : List Str} {x mn : Str} {p pos apos : Pos} {e o : Expr} {es : List Expr} {fo : Ev} {fa : Av} {m : List W → Sto → R W} {dws : List W} {dvs : List V} {ds : List Value}
theorem call_red (hd : ∀ z, RWs (gX X) z dws dvs) {σ : L2.St} {H : Hp} {Q : VK} (q : tM (gX X) Wx (RW (gX X)) (eCall n m dws fa) σ H Q) : tCallG (spM (gX X) n m) dvs Wx (tM (gX X) Wx (RWs (gX X)) fa) σ H Q := by
  obtain ⟨z, env, rfl, t, re, o⟩ := q
  refine ⟨z, env, rfl, t, re, o.bind fun z1 xs ws e1 st1 t1 r1 o1 => ?_⟩
  split at o1
  · rename_i hl
    exact ⟨z1, ws ++ dws, rfl, t1, r1.append (hd z1), hl, out_at o1⟩
  · exact o1.elim
theorem me_callD (hd : ∀ z, RWs (gX X) z dws dvs) (hv : Vals dvs ds) (F : FnG X.prog X.w X.K X.mg X.base k f fd ps (spM (gX X) n m)) (hgu : X.A.guards = some []) (hr : Room k X.A) (hm : X.mg x = some (.ref f)) (hk : PySem.W.keepIn X.K (.ref f) = true)
    (hb : Binds X.K fd ps ds) (tk : Takes X Wx) (ha : MA X Wx (e :: es) fa) (hg : Gl X x := by rfl) (hdb : (x == ("__debug__" : Str)) = false := by decide)
    (he : starEach (e :: es) X.env = (false, eval e X.env) :: starEach es X.env := by rfl) (hpl : (backTo pos (starEach es X.env)).any (·.1) = false := by rfl) :
    ME X Wx (.Call (.Name x p) (e :: es) [] pos) (eCall n m dws fa) := pe_mono (pe_callG F hgu hr hg hm hk hb hv tk ha hdb he hpl) fun σ H Q q => call_red hd q
theorem me_call (F : FnG X.prog X.w X.K X.mg X.base k f fd ps (spM (gX X) n m)) (hgu : X.A.guards = some []) (hr : Room k X.A) (hm : X.mg x = some (.ref f)) (hk : PySem.W.keepIn X.K (.ref f) = true)
    (hb : Binds X.K fd ps []) (tk : Takes X Wx) (ha : MA X Wx (e :: es) fa) (hg : Gl X x := by rfl) (hdb : (x == ("__debug__" : Str)) = false := by decide)
    (he : starEach (e :: es) X.env = (false, eval e X.env) :: starEach es X.env := by rfl) (hpl : (backTo pos (starEach es X.env)).any (·.1) = false := by rfl) :
    ME X Wx (.Call (.Name x p) (e :: es) [] pos) (eCall n m [] fa) := me_callD (dvs := []) (fun _ => .nil) .nil F hgu hr hm hk hb tk ha hg hdb he hpl
theorem me_call0 (F : FnG X.prog X.w X.K X.mg X.base k f fd ps (spM (gX X) n m)) (hgu : X.A.guards = some []) (hr : Room k X.A) (hm : X.mg x = some (.ref f)) (hk : PySem.W.keepIn X.K (.ref f) = true)
    (hb : Binds X.K fd ps []) (tk : Takes X Wx) (hg : Gl X x := by rfl) (hdb : (x == ("__debug__" : Str)) = false := by decide) :
    ME X Wx (.Call (.Name x p) [] [] pos) (eCall n m [] aNil) := by
  refine pe_mono (pe_callG0 F hgu hr hg hm hk hb .nil tk hdb) fun σ H Q q => ?_
  obtain ⟨z, env, rfl, t, re, o⟩ := q
  have o1 : Out (gX X) Wx (RW (gX X)) z σ (if ([] ++ [] : List W).length = n then m ([] ++ []) z.S else .bad) Q := o
  split at o1
  · rename_i hl
    exact ⟨z, [], rfl, t, .nil, hl, out_at o1⟩
  · exact o1.elim
theorem insOk_at {g : Kg} {z : Wd} {c : Str} {w : W} {v : V} (t : Tied g z) (h : insOk z.S c mn w = true) (r : RW g z w v) : ∃ a C dx fs, v = .ref a ∧ g.mg c = some (.ref C) ∧ z.H a = some (.ins C dx fs) ∧ fs.lookup mn = none := by
  cases r with
  | @h n l =>
    unfold insOk at h
    dsimp only at h
    split at h
    · rename_i c' fs e
      rw [Bool.and_eq_true, decide_eq_true_eq] at h
      obtain ⟨rfl, h⟩ := h
      obtain ⟨C, dx, fs', h1, h2, h3⟩ := t.insAt e
      rcases rfs_lookup mn h3 with ⟨_, h4⟩ | ⟨_, _, h4, _⟩
      · exact ⟨_, C, dx, fs', rfl, h1, h2, h4⟩
      · rw [h4] at h
        cases h
    · cases h
  | _ => cases h
theorem meth_red {c : Str} (hC : X.mg c = some (.ref C)) (hd : ∀ z, RWs (gX X) z dws dvs) {σ : L2.St} {H : Hp} {Q : VK} (q : tM (gX X) Wx (RW (gX X)) (eMeth c mn n m dws fo fa) σ H Q) :
    tMethG C mn (spM (gX X) n m) dvs Wx (tM (gX X) Wx (RW (gX X)) fo) (tM (gX X) Wx (RWs (gX X)) fa) σ H Q := by
  obtain ⟨z, env, rfl, t, re, o⟩ := q
  refine ⟨z, env, rfl, t, re, o.bind fun z1 x w e1 st1 t1 r1 o1 => ?_⟩
  split at o1
  · rename_i hi
    obtain ⟨a, C', dx, fs, rfl, h1, h2, h3⟩ := insOk_at t1 hi r1
    have h1' : X.mg c = some (.ref C') := h1
    rw [hC] at h1'
    cases h1'
    refine ⟨a, dx, fs, rfl, h2, h3, z1, env, rfl, t1, re.mono st1, o1.bind fun z2 xs ws e2 st2 t2 r2 o2 => ?_⟩
    split at o2
    · rename_i hl
      exact ⟨z2, w :: (ws ++ dws), rfl, t2, .cons (r1.mono st2) (r2.append (hd z2)), hl, out_at o2⟩
    · exact o2.elim
  · exact o1.elim
theorem me_methD {pl : Sem Bool} {c : Str} (hd : ∀ z, RWs (gX X) z dws dvs) (hv : Vals dvs ds) (hC : X.mg c = some (.ref C)) (cl : Cls X.K C) (hm : Meth X.K C mn f) (F : FnG X.prog X.w X.K X.mg X.base k f fd ps (spM (gX X) n m)) (hgu : X.A.guards = some []) (hr : Room k X.A) (hb : Binds X.K fd ps ds) (tk : Takes X Wx)
    (ho : ME X Wx o fo) (ha : MA X Wx (e :: es) fa) (hst : starEach (e :: es) X.env = (false, eval e X.env) :: starEach es X.env := by rfl) (hpl : (backTo pos (starEach es X.env)).any (·.1) = false := by rfl)
    (ht : eval (.Call (.Attribute o mn apos) (e :: es) [] pos) X.env = (do
      let ov ← eval o X.env
      standAt apos.atName
      let (f, first) ← holding [ov] (getMethod ov mn pl)
      callWith pos f first (backTo pos (starEach (e :: es) X.env)) (backToKw pos (keywordEach [] X.env))) := by rfl) :
    ME X Wx (.Call (.Attribute o mn apos) (e :: es) [] pos) (eMeth c mn n m dws fo fa) := pe_mono (pe_methG (pl := pl) ho cl hm F hgu hr hb hv tk ha hst hpl ht) fun σ H Q q => meth_red hC hd q
theorem me_meth0D {pl : Sem Bool} {c : Str} (hd : ∀ z, RWs (gX X) z dws dvs) (hv : Vals dvs ds) (hC : X.mg c = some (.ref C)) (cl : Cls X.K C) (hm : Meth X.K C mn f) (F : FnG X.prog X.w X.K X.mg X.base k f fd ps (spM (gX X) n m)) (hgu : X.A.guards = some []) (hr : Room k X.A) (hb : Binds X.K fd ps ds) (tk : Takes X Wx)
    (ho : ME X Wx o fo) (ht : eval (.Call (.Attribute o mn apos) [] [] pos) X.env = (do
      let ov ← eval o X.env
      standAt apos.atName
      let (f, first) ← holding [ov] (getMethod ov mn pl)
      callWith pos f first (backTo pos (starEach [] X.env)) (backToKw pos (keywordEach [] X.env))) := by rfl) :
    ME X Wx (.Call (.Attribute o mn apos) [] [] pos) (eMeth c mn n m dws fo aNil) := by
  refine pe_mono (pe_methG0 (pl := pl) ho cl hm F hgu hr hb hv tk ht) fun σ H Q q => ?_
  have q' := meth_red (fa := aNil) hC hd q
  refine pe_tMeth0 q'
where
  pe_tMeth0 {σ : L2.St} {H : Hp} {Q : VK} (q : tMethG C mn (spM (gX X) n m) dvs Wx (tM (gX X) Wx (RW (gX X)) fo) (tM (gX X) Wx (RWs (gX X)) aNil) σ H Q) : tMethG C mn (spM (gX X) n m) dvs Wx (tM (gX X) Wx (RW (gX X)) fo) tNil σ H Q := by
    obtain ⟨z, env, rfl, t, re, o⟩ := q
    refine ⟨z, env, rfl, t, re, o.mono fun b H ⟨a, dx, fs, h1, h2, h3, z', env', e, t', re', o'⟩ => ⟨a, dx, fs, h1, h2, h3, ?_⟩⟩
    subst e
    exact Out.now o' t' .nil
/-- the new instance's world -/
theorem make_red {c : Str} (hC : X.mg c = some (.ref C)) (hd : ∀ z, RWs (gX X) z dws dvs) {σ : L2.St} {H : Hp} {Q : VK} (q : tM (gX X) Wx (RW (gX X)) (eMake c n m dws fa) σ H Q) :
    tMakeG C (spM (gX X) n m) dvs Wx (tM (gX X) Wx (RWs (gX X)) fa) σ H Q := by
  obtain ⟨z, env, rfl, t, re, o⟩ := q
  refine ⟨z, env, rfl, t, re, o.bind fun z1 xs ws e1 st1 t1 r1 o1 => ?_⟩
  intro x dx hx hdx hne
  split at o1
  · rename_i hl
    have hx' : (z1.new dx (.own x)).H x = none := by
      show upd z1.H dx (.own x) x = none
      rw [upd_ne (Ne.symm hne)]
      exact hx
    have t2 : Tied (gX X) (z1.new dx (.own x)) := t1.new hdx
    have s2 : Step z1 (z1.new dx (.own x)) := Step.new t1 hdx
    have t3 : Tied (gX X) ((z1.new dx (.own x)).newH x (.ins C dx []) (.ins c [])) := t2.newH hx' (.ins hC .nil)
    have s3 := Step.newH (o := HO.ins C dx []) (ob := .ins c []) t2 hx'
    refine ⟨(z1.new dx (.own x)).newH x (.ins C dx []) (.ins c []), .h z1.S.length :: (ws ++ dws), rfl, t3, .cons newH_at ((r1.mono (s2.trans s3)).append (hd _)), hl, out_at ?_⟩
    have o2 := outstep (s2.trans s3) o1
    refine Out.bind o2 fun z4 v w4 e4 st4 t4 r4 o4 => ?_
    cases r4 <;> first | exact o4.elim | skip
    refine ⟨rfl, ?_⟩
    have hv := (newH_at (g := gX X) (z := z1.new dx (.own x)) (p := x) (o := HO.ins C dx []) (ob := Ob.ins c [])).mono st4
    exact Out.now o4 t4 hv
  · exact o1.elim
where
  outstep {α β : Type} {g : Kg} {Wx : WX} {rel : Wd → α → β → Prop} {z z' : Wd} {σ : L2.St} {r : R α} {Q : β → Hp → Prop} (st : Step z z') (o : Out g Wx rel z σ r Q) : Out g Wx rel z' σ r Q := by
    cases r with
    | ok a S => exact fun z2 b e s2 => o z2 b e (st.trans s2)
    | ex c fs S => exact fun z2 cls d e s2 => o z2 cls d e (st.trans s2)
    | bad => exact o
theorem me_makeD {c : Str} (hd : ∀ z, RWs (gX X) z dws dvs) (hv : Vals dvs ds) (M : Mk X.K C f) (F : FnG X.prog X.w X.K X.mg X.base k f fd ps (spM (gX X) n m)) (hgu : X.A.guards = some []) (hr : Room (k + 1) X.A) (hC : X.mg c = some (.ref C)) (hb : Binds X.K fd ps ds) (tk : Takes X Wx)
    (ha : MA X Wx (e :: es) fa) (hg : Gl X c := by rfl) (hdb : (c == ("__debug__" : Str)) = false := by decide) (he : starEach (e :: es) X.env = (false, eval e X.env) :: starEach es X.env := by rfl) (hpl : (backTo pos (starEach es X.env)).any (·.1) = false := by rfl) :
    ME X Wx (.Call (.Name c p) (e :: es) [] pos) (eMake c n m dws fa) := pe_mono (pe_makeG M F hgu hr hg hC hb hv tk ha hdb he hpl) fun σ H Q q => make_red hC hd q
theorem me_make0D {c : Str} (hd : ∀ z, RWs (gX X) z dws dvs) (hv : Vals dvs ds) (M : Mk X.K C f) (F : FnG X.prog X.w X.K X.mg X.base k f fd ps (spM (gX X) n m)) (hgu : X.A.guards = some []) (hr : Room (k + 1) X.A) (hC : X.mg c = some (.ref C)) (hb : Binds X.K fd ps ds) (tk : Takes X Wx)
    (hg : Gl X c := by rfl) (hdb : (c == ("__debug__" : Str)) = false := by decide) :
    ME X Wx (.Call (.Name c p) [] [] pos) (eMake c n m dws aNil) := by
  refine pe_mono (pe_makeG0 M F hgu hr hg hC hb hv tk hdb) fun σ H Q q => ?_
  obtain ⟨z, env, e, t, re, o⟩ := make_red (fa := aNil) hC hd q
  subst e
  exact Out.now o t .nil
end
end Mi

set_option Elab.async false
set_option linter.all false
set_option maxRecDepth 100000
set_option maxHeartbeats 4000000
namespace Mi
open PySem L2
/-! ### built-ins by their name -/
abbrev OpA := List W → Sto → R W
def eB (op : OpA) (a : Av) : Ev := fun env S => (a env S).bind op
def CallS (X : Cx) (Wx : WX) (f : Value) (op : OpA) : Prop :=
  ∃ r, CallR X f r ∧ ∀ (z : Wd) (σ : L2.St) (ws : List W) (vs : List V) (Q : VK), Tied (gX X) z → RWs (gX X) z ws vs → Out (gX X) Wx (RW (gX X)) z σ (op ws z.S) Q → r vs z.H Q
section
variable {X : Cx} {Wx : WX} {x : Str} {id T : String} {op : OpA} {e : Expr} {es : List Expr} {fa : Av} {p pos : Pos}
theorem cb_red {r : List V → Hp → VK → Prop} (h : ∀ (z : Wd) (σ : L2.St) (ws : List W) (vs : List V) (Q : VK), Tied (gX X) z → RWs (gX X) z ws vs → Out (gX X) Wx (RW (gX X)) z σ (op ws z.S) Q → r vs z.H Q) {σ : L2.St} {H : Hp} {Q : VK}
    (q : tM (gX X) Wx (RW (gX X)) (eB op fa) σ H Q) : tCB r (tM (gX X) Wx (RWs (gX X)) fa) σ H Q := by
  obtain ⟨z, env, rfl, t, re, o⟩ := q
  exact ⟨z, env, rfl, t, re, o.bind fun z1 xs ws e1 st1 t1 r1 o1 => h z1 σ ws xs Q t1 r1 o1⟩
theorem me_cb (h : CallS X Wx (.builtin id) op) (hm : X.mg x = none) (hv : bootBuiltins x = some (.builtin id)) (ha : MA X Wx (e :: es) fa) (hg : Gl X x := by rfl) (hn : x ≠ "__name__" := by decide) (hdb : (x == ("__debug__" : Str)) = false := by decide)
    (he : starEach (e :: es) X.env = (false, eval e X.env) :: starEach es X.env := by rfl) (hpl : (backTo pos (starEach es X.env)).any (·.1) = false := by rfl) : ME X Wx (.Call (.Name x p) (e :: es) [] pos) (eB op fa) := by
  obtain ⟨r, h1, h2⟩ := h
  exact pe_mono (pe_callB h1 hg hm hv ha hn hdb he hpl) fun σ H Q q => cb_red h2 q
theorem me_ct (h : CallS X Wx (.type T) op) (hm : X.mg x = none) (hv : bootBuiltins x = some (.type T)) (ha : MA X Wx (e :: es) fa) (hg : Gl X x := by rfl) (hn : x ≠ "__name__" := by decide) (hdb : (x == ("__debug__" : Str)) = false := by decide)
    (he : starEach (e :: es) X.env = (false, eval e X.env) :: starEach es X.env := by rfl) (hpl : (backTo pos (starEach es X.env)).any (·.1) = false := by rfl) : ME X Wx (.Call (.Name x p) (e :: es) [] pos) (eB op fa) := by
  obtain ⟨r, h1, h2⟩ := h
  exact pe_mono (pe_callTy h1 hg hm hv ha hn hdb he hpl) fun σ H Q q => cb_red h2 q
theorem me_bltn {n : String} (hm : X.mg x = none) (hv : bootBuiltins x = some (.type n)) (hg : Gl X x := by rfl) (hn : x ≠ "__name__" := by decide) (hd : (x == ("__debug__" : Str)) = false := by decide) : ME X Wx (.Name x pos) (eC (.ty n)) :=
  me_of (pe_bltn hg hm hv (v := .ty n) rfl hn hd) fun _ => .ty n
end
def lenOf (S : Sto) : W → Option Nat
  | .str x => if x.length ≤ sizeLine then some x.length else none
  | .tup ws => some ws.length
  | .lst ws => some ws.length
  | .dct ks ws => some (ks.zip ws).length
  | .h n => match S[n]? with
    | some (.lst ws) => some ws.length
    | some (.dct kvs) => some kvs.length
    | _ => none
  | _ => none
def bLen : OpA := fun ws S => match ws with
  | [w] => opR ((lenOf S w).map fun n => .int (n : Nat)) S
  | _ => .bad
/-- the built-in types of data -/
def tyOf (S : Sto) : W → Option String
  | .non => some "NoneType"
  | .bl _ => some "bool"
  | .int _ => some "int"
  | .str _ => some "str"
  | .tup _ => some "tuple"
  | .lst _ => some "list"
  | .dct _ _ => some "dict"
  | .h n => match S[n]? with
    | some (.lst _) => some "list"
    | some (.dct _) => some "dict"
    | _ => none
  | _ => none
def tys : List String := ["NoneType", "bool", "int", "str", "tuple", "list", "dict"]
def subTy (a b : String) : Bool := a == b || (a == "bool" && b == "int")
def bIsi : OpA := fun ws S => match ws with
  | [x, .ty b] => (match tyOf S x with
    | some a => if b ∈ tys then .ok (.bl (subTy a b)) S else .bad
    | none => .bad)
  | _ => .bad
theorem kitB_tys : ∀ a ∈ tys, ∀ b ∈ tys, kitB a b = some (subTy a b) := by decide +kernel
def blsOf : List W → Option (List Bool)
  | [] => some []
  | .bl b :: ws => (blsOf ws).map (b :: ·)
  | _ :: _ => none
def intsOf : List W → Option (List Int)
  | [] => some []
  | .int b :: ws => (intsOf ws).map (b :: ·)
  | _ :: _ => none
def strsOf : List W → Option (List Str)
  | [] => some []
  | .str b :: ws => (strsOf ws).map (b :: ·)
  | _ :: _ => none
theorem blsOf_eq : ∀ {ws : List W} {bs : List Bool}, blsOf ws = some bs → ws = bs.map W.bl
  | [], _, h => by cases h; rfl
  | .bl b :: ws, _, h => by
    obtain ⟨cs, h1, rfl⟩ := Option.map_eq_some_iff.mp (show (blsOf ws).map (b :: ·) = some _ from h)
    rw [blsOf_eq h1]
    rfl
theorem intsOf_eq : ∀ {ws : List W} {bs : List Int}, intsOf ws = some bs → ws = bs.map W.int
  | [], _, h => by cases h; rfl
  | .int b :: ws, _, h => by
    obtain ⟨cs, h1, rfl⟩ := Option.map_eq_some_iff.mp (show (intsOf ws).map (b :: ·) = some _ from h)
    rw [intsOf_eq h1]
    rfl
theorem strsOf_eq : ∀ {ws : List W} {bs : List Str}, strsOf ws = some bs → ws = bs.map W.str
  | [], _, h => by cases h; rfl
  | .str b :: ws, _, h => by
    obtain ⟨cs, h1, rfl⟩ := Option.map_eq_some_iff.mp (show (strsOf ws).map (b :: ·) = some _ from h)
    rw [strsOf_eq h1]
    rfl
@[simp] theorem blsOf_map (bs : List Bool) : blsOf (bs.map W.bl) = some bs := by
  induction bs with
  | nil => rfl
  | cons b bs ih => show (blsOf (bs.map W.bl)).map (b :: ·) = _; rw [ih]; rfl
@[simp] theorem intsOf_map (bs : List Int) : intsOf (bs.map W.int) = some bs := by
  induction bs with
  | nil => rfl
  | cons b bs ih => show (intsOf (bs.map W.int)).map (b :: ·) = _; rw [ih]; rfl
@[simp] theorem strsOf_map (bs : List Str) : strsOf (bs.map W.str) = some bs := by
  induction bs with
  | nil => rfl
  | cons b bs ih => show (strsOf (bs.map W.str)).map (b :: ·) = _; rw [ih]; rfl
def bSeq (f : List W → Option W) : OpA := fun ws S => match ws with
  | [w] => opR ((seqL S w).bind f) S
  | _ => .bad
def bAll : OpA := bSeq fun ws => (blsOf ws).map fun bs => .bl (bs.all id)
def bAny : OpA := bSeq fun ws => (blsOf ws).map fun bs => .bl (bs.any id)
def bSum : OpA := bSeq fun ws => (intsOf ws).map fun bs => .int bs.sum
def bAbs : OpA := fun ws S => match ws with
  | [.int i] => .ok (.int (if i < 0 then -i else i)) S
  | _ => .bad
def maxI : Int → List Int → Int
  | a, [] => a
  | a, b :: bs => maxI (if b > a then b else a) bs
def bMax : OpA := fun ws S => match ws with
  | [.int i, .int j] => .ok (.int (if j > i then j else i)) S
  | [w] => opR ((seqL S w).bind fun ws => (intsOf ws).bind fun ns => match ns with
    | [] => none
    | a :: bs => some (.int (maxI a bs))) S
  | _ => .bad
def bMin : OpA := fun ws S => match ws with
  | [.int i, .int j] => .ok (.int (if j < i then j else i)) S
  | _ => .bad
def bInt : OpA := fun ws S => match ws with
  | [.int i] => .ok (.int i) S
  | [.bl k] => .ok (.int (if k then 1 else 0)) S
  | _ => .bad
def bStr : OpA := fun ws S => match ws with
  | [.int i] => if i.natAbs.log2 < 1920 then .ok (.str (toString i)) S else .bad
  | _ => .bad
def bTuple : OpA := fun ws S => match ws with
  | [.tup ws] => .ok (.tup ws) S
  | [w] => opR ((seqL S w).map .tup) S
  | _ => .bad
/-- a new list of the items; as data, or one that changes -/
def bList (fin : List W → Sto → R W) : OpA := fun ws S => match ws with
  | [w] => (opR (seqI S w) S).bind fin
  | _ => .bad
def newObj (S : Sto) (o : Ob) : R W := .ok (.h S.length) (S ++ [o])
/-- what is made at a new place -/
def NewOk {α : Type} (g : Kg) (rel : Wd → α → HO → Prop) (fin : α → Sto → R W) : Prop := ∀ (Wx : WX) (z : Wd) (σ : L2.St) (p : Addr) (a : α) (o : HO) (Q : VK), Tied g z → z.H p = none → rel z a o → Out g Wx (RW g) z σ (fin a z.S) Q → Q (.ref p) (upd z.H p o)
theorem new_lst {g : Kg} : NewOk g (rL g) finL := by
  rintro Wx z σ p ws _ Q t hp ⟨vs, rfl, r⟩ o
  exact o (z.new p _) (.ref p) rfl (Step.new t hp) (t.new hp) (newL t hp r)
theorem new_h {g : Kg} : NewOk g (rL g) finH := by
  rintro Wx z σ p ws _ Q t hp ⟨vs, rfl, r⟩ o
  exact o (z.newH p (.lst vs) (.lst ws)) (.ref p) rfl (Step.newH t hp) (t.newH hp (.lst (r.mono (Step.newH t hp)))) newH_at
theorem new_d {g : Kg} : NewOk g (rD g) finD := by
  rintro Wx z σ p kvs _ Q t hp ⟨kvs', rfl, r⟩ o
  obtain ⟨h1, h2, h3⟩ := rfs_split r
  refine o (z.new p (.dK kvs')) (.ref p) rfl (Step.new t hp) (t.new hp) (.dct ?_ (t.notLive hp) (by rw [List.length_map, List.length_map]; exact h3) (h1.mono (Step.new t hp)))
  rw [h2]
  exact upd_same
theorem new_dh {g : Kg} : NewOk g (rD g) finDH := by
  rintro Wx z σ p kvs _ Q t hp ⟨kvs', rfl, r⟩ o
  exact o (z.newH p (.dK kvs') (.dct kvs)) (.ref p) rfl (Step.newH t hp) (t.newH hp (.dct (r.mono (Step.newH t hp)))) newH_at
section
variable {X : Cx} {Wx : WX}
theorem rws1 {g : Kg} {z : Wd} {w : W} {vs : List V} (r : RWs g z [w] vs) : ∃ v, vs = [v] ∧ RW g z w v := by
  cases r with
  | cons r t => cases t; exact ⟨_, rfl, r⟩
theorem rws2 {g : Kg} {z : Wd} {w w' : W} {vs : List V} (r : RWs g z [w, w'] vs) : ∃ v v', vs = [v, v'] ∧ RW g z w v ∧ RW g z w' v' := by
  cases r with
  | cons r t =>
    obtain ⟨v', rfl, r'⟩ := rws1 t
    exact ⟨_, _, rfl, r, r'⟩
theorem cs_len : CallS X Wx (.builtin "len") bLen := by
  refine ⟨_, call_len.or call_lenD, fun z σ ws vs Q t rs o => ?_⟩
  unfold bLen at o
  split at o
  · rename_i w
    obtain ⟨v, rfl, r⟩ := rws1 rs
    obtain ⟨y, e, o'⟩ := opR_some o
    obtain ⟨n, e, rfl⟩ := Option.map_eq_some_iff.mp e
    have q : Q (.int n) z.H := Out.now o' t (.int _)
    cases r with
    | str x =>
      unfold lenOf at e
      dsimp only at e
      split at e
      · rename_i h
        cases e
        exact .inl ⟨_, _, rfl, ⟨h, rfl⟩, q⟩
      · cases e
    | tup h r => cases e; exact .inl ⟨_, _, rfl, .inr ⟨_, h.sq, r.length⟩, q⟩
    | lst h n r => cases e; exact .inl ⟨_, _, rfl, .inl ⟨_, SqL.of h, r.length⟩, q⟩
    | dct h n l r =>
      cases e
      refine .inr ⟨_, _, rfl, h, ?_⟩
      rw [show (List.zip _ _ : List (Key × V)).length = _ from (Paired.length (rfs_zip (ks := _) r)).symm]
      exact q
    | @h k l =>
      unfold lenOf at e
      dsimp only at e
      split at e
      · rename_i ws e0
        cases e
        obtain ⟨vs, h, r⟩ := t.lstAt e0
        exact .inl ⟨_, _, rfl, .inl ⟨_, SqL.of h, r.length⟩, q⟩
      · rename_i kvs e0
        cases e
        obtain ⟨kvs', h, r⟩ := t.dctAt e0
        refine .inr ⟨_, _, rfl, h, ?_⟩
        rw [← show kvs.length = kvs'.length from Paired.length r]
        exact q
      · cases e
    | _ => cases e
  · exact o.elim
theorem tyOf_at {g : Kg} {z : Wd} {w : W} {v : V} {a : String} (t : Tied g z) (h : tyOf z.S w = some a) (r : RW g z w v) : TyX g.K z.H v (.type a) ∧ a ∈ tys := by
  cases r with
  | non => cases h; exact ⟨.base .non, by decide⟩
  | bl b => cases h; exact ⟨.base (.bl b), by decide⟩
  | int b => cases h; exact ⟨.base (.int b), by decide⟩
  | str b => cases h; exact ⟨.base (.str b), by decide⟩
  | tup e r =>
    cases h
    refine ⟨?_, by decide⟩
    rcases e.sq with (e | ⟨o, e⟩) | ⟨o, its, n, e, c, _⟩
    · exact .base (.tup e)
    · exact .fTuple e
    · exact .kTuple e c
  | lst e n r => cases h; exact ⟨.base (.lst e), by decide⟩
  | dct e n l r => cases h; exact ⟨.base (.dK e), by decide⟩
  | @h k l =>
    unfold tyOf at h
    dsimp only at h
    split at h
    · rename_i ws e0
      cases h
      obtain ⟨vs, h, r⟩ := t.lstAt e0
      exact ⟨.base (.lst h), by decide⟩
    · rename_i kvs e0
      cases h
      obtain ⟨kvs', h, r⟩ := t.dctAt e0
      exact ⟨.base (.dK h), by decide⟩
    · cases h
  | _ => cases h
theorem cs_isi : CallS X Wx (.builtin "isinstance") bIsi := by
  refine ⟨_, call_isi, fun z σ ws vs Q t rs o => ?_⟩
  unfold bIsi at o
  split at o
  · rename_i x b
    obtain ⟨v, v', rfl, r, r'⟩ := rws2 rs
    cases r'
    split at o
    · rename_i a e
      split at o
      · rename_i hb
        obtain ⟨h1, h2⟩ := tyOf_at t e r
        exact ⟨_, _, _, _, _, rfl, .ty b, h1, kit_ty (kitB_tys a h2 b hb), Out.now o t (.bl _)⟩
      · exact o.elim
    · exact o.elim
  · exact o.elim
theorem seq_red {f : List W → Option W} {z : Wd} {σ : L2.St} {ws : List W} {vs : List V} {Q : VK} (t : Tied (gX X) z) (rs : RWs (gX X) z ws vs) (o : Out (gX X) Wx (RW (gX X)) z σ (bSeq f ws z.S) Q) :
    ∃ a us xs y, vs = [.ref a] ∧ z.H a = some (.lst us) ∧ RWs (gX X) z xs us ∧ f xs = some y ∧ Out (gX X) Wx (RW (gX X)) z σ (.ok y z.S) Q := by
  unfold bSeq at o
  split at o
  · obtain ⟨v, rfl, r⟩ := rws1 rs
    obtain ⟨y, e, o'⟩ := opR_some o
    obtain ⟨xs, e1, e2⟩ := Option.bind_eq_some_iff.mp e
    obtain ⟨a, us, rfl, h, r1⟩ := seqL_at t e1 r
    exact ⟨a, us, xs, y, rfl, h, r1, e2, o'⟩
  · exact o.elim
theorem cs_all (hc : X.calm = true) : CallS X Wx (.builtin "all") bAll := by
  refine ⟨_, cr_all hc, fun z σ ws vs Q t rs o => ?_⟩
  obtain ⟨a, us, xs, y, rfl, h, r, e, o'⟩ := seq_red t rs o
  obtain ⟨bs, e1, rfl⟩ := Option.map_eq_some_iff.mp e
  rw [blsOf_eq e1] at r
  rw [r.bls] at h
  exact ⟨a, bs, rfl, SqL.of h, Out.now o' t (.bl _)⟩
theorem cs_any (hc : X.calm = true) : CallS X Wx (.builtin "any") bAny := by
  refine ⟨_, cr_any hc, fun z σ ws vs Q t rs o => ?_⟩
  obtain ⟨a, us, xs, y, rfl, h, r, e, o'⟩ := seq_red t rs o
  obtain ⟨bs, e1, rfl⟩ := Option.map_eq_some_iff.mp e
  rw [blsOf_eq e1] at r
  rw [r.bls] at h
  exact ⟨a, bs, rfl, SqL.of h, Out.now o' t (.bl _)⟩
theorem cs_sum (hc : X.calm = true) : CallS X Wx (.builtin "sum") bSum := by
  refine ⟨_, cr_sum hc, fun z σ ws vs Q t rs o => ?_⟩
  obtain ⟨a, us, xs, y, rfl, h, r, e, o'⟩ := seq_red t rs o
  obtain ⟨bs, e1, rfl⟩ := Option.map_eq_some_iff.mp e
  rw [intsOf_eq e1] at r
  rw [r.ints] at h
  exact ⟨a, bs, rfl, SqL.of h, Out.now o' t (.int _)⟩
theorem cs_abs : CallS X Wx (.builtin "abs") bAbs := by
  refine ⟨_, call_abs, fun z σ ws vs Q t rs o => ?_⟩
  unfold bAbs at o
  split at o
  · obtain ⟨v, rfl, r⟩ := rws1 rs
    cases r
    exact ⟨_, rfl, Out.now o t (.int _)⟩
  · exact o.elim
theorem maxI_ge : ∀ (bs : List Int) (a : Int), a ≤ maxI a bs ∧ (∀ b ∈ bs, b ≤ maxI a bs) ∧ (maxI a bs = a ∨ maxI a bs ∈ bs)
  | [], a => ⟨Int.le_refl _, fun b h => absurd h List.not_mem_nil, .inl rfl⟩
  | b :: bs, a => by
    obtain ⟨h1, h2, h3⟩ := maxI_ge bs (if b > a then b else a)
    show a ≤ maxI (if b > a then b else a) bs ∧ (∀ c ∈ b :: bs, c ≤ maxI (if b > a then b else a) bs) ∧ (maxI (if b > a then b else a) bs = a ∨ maxI (if b > a then b else a) bs ∈ b :: bs)
    refine ⟨?_, fun c hc => ?_, ?_⟩
    · split at h1 <;> split <;> omega
    · rcases List.mem_cons.mp hc with rfl | hc
      · split at h1 <;> split <;> omega
      · exact h2 c hc
    · rcases h3 with h3 | h3
      · by_cases q : b > a
        · rw [if_pos q] at h3 ⊢
          exact .inr (List.mem_cons.mpr (.inl h3))
        · rw [if_neg q] at h3 ⊢
          exact .inl h3
      · exact .inr (List.mem_cons_of_mem _ h3)
theorem cs_max (hc : X.calm = true) : CallS X Wx (.builtin "max") bMax := by
  refine ⟨_, (call_max2 hc).or (cr_max hc), fun z σ ws vs Q t rs o => ?_⟩
  unfold bMax at o
  split at o
  · obtain ⟨v, v', rfl, r, r'⟩ := rws2 rs
    cases r
    cases r'
    exact .inl ⟨_, _, rfl, Out.now o t (.int _)⟩
  · obtain ⟨v, rfl, r⟩ := rws1 rs
    obtain ⟨y, e, o'⟩ := opR_some o
    obtain ⟨xs, e1, e2⟩ := Option.bind_eq_some_iff.mp e
    obtain ⟨ns, e3, e4⟩ := Option.bind_eq_some_iff.mp e2
    obtain ⟨a, us, rfl, h, r1⟩ := seqL_at t e1 r
    rw [intsOf_eq e3] at r1
    rw [r1.ints] at h
    cases ns with
    | nil => cases e4
    | cons n ns =>
      cases e4
      obtain ⟨h1, h2, h3⟩ := maxI_ge ns n
      refine .inr ⟨a, n :: ns, rfl, SqL.of h, Nat.succ_pos _, fun m hm hle => ?_⟩
      have e5 : m = maxI n ns := by
        refine Int.le_antisymm ?_ (hle _ (h3.elim (fun q => List.mem_cons.mpr (.inl q)) fun q => List.mem_cons_of_mem _ q))
        rcases List.mem_cons.mp hm with rfl | hm
        · exact h1
        · exact h2 m hm
      rw [e5]
      exact Out.now o' t (.int _)
  · exact o.elim
theorem cs_min (hc : X.calm = true) : CallS X Wx (.builtin "min") bMin := by
  refine ⟨_, call_min2 hc, fun z σ ws vs Q t rs o => ?_⟩
  unfold bMin at o
  split at o
  · obtain ⟨v, v', rfl, r, r'⟩ := rws2 rs
    cases r
    cases r'
    exact ⟨_, _, rfl, Out.now o t (.int _)⟩
  · exact o.elim
theorem cs_int : CallS X Wx (.type "int") bInt := by
  refine ⟨_, call_int1, fun z σ ws vs Q t rs o => ?_⟩
  unfold bInt at o
  split at o
  · obtain ⟨v, rfl, r⟩ := rws1 rs
    cases r
    exact .inl ⟨_, rfl, Out.now o t (.int _)⟩
  · obtain ⟨v, rfl, r⟩ := rws1 rs
    cases r
    exact .inr ⟨_, rfl, Out.now o t (.int _)⟩
  · exact o.elim
theorem cs_str : CallS X Wx (.type "str") bStr := by
  refine ⟨_, call_str_int, fun z σ ws vs Q t rs o => ?_⟩
  unfold bStr at o
  split at o
  · obtain ⟨v, rfl, r⟩ := rws1 rs
    cases r
    split at o
    · rename_i h
      exact ⟨_, rfl, h, Out.now o t (.str _)⟩
    · exact o.elim
  · exact o.elim
theorem cs_tuple : CallS X Wx (.type "tuple") bTuple := by
  refine ⟨_, call_tuple_of, fun z σ ws vs Q t rs o => ?_⟩
  unfold bTuple at o
  split at o
  · obtain ⟨v, rfl, r⟩ := rws1 rs
    cases r with
    | tup h r => exact ⟨_, _, rfl, .inr ⟨h.sq, Out.now o t (.tup h r)⟩⟩
  · obtain ⟨v, rfl, r⟩ := rws1 rs
    obtain ⟨y, e, o'⟩ := opR_some o
    obtain ⟨xs, e1, rfl⟩ := Option.map_eq_some_iff.mp e
    obtain ⟨a, us, rfl, h, r1⟩ := seqL_at t e1 r
    exact ⟨_, _, rfl, .inl ⟨SqL.of h, fun p hp => o' (z.new p _) (.ref p) rfl (Step.new t hp) (t.new hp) (newT t hp r1)⟩⟩
  · exact o.elim
theorem cs_list {fin : List W → Sto → R W} (hf : NewOk (gX X) (rL (gX X)) fin) : CallS X Wx (.type "list") (bList fin) := by
  refine ⟨_, call_list_of, fun z σ ws vs Q t rs o => ?_⟩
  unfold bList at o
  split at o
  · obtain ⟨v, rfl, r⟩ := rws1 rs
    rename_i w
    cases h : seqI z.S w with
    | none =>
      rw [h] at o
      exact o.elim
    | some xs =>
      rw [h] at o
      obtain ⟨a, us, rfl, h1, r1⟩ := seqI_at t h r
      exact ⟨a, us, rfl, h1, fun p hp => hf Wx z σ p xs _ Q t hp ⟨us, rfl, r1⟩ o⟩
  · exact o.elim
end
end Mi

set_option Elab.async false
set_option linter.all false
set_option maxRecDepth 100000
set_option maxHeartbeats 4000000
namespace Mi
open PySem L2
/-! ### methods of built-in types -/
abbrev OpM := W → List W → Sto → R W
def isLst (S : Sto) (w : W) : Bool := (seqL S w).isSome
def isDct (S : Sto) (w : W) : Bool := (dctOf S w).isSome
def isStr (_ : Sto) (w : W) : Bool := match w with
  | .str _ => true
  | _ => false
def eM (ty : Sto → W → Bool) (op : OpM) (o : Ev) (a : Av) : Ev := fun env S => (o env S).bind fun x S1 => if ty S1 x = true then (a env S1).bind fun ws S2 => op x ws S2 else .bad
def TyS (g : Kg) (T : String) (ty : Sto → W → Bool) : Prop := ∀ (z : Wd) (w : W) (v : V), Tied g z → RW g z w v → ty z.S w = true → tyV g.K T v z.H
theorem ty_lst {g : Kg} : TyS g "list" isLst := fun z w v t r h => by
  obtain ⟨ws, e⟩ := Option.isSome_iff_exists.mp h
  obtain ⟨a, vs, rfl, h1, r1⟩ := seqL_at t e r
  exact .inl ⟨rfl, vs, SqL.of h1⟩
theorem ty_dct {g : Kg} : TyS g "dict" isDct := fun z w v t r h => by
  obtain ⟨ws, e⟩ := Option.isSome_iff_exists.mp h
  obtain ⟨a, vs, rfl, h1, r1⟩ := dctOf_at t e r
  exact .inr (.inr (.inl ⟨rfl, .inl ⟨vs, h1⟩⟩))
theorem ty_str {g : Kg} : TyS g "str" isStr := fun z w v t r h => by
  cases r <;> first | exact (rfl : "str" = "str") | cases h
def MtS (X : Cx) (Wx : WX) (id : String) (op : OpM) : Prop :=
  ∃ r, MtR X id r ∧ ∀ (z : Wd) (σ : L2.St) (w : W) (x : V) (ws : List W) (vs : List V) (Q : VK), Tied (gX X) z → RW (gX X) z w x → RWs (gX X) z ws vs → Out (gX X) Wx (RW (gX X)) z σ (op w ws z.S) Q → r x vs z.H Q
section
variable {X : Cx} {Wx : WX} {T id : String} {name : Str} {op : OpM} {ty : Sto → W → Bool} {o e : Expr} {es : List Expr} {fo : Ev} {fa : Av} {apos cpos : Pos}
theorem bm_red {r : V → List V → Hp → VK → Prop} (hty : TyS (gX X) T ty) (h : ∀ (z : Wd) (σ : L2.St) (w : W) (x : V) (ws : List W) (vs : List V) (Q : VK), Tied (gX X) z → RW (gX X) z w x → RWs (gX X) z ws vs → Out (gX X) Wx (RW (gX X)) z σ (op w ws z.S) Q → r x vs z.H Q)
    {σ : L2.St} {H : Hp} {Q : VK} (q : tM (gX X) Wx (RW (gX X)) (eM ty op fo fa) σ H Q) : tBM X.K T r (tM (gX X) Wx (RW (gX X)) fo) (tM (gX X) Wx (RWs (gX X)) fa) σ H Q := by
  obtain ⟨z, env, rfl, t, re, o⟩ := q
  refine ⟨z, env, rfl, t, re, o.bind fun z1 x w e1 st1 t1 r1 o1 => ?_⟩
  split at o1
  · rename_i ht
    exact ⟨hty z1 w x t1 r1 ht, z1, env, rfl, t1, re.mono st1, o1.bind fun z2 xs ws e2 st2 t2 r2 o2 => h z2 σ w x ws xs Q t2 (r1.mono st2) r2 o2⟩
  · exact o1.elim
theorem me_bm (pa : PlainAttrs T) (slot : Slot T name id) (hty : typeOf (.builtin id) = pure (.type "method_descriptor")) (ht : TyS (gX X) T ty) (h : MtS X Wx id op) (ho : ME X Wx o fo) (ha : MA X Wx (e :: es) fa)
    (hbase : attributeBase o name X.env (eval o X.env) = eval o X.env := by rfl)
    (hfew : ((backTo cpos (starEach (e :: es) X.env)).all (fun x => !x.1) && (backToKw cpos (keywordEach [] X.env)).all (fun x => x.1.isSome)
      && decide ((e :: es).length + ([] : List Keyword).length + (if ([] : List Keyword).isEmpty then 0 else 1) < 30)) = true := by rfl)
    (hline : (apos.endLine == cpos.line) = true := by rfl) (hs : starEach (e :: es) X.env = (false, eval e X.env) :: starEach es X.env := by rfl) (hplain : (backTo cpos (starEach es X.env)).any (·.1) = false := by rfl) :
    ME X Wx (.Call (.Attribute o name apos) (e :: es) [] cpos) (eM ty op fo fa) := by
  obtain ⟨r, h1, h2⟩ := h
  exact pe_mono (pe_bm pa slot hty h1 ho ha hbase hfew hline hs hplain) fun σ H Q q => bm_red ht h2 q
theorem me_bm0 (pa : PlainAttrs T) (slot : Slot T name id) (hty : typeOf (.builtin id) = pure (.type "method_descriptor")) (ht : TyS (gX X) T ty) (h : MtS X Wx id op) (ho : ME X Wx o fo)
    (hbase : attributeBase o name X.env (eval o X.env) = eval o X.env := by rfl) (hline : (apos.endLine == cpos.line) = true := by rfl) :
    ME X Wx (.Call (.Attribute o name apos) [] [] cpos) (eM ty op fo aNil) := by
  obtain ⟨r, h1, h2⟩ := h
  refine pe_mono (pe_bm0 pa slot hty h1 ho hbase hline) fun σ H Q q => ?_
  obtain ⟨z, env, rfl, t, re, o⟩ := bm_red (fa := aNil) ht h2 q
  refine ⟨z, env, rfl, t, re, o.mono fun b H ⟨h1, z', env', e, t', re', o'⟩ => ⟨h1, ?_⟩⟩
  subst e
  exact Out.now o' t' .nil
end
/-! ### what changes an object of the store -/
def putO (n : Nat) (o : Ob) (S : Sto) : R W := .ok .non (S.set n o)
theorem put_red {g : Kg} {Wx : WX} {z : Wd} {σ : L2.St} {n : Nat} {u ob : Ob} {ho : HO} {Q : VK} (t : Tied g z) (hu : z.S[n]? = some u) (nu : u ≠ .gone) (r : RO g z (z.m n) ob ho) (o : Out g Wx (RW g) z σ (putO n ob z.S) Q) : Q .non (upd z.H (z.m n) ho) :=
  o (z.put n ho ob) .non rfl (Step.put t hu nu) (t.put hu nu (r.mono (Step.put t hu nu))) .non
def mAppend : OpM := fun x ws S => match x, ws with
  | .h n, [w] => (match lstAt S n with
    | some xs => if xs.length < sizeLine then putO n (.lst (xs ++ [w])) S else .bad
    | none => .bad)
  | _, _ => .bad
def mExtend : OpM := fun x ws S => match x, ws with
  | .h n, [w] => (match lstAt S n with
    | some xs => (match seqL S w with
      | some ys => if xs.length + ys.length ≤ sizeLine then putO n (.lst (xs ++ ys)) S else .bad
      | none => .bad)
    | none => .bad)
  | _, _ => .bad
def mClearL : OpM := fun x ws S => match x, ws with
  | .h n, [] => (match lstAt S n with
    | some _ => putO n (.lst []) S
    | none => .bad)
  | _, _ => .bad
def mClearD : OpM := fun x ws S => match x, ws with
  | .h n, [] => (match dctAt S n with
    | some _ => putO n (.dct []) S
    | none => .bad)
  | _, _ => .bad
def mPop : OpM := fun x ws S => match x, ws with
  | .h n, [] => (match lstAt S n with
    | some xs => (match xs[xs.length - 1]? with
      | some y => (putO n (.lst xs.dropLast) S).bind fun _ S1 => .ok y S1
      | none => .bad)
    | none => .bad)
  | _, _ => .bad
def putW {κ : Type} [DecidableEq κ] (kvs : List (κ × W)) (k : κ) (v : W) : List (κ × W) :=
  if (kvs.any fun kv => decide (kv.1 = k)) = true then kvs.map (fun kv => if kv.1 = k then (kv.1, v) else kv) else kvs ++ [(k, v)]
def dropW {κ : Type} [DecidableEq κ] (kvs : List (κ × W)) (k : κ) : List (κ × W) := kvs.filter fun kv => decide (kv.1 ≠ k)
def mergeW (kvs more : List (Key × W)) : List (Key × W) := more.foldl (fun acc kv => putW acc kv.1 kv.2) kvs
def mUpdate : OpM := fun x ws S => match x, ws with
  | .h n, [.dct ks us] => (match dctAt S n with
    | some kvs => if kvs.length + (ks.zip us).length ≤ sizeLine then putO n (.dct (mergeW kvs (ks.zip us))) S else .bad
    | none => .bad)
  | _, _ => .bad
def mGet : OpM := fun x ws S => match dctOf S x with
  | some kvs => (match ws with
    | [k] => (match keyOf k with
      | some k => .ok ((lookW kvs k).getD .non) S
      | none => .bad)
    | [k, d] => (match keyOf k with
      | some k => .ok ((lookW kvs k).getD d) S
      | none => .bad)
    | _ => .bad)
  | none => .bad
def mJoin : OpM := fun x ws S => match x, ws with
  | .str a, [w] => (match (seqI S w).bind strsOf with
    | some ys => if (ys.map (·.length)).sum + ys.length * a.length ≤ 16777216 then .ok (.str (Txt.join a ys)) S else .bad
    | none => .bad)
  | _, _ => .bad
def mSplit : OpM := fun x ws S => match x, ws with
  | .str a, [.str b] => if (b.length == 0) = false ∧ a.length + 2 ≤ sizeLine then .ok (.lst ((Txt.split a b).map W.str)) S else .bad
  | _, _ => .bad
def mPartition : OpM := fun x ws S => match x, ws with
  | .str a, [.str b] => if (b.length == 0) = false ∧ a.length ≤ sizeLine then .ok (.tup [.str (Txt.partition a b).1, .str (Txt.partition a b).2.1, .str (Txt.partition a b).2.2]) S else .bad
  | _, _ => .bad
section
variable {g : Kg} {z : Wd} {κ : Type} [DecidableEq κ]
theorem rfs_any (k : κ) : ∀ {a : List (κ × W)} {b : List (κ × V)}, RFs g z a b → (a.any fun kv => decide (kv.1 = k)) = b.any fun kv => decide (kv.1 = k)
  | _, _, .nil => rfl
  | p :: a, q :: b, .cons h t => by rw [List.any_cons, List.any_cons, rfs_any k t, h.1]
theorem rfs_append : ∀ {a a' : List (κ × W)} {b b' : List (κ × V)}, RFs g z a b → RFs g z a' b' → RFs g z (a ++ a') (b ++ b')
  | _, _, _, _, .nil, s => s
  | _, _, _, _, .cons h t, s => .cons h (rfs_append t s)
theorem rfs_put {a : List (κ × W)} {b : List (κ × V)} (k : κ) {w : W} {v : V} (h : RFs g z a b) (r : RW g z w v) : RFs g z (putW a k w) (putK b k v) := by
  unfold putW putK
  rw [rfs_any k h]
  split
  · rename_i hh
    clear hh
    induction h with
    | nil => exact .nil
    | @cons p q ps qs h t ih =>
      refine .cons ?_ ih
      dsimp only
      by_cases e : p.1 = k
      · rw [if_pos e, if_pos (h.1 ▸ e)]
        exact ⟨h.1, r⟩
      · rw [if_neg e, if_neg (fun q => e (h.1.trans q))]
        exact h
  · exact rfs_append h (.cons ⟨rfl, r⟩ .nil)
theorem rfs_drop {a : List (κ × W)} {b : List (κ × V)} (k : κ) (h : RFs g z a b) : RFs g z (dropW a k) (dropK b k) := by
  unfold dropW dropK
  induction h with
  | nil => exact .nil
  | @cons p q ps qs h t ih =>
    rw [List.filter_cons, List.filter_cons]
    by_cases e : p.1 = k
    · have e' : q.1 = k := h.1 ▸ e
      rw [if_neg (by simp [e]), if_neg (by simp [e'])]
      exact ih
    · have e' : ¬ q.1 = k := fun q => e (h.1.trans q)
      rw [if_pos (by simp [e]), if_pos (by simp [e'])]
      exact .cons h ih
end
theorem rfs_merge {g : Kg} {z : Wd} : ∀ {c : List (Key × W)} {d : List (Key × V)} {a : List (Key × W)} {b : List (Key × V)}, RFs g z c d → RFs g z a b → RFs g z (mergeW a c) (mergeK b d)
  | _, _, _, _, .nil, h => h
  | p :: c, q :: d, a, b, .cons h t, r => by
    show RFs g z (mergeW (putW a p.1 p.2) c) (mergeK (putK b q.1 q.2) d)
    have : RFs g z (putW a p.1 p.2) (putK b q.1 q.2) := by
      rw [h.1]
      exact rfs_put q.1 r h.2
    exact rfs_merge t this
section
variable {X : Cx} {Wx : WX}
theorem mt_dupdate : MtR X "dict.update" (fun x vs H Q => ∃ (d b : Addr) (kvs more : List (Key × V)), x = .ref d ∧ vs = [.ref b] ∧ d ≠ b ∧ H d = some (.dK kvs) ∧ H b = some (.dK more) ∧ kvs.length + more.length ≤ sizeLine ∧ Q .non (upd H d (.dK (mergeK kvs more)))) := by
  rintro pins s σ H x vs v us Q I rx rv ⟨d, b, kvs, more, rfl, rfl, hne, hd, hb, hl, q⟩
  cases rx
  obtain ⟨u, rfl, ru⟩ := rv.one
  cases ru
  obtain ⟨z1, h1, vs1, r1, D1⟩ := (show ObjOk X.prog X.w H s.heap d (.dK kvs) from I.hok d _ hd)
  obtain ⟨z2, h2, vs2, r2, D2⟩ := (show ObjOk X.prog X.w H s.heap b (.dK more) from I.hok b _ hb)
  have l1 : kvs.length = vs1.length := Paired.length r1
  have l2 : more.length = vs2.length := Paired.length r2
  refine call_meetsIn PySem.F.slot_dict_update D1.typeIs PySem.F.entry_dict_update (PySem.F.args_dict_update_2 _ _) (meets_dict_update (mixKind X.prog X.w) d b hne h2) ⟨vs1, vs2, D1, D2, by omega, fun h' hd' _ hs => ?_⟩
  have he : ∃ q, h'.get? d = some q := let ⟨o, es, ep, e, _⟩ := hd'; ⟨o, e⟩
  have hm : (mergeK kvs more).length ≤ sizeLine := Nat.le_trans (length_mergeK more kvs) hl
  exact ⟨.non, _, d_write (t' := s.toks) I (by rw [hd]; trivial) hs he (dk_new hm h1 (KV.merge r2 r1) hd'), rfl, q⟩
theorem ms_append : MtS X Wx "list.append" mAppend := by
  refine ⟨_, mt_append, fun z σ w x ws vs Q t r rs o => ?_⟩
  unfold mAppend at o
  split at o
  · rename_i n y
    obtain ⟨v, rfl, rv⟩ := rws1 rs
    cases r
    split at o
    · rename_i xs e
      split at o
      · rename_i hl
        obtain ⟨us, h, r1⟩ := t.lstAt (lstAt_eq.mp e)
        exact ⟨_, us, v, rfl, rfl, h, by rw [← r1.length]; exact hl, put_red t (lstAt_eq.mp e) (by intro q; cases q) (.lst (r1.append (.cons rv .nil))) o⟩
      · exact o.elim
    · exact o.elim
  · exact o.elim
theorem ms_extend : MtS X Wx "list.extend" mExtend := by
  refine ⟨_, mt_extend, fun z σ w x ws vs Q t r rs o => ?_⟩
  unfold mExtend at o
  split at o
  · rename_i n y
    obtain ⟨v, rfl, rv⟩ := rws1 rs
    cases r
    split at o
    · rename_i xs e
      split at o
      · rename_i ys e2
        split at o
        · rename_i hl
          obtain ⟨us, h, r1⟩ := t.lstAt (lstAt_eq.mp e)
          obtain ⟨b, us2, rfl, h2, r2⟩ := seqL_at t e2 rv
          exact ⟨_, b, us, us2, rfl, rfl, h, h2, by rw [← r1.length, ← r2.length]; exact hl, put_red t (lstAt_eq.mp e) (by intro q; cases q) (.lst (r1.append r2)) o⟩
        · exact o.elim
      · exact o.elim
    · exact o.elim
  · exact o.elim
theorem ms_clearL : MtS X Wx "list.clear" mClearL := by
  refine ⟨_, mt_clear, fun z σ w x ws vs Q t r rs o => ?_⟩
  unfold mClearL at o
  split at o
  · rename_i n
    cases rs
    cases r
    split at o
    · rename_i xs e
      obtain ⟨us, h, r1⟩ := t.lstAt (lstAt_eq.mp e)
      exact ⟨_, us, rfl, rfl, h, put_red t (lstAt_eq.mp e) (by intro q; cases q) (.lst .nil) o⟩
    · exact o.elim
  · exact o.elim
theorem ms_clearD : MtS X Wx "dict.clear" mClearD := by
  refine ⟨_, mtd_clear, fun z σ w x ws vs Q t r rs o => ?_⟩
  unfold mClearD at o
  split at o
  · rename_i n
    cases rs
    cases r
    split at o
    · rename_i xs e
      obtain ⟨us, h, r1⟩ := t.dctAt (dctAt_eq.mp e)
      exact ⟨_, us, rfl, rfl, h, put_red t (dctAt_eq.mp e) (by intro q; cases q) (.dct .nil) o⟩
    · exact o.elim
  · exact o.elim
theorem ms_pop : MtS X Wx "list.pop" mPop := by
  refine ⟨_, mt_pop, fun z σ w x ws vs Q t r rs o => ?_⟩
  unfold mPop at o
  split at o
  · rename_i n
    cases rs
    cases r
    split at o
    · rename_i xs e
      split at o
      · rename_i y ey
        obtain ⟨us, h, r1⟩ := t.lstAt (lstAt_eq.mp e)
        obtain ⟨u, eu, ru⟩ := r1.get ey
        rw [r1.length] at eu
        refine ⟨_, us, u, rfl, rfl, h, eu, ?_⟩
        have st := Step.put (o := HO.lst us.dropLast) (ob := .lst xs.dropLast) t (lstAt_eq.mp e) (by intro q; cases q)
        exact o (z.put n (.lst us.dropLast) (.lst xs.dropLast)) u rfl st (t.put (lstAt_eq.mp e) (by intro q; cases q) ((RO.lst r1.dropLast).mono st)) (ru.mono st)
      · exact o.elim
    · exact o.elim
  · exact o.elim
theorem ms_update : MtS X Wx "dict.update" mUpdate := by
  refine ⟨_, mt_dupdate, fun z σ w x ws vs Q t r rs o => ?_⟩
  unfold mUpdate at o
  split at o
  · rename_i n ks us
    obtain ⟨v, rfl, rv⟩ := rws1 rs
    cases r
    split at o
    · rename_i kvs e
      split at o
      · rename_i hl
        obtain ⟨kvs', h, r1⟩ := t.dctAt (dctAt_eq.mp e)
        cases rv with
        | dct h2 nl l2 r2 =>
          have rz := rfs_zip (ks := ks) r2
          refine ⟨_, _, kvs', _, rfl, rfl, fun q => nl (.inl ⟨n, _, dctAt_eq.mp e, (by intro q; cases q), q⟩), h, h2, ?_, put_red t (dctAt_eq.mp e) (by intro q; cases q) (.dct (rfs_merge rz r1)) o⟩
          rw [← show kvs.length = kvs'.length from Paired.length r1, ← show (ks.zip us).length = _ from Paired.length rz]
          exact hl
      · exact o.elim
    · exact o.elim
  · exact o.elim
theorem mt_dget (hu : X.A.units + 1 < cLine) : MtR X "dict.get" (fun x vs H Q => ∃ (a : Addr) (oo : Option V), x = .ref a ∧ ((∃ y, vs = [y] ∧ DGet H a y oo ∧ Q (oo.getD .non) H) ∨ ∃ y d, vs = [y, d] ∧ DGet H a y oo ∧ Q (oo.getD d) H)) := by
  rintro pins s σ H x vs v us Q I rx rv ⟨a, oo, rfl, ⟨y, rfl, g, q⟩ | ⟨y, d, rfl, g, q⟩⟩
  · cases rx
    obtain ⟨u, rfl, ru⟩ := rv.one
    exact d_get1 hu I g ru fun w' s' I' r' => ⟨_, H, I', r', q⟩
  · cases rx
    obtain ⟨u, u', rfl, ru, ru'⟩ := rv.two
    exact d_get2 hu I g ru ru' fun w' s' I' r' => ⟨_, H, I', r', q⟩
theorem ms_get (hu : X.A.units + 1 < cLine) : MtS X Wx "dict.get" mGet := by
  refine ⟨_, mt_dget hu, fun z σ w x ws vs Q t r rs o => ?_⟩
  unfold mGet at o
  split at o
  · rename_i kvs e
    obtain ⟨a, kvs', rfl, h, rk⟩ := dctOf_at t e r
    split at o
    · rename_i k
      obtain ⟨v, rfl, rv⟩ := rws1 rs
      split at o
      · rename_i k' ek
        have := keyOf_kV ek rv
        subst this
        refine ⟨a, _, rfl, .inl ⟨_, rfl, DGet.k h, ?_⟩⟩
        rcases lookW_val k' rk with ⟨h1, h2⟩ | ⟨w', v', h1, h2, h3⟩
        · rw [h2]
          rw [h1] at o
          exact Out.now o t .non
        · rw [h2]
          rw [h1] at o
          exact Out.now o t h3
      · exact o.elim
    · rename_i k d
      obtain ⟨v, v2, rfl, rv, rv2⟩ := rws2 rs
      split at o
      · rename_i k' ek
        have := keyOf_kV ek rv
        subst this
        refine ⟨a, _, rfl, .inr ⟨_, _, rfl, DGet.k h, ?_⟩⟩
        rcases lookW_val k' rk with ⟨h1, h2⟩ | ⟨w', v', h1, h2, h3⟩
        · rw [h2]
          rw [h1] at o
          exact Out.now o t rv2
        · rw [h2]
          rw [h1] at o
          exact Out.now o t h3
      · exact o.elim
    · exact o.elim
  · exact o.elim
theorem ms_join : MtS X Wx "str.join" mJoin := by
  refine ⟨_, mt_join, fun z σ w x ws vs Q t r rs o => ?_⟩
  unfold mJoin at o
  split at o
  · rename_i a y
    obtain ⟨v, rfl, rv⟩ := rws1 rs
    cases r
    split at o
    · rename_i ys e
      split at o
      · rename_i hl
        obtain ⟨xs, e1, e2⟩ := Option.bind_eq_some_iff.mp e
        obtain ⟨b, us, rfl, h, r1⟩ := seqI_at t e1 rv
        rw [strsOf_eq e2] at r1
        rw [r1.strs] at h
        exact ⟨a, b, ys, rfl, rfl, h, hl, Out.now o t (.str _)⟩
      · exact o.elim
    · exact o.elim
  · exact o.elim
theorem ms_split : MtS X Wx "str.split" mSplit := by
  refine ⟨_, mt_split, fun z σ w x ws vs Q t r rs o => ?_⟩
  unfold mSplit at o
  split at o
  · rename_i a b
    obtain ⟨v, rfl, rv⟩ := rws1 rs
    cases r
    cases rv
    split at o
    · rename_i hl
      exact ⟨a, b, rfl, rfl, hl.1, hl.2, fun p hp => o (z.new p _) (.ref p) rfl (Step.new t hp) (t.new hp) (newL t hp (rws_strs _))⟩
    · exact o.elim
  · exact o.elim
theorem ms_partition : MtS X Wx "str.partition" mPartition := by
  refine ⟨_, mt_partition, fun z σ w x ws vs Q t r rs o => ?_⟩
  unfold mPartition at o
  split at o
  · rename_i a b
    obtain ⟨v, rfl, rv⟩ := rws1 rs
    cases r
    cases rv
    split at o
    · rename_i hl
      exact ⟨a, b, rfl, rfl, hl.1, hl.2, fun p hp => o (z.new p _) (.ref p) rfl (Step.new t hp) (t.new hp) (newT t hp (.cons (.str _) (.cons (.str _) (.cons (.str _) .nil))))⟩
    · exact o.elim
  · exact o.elim
end
end Mi

set_option Elab.async false
set_option linter.all false
set_option maxRecDepth 100000
set_option maxHeartbeats 4000000
namespace Mi
open PySem L2
/-! ### fields -/
def fldOf (S : Sto) (c f : Str) (w : W) : Option W := match w with
  | .h n => (match S[n]? with
    | some (.ins c' fs) => if c' = c then fs.lookup f else none
    | _ => none)
  | _ => none
def eFld (c f : Str) (o : Ev) : Ev := fun env S => (o env S).bind fun x S1 => opR (fldOf S1 c f x) S1
def putFW (f : Str) (v : W) : List (Str × W) → List (Str × W)
  | [] => [(f, v)]
  | (g, x) :: r => if g = f then (g, v) :: r else (g, x) :: putFW f v r
def setFld (c f : Str) (x y : W) (S : Sto) : Option Sto := match x with
  | .h n => (match S[n]? with
    | some (.ins c' fs) => if c' = c ∧ fs.length < 1000 then some (S.set n (.ins c (putFW f y fs))) else none
    | _ => none)
  | _ => none
def opS (env : Env) (k : Option Sto) : RS := match k with
  | some S => .next env S
  | none => .bad
def sFld (c f : Str) (o e : Ev) : Sv := fun env S => (e env S).bindS env fun y S1 => (o env S1).bindS env fun x S2 => opS env (setFld c f x y S2)
theorem rfs_putF {g : Kg} {z : Wd} (f : Str) {w : W} {v : V} (r : RW g z w v) : ∀ {a : List (Str × W)} {b : List (Str × V)}, RFs g z a b → RFs g z (putFW f w a) (putF f v b)
  | _, _, .nil => .cons ⟨rfl, r⟩ .nil
  | (k, w') :: a, (k', v') :: b, .cons h t => by
    obtain ⟨h1, h2⟩ := h
    dsimp only at h1 h2
    subst h1
    unfold putFW putF
    by_cases e : k = f
    · rw [if_pos e, if_pos e]
      exact .cons ⟨rfl, r⟩ t
    · rw [if_neg e, if_neg e]
      exact .cons ⟨rfl, h2⟩ (rfs_putF f r t)
section
variable {X : Cx} {Wx : WX} {o e : Expr} {fo fe : Ev} {c f : Str} {C : Addr} {pos pos' tpos : Pos}
theorem me_fld (hC : X.mg c = some (.ref C)) (cl : Cls X.K C) (na : NoAttr X.K C f) (ho : ME X Wx o fo) (hb : attributeBase o f X.env (eval o X.env) = eval o X.env := by rfl) : ME X Wx (.Attribute o f pos) (eFld c f fo) := by
  refine pe_mono (pe_fld ho hb) ?_
  rintro σ H Q ⟨z, env, rfl, t, re, o⟩
  refine ⟨z, env, rfl, t, re, o.bind fun z1 x w e1 st1 t1 r1 o1 => ?_⟩
  obtain ⟨y, e, o'⟩ := opR_some o1
  cases r1 with
  | @h n l =>
    unfold fldOf at e
    dsimp only at e
    split at e
    · rename_i c' fs e0
      split at e
      · rename_i hc
        subst hc
        obtain ⟨C', dx, fs', h1, h2, h3⟩ := t1.insAt e0
        have h1' : X.mg c' = some (.ref C') := h1
        rw [hC] at h1'
        cases h1'
        rcases rfs_lookup f h3 with ⟨h4, _⟩ | ⟨w', v, h4, h5, h6⟩
        · rw [h4] at e
          cases e
        · rw [h4] at e
          cases e
          exact ⟨_, C, dx, fs', v, rfl, h2, cl, na, h5, Out.now o' t1 h6⟩
      · cases e
    · cases e
  | _ => cases e
theorem ms_fld (hC : X.mg c = some (.ref C)) (cl : Cls X.K C) (na : NoAttr X.K C f) (ho : ME X Wx o fo) (he : ME X Wx e fe) (hs : swapsWith e (some (.Attribute o f pos')) pos.line X.env = pure false := by rfl) : MS X Wx (.Assign [.Attribute o f pos'] e pos) (sFld c f fo fe) := by
  refine ps_mono (ps_fld ho he hs) ?_
  rintro D σ H ⟨z, env, rfl, t, re, o⟩
  refine ⟨z, env, rfl, t, re, OutS.bind re o fun z1 v w e1 st1 t1 r1 o1 => ⟨z1, env, rfl, t1, re.mono st1, OutS.bind (re.mono st1) o1 fun z2 x u e2 st2 t2 r2 o2 => ?_⟩⟩
  cases r2 with
  | @h n l =>
    unfold setFld at o2
    dsimp only at o2
    split at o2
    · rename_i c' fs e0
      split at o2
      · rename_i hc
        obtain ⟨rfl, hl⟩ := hc
        obtain ⟨C', dx, fs', h1, h2, h3⟩ := t2.insAt e0
        have h1' : X.mg c' = some (.ref C') := h1
        rw [hC] at h1'
        cases h1'
        have st := Step.put (o := HO.ins C dx (putF f v fs')) (ob := Ob.ins c' (putFW f w fs)) t2 e0 (by intro q; cases q)
        refine ⟨_, C, dx, fs', rfl, h2, cl, na, by rw [← show fs.length = fs'.length from Paired.length h3]; exact hl, ?_⟩
        exact o2 (z2.put n (.ins C dx (putF f v fs')) (.ins c' (putFW f w fs))) σ rfl st (t2.put e0 (by intro q; cases q) ((RO.ins h1 (rfs_putF f (r1.mono st2) h3)).mono st)) (re.mono ((st1.trans st2).trans st))
      · exact o2.elim
    · exact o2.elim
  | _ => exact o2.elim
/-- o.f op= e -/
def sFldAug (c f : Str) (op : Op2) (o e : Ev) : Sv := fun env S => (o env S).bindS env fun x S1 => (opR (fldOf S1 c f x) S1).bindS env fun u S2 => (e env S2).bindS env fun y S3 => (op u y S3).bindS env fun w S4 => opS env (setFld c f x w S4)
def wAddI : Op2 := fun x y S => match x, y with
  | .int i, .int j => .ok (.int (i + j)) S
  | _, _ => .bad
theorem ms_fldAug (hC : X.mg c = some (.ref C)) (cl : Cls X.K C) (na : NoAttr X.K C f) (ho : ME X Wx o fo) (he : ME X Wx e fe) : MS X Wx (.AugAssign (.Attribute o f tpos) .Add e pos) (sFldAug c f wAddI fo fe) := by
  refine ps_mono (ps_fldaug ho he in_add) ?_
  rintro D σ H ⟨z, env, rfl, t, re, o⟩
  refine ⟨z, env, rfl, t, re, OutS.bind re o fun z1 x w e1 st1 t1 r1 o1 => ?_⟩
  cases r1 with
  | @h n l =>
    cases hf : fldOf z1.S c f (.h n) with
    | none =>
      rw [hf] at o1
      exact o1.elim
    | some u =>
      rw [hf] at o1
      have hf' := hf
      unfold fldOf at hf
      dsimp only at hf
      split at hf
      · rename_i c' fs e0
        split at hf
        · rename_i hc
          subst hc
          obtain ⟨C', dx, fs', h1, h2, h3⟩ := t1.insAt e0
          have h1' : X.mg c' = some (.ref C') := h1
          rw [hC] at h1'
          cases h1'
          rcases rfs_lookup f h3 with ⟨h4, _⟩ | ⟨w', v, h4, h5, h6⟩
          · rw [h4] at hf
            cases hf
          · rw [h4] at hf
            cases hf
            refine ⟨_, C, dx, fs', v, rfl, h2, cl, na, h5, z1, env, rfl, t1, re.mono st1, OutS.bind (re.mono st1) o1 fun z2 y' y e2 st2 t2 r2 o2 => ?_⟩
            have ru := h6.mono st2
            cases ru <;> first | exact o2.elim | skip
            cases r2 <;> first | exact o2.elim | skip
            rename_i i j
            refine ⟨i, j, rfl, rfl, ?_⟩
            have o3 : OutS (gX X) Wx z2 (opS env (setFld c' f (.h n) (.int (i + j)) z2.S)) D := o2
            have em : z2.m n = z1.m n := st2.agree n l
            unfold setFld at o3
            dsimp only at o3
            split at o3
            · rename_i c2 fs2 e02
              split at o3
              · rename_i hc2
                obtain ⟨rfl, hl⟩ := hc2
                obtain ⟨C2, dx2, fs2', k1, k2, k3⟩ := t2.insAt e02
                have k1' : X.mg c2 = some (.ref C2) := k1
                rw [hC] at k1'
                cases k1'
                rw [em] at k2
                have st := Step.put (o := HO.ins C dx2 (putF f (.int (i + j)) fs2')) (ob := Ob.ins c2 (putFW f (.int (i + j)) fs2)) t2 e02 (by intro q; cases q)
                refine ⟨dx2, fs2', k2, by rw [← show fs2.length = fs2'.length from Paired.length k3]; exact hl, ?_⟩
                rw [← em]
                exact o3 (z2.put n (.ins C dx2 (putF f (.int (i + j)) fs2')) (.ins c2 (putFW f (.int (i + j)) fs2))) σ rfl st (t2.put e02 (by intro q; cases q) ((RO.ins k1 (rfs_putF f (.int _) k3)).mono st)) (re.mono ((st1.trans st2).trans st))
              · exact o3.elim
            · exact o3.elim
        · cases hf
      · cases hf
  | _ => exact o1.elim
end
/-! ### stores at a place -/
def setIx (x y w : W) (S : Sto) : Option Sto := match x with
  | .h n => (match S[n]? with
    | some (.lst ws) => (match y with
      | .int k => (ixN ws.length k).map fun j => S.set n (.lst (ws.set j w))
      | _ => none)
    | some (.dct kvs) => (match keyOf y with
      | some k => if kvs.length < sizeLine then some (S.set n (.dct (putW kvs k w))) else none
      | none => none)
    | _ => none)
  | _ => none
def sSub (o i e : Ev) : Sv := fun env S => (e env S).bindS env fun w S1 => (o env S1).bindS env fun x S2 => (i env S2).bindS env fun y S3 => opS env (setIx x y w S3)
section
variable {X : Cx} {Wx : WX} {o i e : Expr} {fo fi fe : Ev} {pos pos' : Pos}
theorem set_dict (hu : X.A.units + 1 < cLine) : PSet X (fun o i v H Q => ∃ a H', o = .ref a ∧ DPut H a i v H' ∧ Q H') := by
  rintro pins s σ H o i v ov iv u Q I ro ri rv ⟨a, H', rfl, d, q⟩
  cases ro
  exact d_setItem hu I d ri rv fun s' I' => ⟨H', I', q⟩
theorem PSet.or {t t' : TSet} (h : PSet X t) (h' : PSet X t') : PSet X (fun o i v H Q => t o i v H Q ∨ t' o i v H Q) := by
  intro pins s σ H o i v ov iv u Q I ro ri rv q
  rcases q with q | q
  · exact h pins s σ H o i v ov iv u Q I ro ri rv q
  · exact h' pins s σ H o i v ov iv u Q I ro ri rv q
theorem ms_sub (hu : X.A.units + 1 < cLine) (ho : ME X Wx o fo) (hi : ME X Wx i fi) (he : ME X Wx e fe)
    (ha : ∀ v, assign (.Subscript o i pos') X.env v = (do
      let ov ← holding [v] (eval o X.env)
      let iv ← holding [v, ov] (eval i X.env)
      standAt pos'
      holding [v, ov, iv] (setItem ov iv v)
      release [v, ov, iv] []) := by intro _; rfl)
    (hs : swapsWithSole [.Subscript o i pos'] e pos.line X.env = pure false := by rfl) (hw : swappedStores [.Subscript o i pos'] e X.env = pure none := by rfl)
    (h1 : (assignEach [.Subscript o i pos'] X.env).map (·.2) = [assign (.Subscript o i pos') X.env] := by rfl) : MS X Wx (.Assign [.Subscript o i pos'] e pos) (sSub fo fi fe) := by
  refine ps_mono (ps_asg he (pg_sub ho hi (PSet.or set_list (set_dict hu)) ha) hs hw h1) ?_
  rintro D σ H ⟨z, env, rfl, t, re, o⟩
  refine ⟨z, env, rfl, t, re, OutS.bind re o fun z1 v w e1 st1 t1 r1 o1 => ⟨z1, env, rfl, t1, re.mono st1, OutS.bind (re.mono st1) o1 fun z2 x u e2 st2 t2 r2 o2 => ⟨z2, env, rfl, t2, re.mono (st1.trans st2), OutS.bind (re.mono (st1.trans st2)) o2 fun z3 y q e3 st3 t3 r3 o3 => ?_⟩⟩⟩
  have rx := r2.mono st3
  have rw' := r1.mono (st2.trans st3)
  have re3 := re.mono ((st1.trans st2).trans st3)
  cases rx with
  | @h n l =>
    unfold setIx at o3
    dsimp only at o3
    split at o3
    · rename_i ws e0
      split at o3
      · rename_i k
        cases r3
        cases hj : ixN ws.length k with
        | none =>
          rw [hj] at o3
          exact o3.elim
        | some j =>
          rw [hj] at o3
          obtain ⟨vs, h2, h3⟩ := t3.lstAt e0
          have st := Step.put (o := HO.lst (vs.set j v)) (ob := Ob.lst (ws.set j w)) t3 e0 (by intro q; cases q)
          refine .inl ⟨_, vs, k, j, rfl, rfl, h2, by rw [← h3.length]; exact hj, ?_⟩
          exact o3 (z3.put n (.lst (vs.set j v)) (.lst (ws.set j w))) σ rfl st (t3.put e0 (by intro q; cases q) ((RO.lst (h3.set j rw')).mono st)) (re3.mono st)
      · exact o3.elim
    · rename_i kvs e0
      split at o3
      · rename_i k ek
        split at o3
        · rename_i hl
          have := keyOf_kV ek r3
          subst this
          obtain ⟨kvs', h2, h3⟩ := t3.dctAt e0
          have st := Step.put (o := HO.dK (putK kvs' k v)) (ob := Ob.dct (putW kvs k w)) t3 e0 (by intro q; cases q)
          refine .inr ⟨_, _, rfl, DPut.k h2 (by rw [← show kvs.length = kvs'.length from Paired.length h3]; exact hl), ?_⟩
          exact o3 (z3.put n (.dK (putK kvs' k v)) (.dct (putW kvs k w))) σ rfl st (t3.put e0 (by intro q; cases q) ((RO.dct (rfs_put k h3 rw')).mono st)) (re3.mono st)
        · exact o3.elim
      · exact o3.elim
    · exact o3.elim
  | _ => exact o3.elim
end
/-! ### displays of dicts, dict() -/
def eDct0 (fin : List (Key × W) → Sto → R W) : Ev := fun _ S => fin [] S
def pairsE : List (Ev × Ev) → Env → Sto → R (List (Key × W))
  | [], _, S => .ok [] S
  | (k, v) :: ps, env, S => (k env S).bind fun x S1 => (v env S1).bind fun y S2 => match keyOf x with
    | some kk => (pairsE ps env S2).bind fun r S3 => .ok ((kk, y) :: r) S3
    | none => .bad
def eDct (fin : List (Key × W) → Sto → R W) (ps : List (Ev × Ev)) : Ev := fun env S => (pairsE ps env S).bind fun kvs S1 => if kvs.length ≤ 15 then fin (mergeW [] kvs) S1 else .bad
inductive MPs (X : Cx) (Wx : WX) : List (Option Expr) → List Expr → List (Ev × Ev) → Prop
  | nil : MPs X Wx [] [] []
  | cons {k v : Expr} {fk fv : Ev} {ks : List (Option Expr)} {vs : List Expr} {ps : List (Ev × Ev)} : ME X Wx k fk → ME X Wx v fv → MPs X Wx ks vs ps → MPs X Wx (some k :: ks) (v :: vs) ((fk, fv) :: ps)
section
variable {X : Cx} {Wx : WX} {pos : Pos}
theorem me_dct0 {fin : List (Key × W) → Sto → R W} (hf : NewOk (gX X) (rD (gX X)) fin) : ME X Wx (.Dict [] [] pos) (eDct0 fin) := by
  refine pe_mono pe_dnewK ?_
  rintro σ H Q ⟨z, env, rfl, t, re, o⟩
  exact fun p hp => hf Wx z σ p [] _ Q t hp ⟨[], rfl, .nil⟩ o
def trsOf (g : Kg) (Wx : WX) (ps : List (Ev × Ev)) : List (TE × TE) := ps.map fun p => (tM g Wx (RW g) p.1, tM g Wx (RW g) p.2)
theorem pps_of {keys : List (Option Expr)} {values : List Expr} {ps : List (Ev × Ev)} (h : MPs X Wx keys values ps) : PPs X pos keys values (trsOf (gX X) Wx ps) := by
  induction h with
  | nil => exact pps_nil
  | cons hk hv _ ih => exact pps_cons hk hv ih
theorem rfs_keys {g : Kg} {z : Wd} : ∀ {a : List (Key × W)} {b : List (Key × V)}, RFs g z a b → a.length = b.length
  | _, _, h => Paired.length h
/-- a world within which an object is held in hand, seen from outside -/
structure Vw (g : Kg) (z zi : Wd) (p : Addr) : Prop where
  st : Step0 z zi
  tz : Tied g z
  ti : Tied g zi
  hp : z.H p = none
  own : zi.own = fun a => a = p ∨ z.own a
  keep : ∀ a, z.own a → zi.H a = z.H a
theorem Vw.take {g : Kg} {z : Wd} {p : Addr} {o : HO} (t : Tied g z) (hp : z.H p = none) : Vw g z (z.take p o) p := ⟨Step0.take t hp, t, t.take hp, hp, rfl, fun a l => upd_ne fun q => t.own a l (q ▸ hp)⟩
theorem Vw.step {g : Kg} {z zi z' : Wd} {p : Addr} (v : Vw g z zi p) (st : Step zi z') (t : Tied g z') : Vw g z z' p :=
  ⟨v.st.trans st.toStep0, v.tz, t, v.hp, st.same.trans v.own, fun a l => (st.keep a (by rw [v.own]; exact .inr l)).trans (v.keep a l)⟩
theorem Vw.turn {g : Kg} {z zi : Wd} {p : Addr} {o : HO} (v : Vw g z zi p) : Vw g z (zi.turn p o) p := by
  have hp : zi.own p := by rw [v.own]; exact .inl rfl
  refine ⟨v.st.trans (Step0.turn hp), v.tz, v.ti.turn hp, v.hp, v.own, fun a l => ?_⟩
  have ne : a ≠ p := fun q => v.tz.own a l (q ▸ v.hp)
  show upd zi.H p o a = z.H a
  rw [upd_ne ne]
  exact v.keep a l
theorem Vw.back {g : Kg} {z zi : Wd} {p : Addr} (v : Vw g z zi p) : Step z (zi.back z.own) ∧ Tied g (zi.back z.own) ∧ Step0 zi (zi.back z.own) ∧ ¬ Live (zi.back z.own) p := fin_back v.st v.tz v.ti v.hp v.own v.keep
theorem ExR.mono0 {g : Kg} {z z' : Wd} {c : Str} {fs : List (Str × W)} {cls : Value} {d : Option Addr} (st : Step0 z z') (h : ExR g z c fs cls d) : ExR g z' c fs cls d := by
  obtain ⟨C, dd, fs', h1, h2, h3, h4, h5, h6⟩ := h.ex
  exact ⟨C, dd, fs', h1, h2, h3, (st.stay _ _ h4 h5).1, (st.stay _ _ h4 h5).2, h6.mono0 st⟩
/-- a part that is done while an object is held in hand -/
theorem out_in {α β γ δ : Type} {g : Kg} {rel : Wd → α → β → Prop} {rel' : Wd → γ → δ → Prop} {z zi : Wd} {p : Addr} {σ : L2.St} {r : R α} {k : α → Sto → R γ} {Q : δ → Hp → Prop} {Q2 : β → Hp → Prop} (o : Out g Wx rel' z σ (r.bind k) Q) (v : Vw g z zi p)
    (h : ∀ z' b a, r = .ok a z'.S → Step zi z' → rel z' a b → Vw g z z' p → Out g Wx rel' z σ (k a z'.S) Q → Q2 b z'.H) : Out g Wx rel zi σ r Q2 := by
  cases r with
  | ok a S =>
    intro z' b e st t rl
    subst e
    exact h z' b a rfl st rl (v.step st t) o
  | ex c fs S =>
    intro z' cls d e st t x
    obtain ⟨h1, h2, h3, h4⟩ := (v.step st t).back
    exact o (z'.back z.own) cls d e h1 h2 (x.mono0 h3)
  | bad => exact o
theorem pairs_in {g : Kg} {rel' : Wd → W → V → Prop} {σ : L2.St} {Q : V → Hp → Prop} {env : Env} {z : Wd} {p : Addr} : ∀ {ps : List (Ev × Ev)} {zi : Wd} {k : List (Key × W) → Sto → R W} {Q2 : List (V × V) → Hp → Prop}, Vw g z zi p → REnv g zi env σ → Out g Wx rel' z σ ((pairsE ps env zi.S).bind k) Q →
    (∀ z' kvs kvs', Step zi z' → Vw g z z' p → RFs g z' kvs kvs' → Out g Wx rel' z σ (k kvs z'.S) Q → Q2 (kvs'.map fun kv => (kV kv.1, kv.2)) z'.H) → tPairs (trsOf g Wx ps) σ zi.H Q2
  | [], zi, k, Q2, v, re, o, h => h zi [] [] (Step.refl zi) v .nil o
  | (fk, fv) :: ps, zi, k, Q2, v, re, o, h => by
    have e0 : (pairsE ((fk, fv) :: ps) env zi.S).bind k = (fk env zi.S).bind fun x S1 => (fv env S1).bind fun y S2 => (match keyOf x with
      | some kk => (pairsE ps env S2).bind fun r S3 => .ok ((kk, y) :: r) S3
      | none => .bad).bind k := by
      show ((fk env zi.S).bind fun x S1 => (fv env S1).bind fun y S2 => _).bind k = _
      cases h1 : fk env zi.S with
      | ok x S1 =>
        show ((fv env S1).bind _).bind k = (fv env S1).bind _
        cases fv env S1 <;> rfl
      | ex c fs S1 => rfl
      | bad => rfl
    rw [e0] at o
    refine ⟨zi, env, rfl, v.ti, re, out_in o v fun z1 x w e1 st1 r1 v1 o1 => ?_⟩
    refine ⟨z1, env, rfl, v1.ti, re.mono st1, out_in o1 v1 fun z2 y u e2 st2 r2 v2 o2 => ?_⟩
    split at o2
    · rename_i kk ek
      have ex := keyOf_kV ek (r1.mono st2)
      subst ex
      have o3 : Out g Wx rel' z σ ((pairsE ps env z2.S).bind fun r S3 => k ((kk, u) :: r) S3) Q := by
        cases hp : pairsE ps env z2.S <;> rw [hp] at o2 <;> exact o2
      refine pairs_in (Q2 := fun r H2 => Q2 ((kV kk, y) :: r) H2) v2 (re.mono (st1.trans st2)) o3 fun z3 kvs kvs' st3 v3 r3 o4 => ?_
      exact h z3 ((kk, u) :: kvs) ((kk, y) :: kvs') ((st1.trans st2).trans st3) v3 (.cons ⟨rfl, r2.mono st3⟩ r3) o4
    · exact o2.elim
theorem me_dct {keys : List (Option Expr)} {values : List Expr} {ps : List (Ev × Ev)} {fin : List (Key × W) → Sto → R W} (hf : FinG (gX X) (rD (gX X)) fin) (h : MPs X Wx keys values ps) (hall : keys.all (·.isSome) = true := by rfl) (hl : keys.length = values.length := by rfl) (h0 : keys ≠ [] := by exact fun z => by cases z)
    (h15 : keys.length ≤ 15 := by decide) : ME X Wx (.Dict keys values pos) (eDct fin ps) := by
  refine pe_mono (pe_disp (pps_of h) hall hl h0 h15) ?_
  rintro σ H Q ⟨z, env, rfl, t, re, o⟩
  intro p hp
  have v0 := Vw.take (o := HO.dK []) t hp
  refine pairs_in v0 (re.mono0 v0.st) o fun z2 kvs kvs' st2 v2 rk o2 => ?_
  have p0 : (z.take p (.dK [])).own p := .inl rfl
  refine ⟨(st2.keep p p0).trans upd_same, kvs', rfl, ?_⟩
  split at o2
  · rename_i hk
    refine ⟨by rw [← rfs_keys rk]; exact hk, ?_⟩
    have p2 : z2.own p := by rw [v2.own]; exact .inl rfl
    have v3 := v2.turn (o := HO.dK (mergeK [] kvs'))
    exact hf Wx z (z2.turn p (.dK (mergeK [] kvs'))) σ p (mergeW [] kvs) (.dK (mergeK [] kvs')) Q hp t v3.st v3.ti v3.own v3.keep upd_same ⟨_, rfl, (rfs_merge rk .nil).mono0 (Step0.turn p2)⟩ o2
  · exact o2.elim
end
/-- dict(d), dict(pairs) -/
def pairOf : W → Option (Key × W)
  | .tup [k, v] => (keyOf k).map fun k => (k, v)
  | _ => none
def pairsOfW : List W → Option (List (Key × W))
  | [] => some []
  | w :: ws => (pairOf w).bind fun p => (pairsOfW ws).map (p :: ·)
def bDict (fin : List (Key × W) → Sto → R W) : OpA := fun ws S => match ws with
  | [w] => (match dctOf S w with
    | some kvs => fin kvs S
    | none => (match (seqL S w).bind pairsOfW with
      | some kvs => fin (mergeW [] kvs) S
      | none => .bad))
  | _ => .bad
section
variable {X : Cx} {Wx : WX}
theorem call_dictC : CallR X (.type "dict") (fun xs H Q => ∃ a kvs, xs = [.ref a] ∧ Rd H a (.dK kvs) ∧ ∀ p, H p = none → Q (.ref p) (upd H p (.dK kvs))) := by
  rintro pins s σ H xs us Q I r ⟨a, kvs, rfl, h, q⟩
  obtain ⟨u, rfl, ru⟩ := vals1 r
  cases ru
  exact d_copyOf I h fun p s' hp I' => ⟨.ref p, _, I', rfl, q p hp⟩
theorem pairsOfW_at {g : Kg} {z : Wd} : ∀ {ws : List W} {vs : List V} {kvs : List (Key × W)}, pairsOfW ws = some kvs → RWs g z ws vs → ∃ (ps : List Addr) (kvs' : List (Key × V)), vs = ps.map V.ref ∧ Paired (fun p kv => SqT g.K z.H p [kV kv.1, kv.2]) ps kvs' ∧ RFs g z kvs kvs'
  | [], _, _, h, .nil => by cases h; exact ⟨[], [], rfl, .nil, .nil⟩
  | w :: ws, v :: vs, _, h, .cons r rs => by
    obtain ⟨p, h1, h2⟩ := Option.bind_eq_some_iff.mp (show (pairOf w).bind (fun p => (pairsOfW ws).map (p :: ·)) = some _ from h)
    obtain ⟨kvs, h3, rfl⟩ := Option.map_eq_some_iff.mp h2
    obtain ⟨ps, kvs', rfl, h4, h5⟩ := pairsOfW_at h3 rs
    cases r <;> first | cases h1 | skip
    rename_i a ws2 vs2 hT rT
    unfold pairOf at h1
    split at h1
    · rename_i k u e
      cases e
      obtain ⟨kk, ek, rfl⟩ := Option.map_eq_some_iff.mp h1
      obtain ⟨v1, v2, rfl, r1, r2⟩ := rws2 rT
      have := keyOf_kV ek r1
      subst this
      exact ⟨a :: ps, (kk, v2) :: kvs', rfl, .cons hT.sq h4, .cons ⟨rfl, r2⟩ h5⟩
    · cases h1
theorem cs_dict {fin : List (Key × W) → Sto → R W} (hc : X.calm = true) (hf : NewOk (gX X) (rD (gX X)) fin) : CallS X Wx (.type "dict") (bDict fin) := by
  refine ⟨_, call_dictC.or (call_dictP hc), fun z σ ws vs Q t rs o => ?_⟩
  unfold bDict at o
  split at o
  · rename_i w
    obtain ⟨v, rfl, r⟩ := rws1 rs
    split at o
    · rename_i kvs e
      obtain ⟨a, kvs', rfl, h, rk⟩ := dctOf_at t e r
      exact .inl ⟨a, kvs', rfl, .inl h, fun p hp => hf Wx z σ p kvs _ Q t hp ⟨kvs', rfl, rk⟩ o⟩
    · split at o
      · rename_i kvs e
        obtain ⟨xs, e1, e2⟩ := Option.bind_eq_some_iff.mp e
        obtain ⟨a, us, rfl, h, r1⟩ := seqL_at t e1 r
        obtain ⟨ps, kvs', rfl, h4, h5⟩ := pairsOfW_at e2 r1
        exact .inr ⟨a, ps, kvs', rfl, SqL.of h, h4, fun p hp => hf Wx z σ p _ _ Q t hp ⟨_, rfl, rfs_merge h5 .nil⟩ o⟩
      · exact o.elim
  · exact o.elim
end
/-! ### f-strings, reversal -/
def fmtOf : W → Option W
  | .str y => if y.length ≤ sizeLine then some (.str y) else none
  | .int i => if i.natAbs.log2 < 1920 then some (.str (toString i)) else none
  | _ => none
def eFmt (a : Ev) : Ev := fun env S => (a env S).bind fun w S1 => opR (fmtOf w) S1
def joinsE : List Ev → Str → Ev
  | [], acc, _, S => .ok (.str acc) S
  | f :: fs, acc, env, S => (f env S).bind fun w S1 => match w with
    | .str y => if (acc ++ y).length ≤ sizeLine then joinsE fs (acc ++ y) env S1 else .bad
    | _ => .bad
inductive MJ (X : Cx) (Wx : WX) : List Expr → List Ev → Prop
  | nil : MJ X Wx [] []
  | cons {e : Expr} {f : Ev} {es : List Expr} {fs : List Ev} : ME X Wx e f → MJ X Wx es fs → MJ X Wx (e :: es) (f :: fs)
def revOf (S : Sto) (w : W) : Option (List W) := (seqL S w).map List.reverse
def eRev (fin : List W → Sto → R W) (a : Ev) : Ev := fun env S => (a env S).bind fun w S1 => (opR (revOf S1 w) S1).bind fin
section
variable {X : Cx} {Wx : WX} {e v1 v2 : Expr} {fe : Ev} {rest : List Expr} {pos : Pos}
theorem me_fmt (he : ME X Wx e fe) : ME X Wx (.FormattedValue e (-1) none pos) (eFmt fe) := by
  refine pe_mono (pe_fmt he) ?_
  rintro σ H Q ⟨z, env, rfl, t, re, o⟩
  refine ⟨z, env, rfl, t, re, o.bind fun z1 x w e1 st1 t1 r1 o1 => ?_⟩
  obtain ⟨y, e, o'⟩ := opR_some o1
  cases r1 with
  | str s =>
    unfold fmtOf at e
    dsimp only at e
    split at e
    · rename_i h
      cases e
      exact .inl ⟨s, rfl, h, Out.now o' t1 (.str _)⟩
    · cases e
  | int i =>
    unfold fmtOf at e
    dsimp only at e
    split at e
    · rename_i h
      cases e
      exact .inr ⟨i, rfl, h, Out.now o' t1 (.str _)⟩
    · cases e
  | _ => cases e
theorem pj_of {es : List Expr} {fs : List Ev} (h : MJ X Wx es fs) : PJ X es (fs.map fun f => tM (gX X) Wx (RW (gX X)) f) := by
  induction h with
  | nil => exact .nil
  | cons he _ ih => exact .cons he ih
theorem joins_red {g : Kg} {σ : L2.St} {env : Env} {Q : VK} : ∀ {fs : List Ev} {acc : Str} {z : Wd}, Tied g z → REnv g z env σ → Out g Wx (RW g) z σ (joinsE fs acc env z.S) Q → tJs (fs.map fun f => tM g Wx (RW g) f) acc σ z.H fun out H1 => Q (.str out) H1
  | [], acc, z, t, re, o => Out.now o t (.str acc)
  | f :: fs, acc, z, t, re, o => by
    refine ⟨z, env, rfl, t, re, Out.bind o fun z1 x w e1 st1 t1 r1 o1 => ?_⟩
    cases r1 <;> first | exact o1.elim | skip
    rename_i y
    dsimp only at o1
    split at o1
    · rename_i h
      exact ⟨y, rfl, h, joins_red t1 (re.mono st1) o1⟩
    · exact o1.elim
theorem me_joined {fs : List Ev} (h : MJ X Wx (v1 :: v2 :: rest) fs) : ME X Wx (.JoinedStr (v1 :: v2 :: rest) pos) (joinsE fs Str.empty) := by
  refine pe_mono (pe_joined (pj_of h)) ?_
  rintro σ H Q ⟨z, env, rfl, t, re, o⟩
  exact joins_red t re o
theorem me_rev {fin : List W → Sto → R W} {k : Nat} {p1 p2 p3 : Pos} (hf : NewOk (gX X) (rL (gX X)) fin) (he : ME X Wx e fe) : ME X Wx (.Subscript e (.Slice none none (some (.UnaryOp .USub (.Constant (.int 1) k p1) p2)) p3) pos) (eRev fin fe) := by
  refine pe_mono (pe_revL he) ?_
  rintro σ H Q ⟨z, env, rfl, t, re, o⟩
  refine ⟨z, env, rfl, t, re, o.bind fun z1 x w e1 st1 t1 r1 o1 => ?_⟩
  unfold revOf at o1
  cases h : seqL z1.S w with
  | none =>
    rw [h] at o1
    exact o1.elim
  | some xs =>
    rw [h] at o1
    obtain ⟨a, us, rfl, h1, r2⟩ := seqL_at t1 h r1
    exact ⟨a, us, rfl, SqL.of h1, fun p hp => hf Wx z1 σ p xs.reverse _ Q t1 hp ⟨_, rfl, r2.reverse⟩ o1⟩
end
end Mi

set_option Elab.async false
set_option linter.all false
set_option maxRecDepth 100000
set_option maxHeartbeats 4000000
namespace Mi
open PySem L2 PySem.Spec
/-! ### own exceptions over any built-in base -/
section
open Builtin Builtin.ObjectAttr
structure Bse (B newId initId : String) (bm : List Value) : Prop where
  nw : ∃ (N iN : String) (bmN : List Value), ExcBaseFacts N newId iN bmN ∧ bm.contains (.type N) = true
  nA : bm.contains (.type "AttributeError") = false
  nN : bm.contains (.type "NameError") = false
  hasB : bm.contains (.type B) = true
  init : Slot B "__init__" initId
  initEntry : entryFor table initId = some Builtin.«BaseException.__init__»
  initSplit : splitId initId = some (B, "__init__")
  initKind : builtinKind initId = some .slot
  initRow : Manifest.signature? initId = some ⟨.positional, "*", B, .self, [⟨"args", .varPos, false⟩]⟩
  noStar : (B != "*") = true
  pass : ∀ self : Value, refuseLoop self "__setattr__" bm = pure ()
  obj : bm.contains (.type "object") = true
  typ : typeOf (.type B) = pure (.type "type")
theorem bse_ValueError : Bse "ValueError" "ValueError.__new__" "ValueError.__init__" [.type "ValueError", .type "Exception", .type "BaseException", .type "object"] where
  nw := ⟨"ValueError", _, _, F.excBase_ValueError, by decide +kernel⟩
  nA := by decide +kernel
  nN := by decide +kernel
  hasB := by decide +kernel
  init := F.excCall_ValueError.init
  initEntry := F.excCall_ValueError.initEntry
  initSplit := by kernel_rfl
  initKind := by kernel_rfl
  initRow := by kernel_rfl
  noStar := by decide +kernel
  pass := fun _ => by kernel_rfl
  obj := by decide +kernel
  typ := by kernel_rfl
theorem bse_ArithmeticError : Bse "ArithmeticError" "ArithmeticError.__new__" "ArithmeticError.__init__" [.type "ArithmeticError", .type "Exception", .type "BaseException", .type "object"] where
  nw := ⟨"ArithmeticError", _, _, F.excBase_ArithmeticError, by decide +kernel⟩
  nA := by decide +kernel
  nN := by decide +kernel
  hasB := by decide +kernel
  init := F.excCall_ArithmeticError.init
  initEntry := F.excCall_ArithmeticError.initEntry
  initSplit := by kernel_rfl
  initKind := by kernel_rfl
  initRow := by kernel_rfl
  noStar := by decide +kernel
  pass := fun _ => by kernel_rfl
  obj := by decide +kernel
  typ := by kernel_rfl
theorem bse_RuntimeError : Bse "RuntimeError" "RuntimeError.__new__" "RuntimeError.__init__" [.type "RuntimeError", .type "Exception", .type "BaseException", .type "object"] where
  nw := ⟨"RuntimeError", _, _, F.excBase_RuntimeError, by decide +kernel⟩
  nA := by decide +kernel
  nN := by decide +kernel
  hasB := by decide +kernel
  init := F.excCall_RuntimeError.init
  initEntry := F.excCall_RuntimeError.initEntry
  initSplit := by kernel_rfl
  initKind := by kernel_rfl
  initRow := by kernel_rfl
  noStar := by decide +kernel
  pass := fun _ => by kernel_rfl
  obj := by decide +kernel
  typ := by kernel_rfl
theorem bse_IndexError : Bse "IndexError" "IndexError.__new__" "IndexError.__init__" [.type "IndexError", .type "LookupError", .type "Exception", .type "BaseException", .type "object"] where
  nw := ⟨"IndexError", _, _, F.excBase_IndexError, by decide +kernel⟩
  nA := by decide +kernel
  nN := by decide +kernel
  hasB := by decide +kernel
  init := F.excCall_IndexError.init
  initEntry := F.excCall_IndexError.initEntry
  initSplit := by kernel_rfl
  initKind := by kernel_rfl
  initRow := by kernel_rfl
  noStar := by decide +kernel
  pass := fun _ => by kernel_rfl
  obj := by decide +kernel
  typ := by kernel_rfl
theorem bse_KeyError : Bse "KeyError" "LookupError.__new__" "KeyError.__init__" [.type "KeyError", .type "LookupError", .type "Exception", .type "BaseException", .type "object"] where
  nw := ⟨"LookupError", _, _, F.excBase_LookupError, by decide +kernel⟩
  nA := by decide +kernel
  nN := by decide +kernel
  hasB := by decide +kernel
  init := .of (owner := "KeyError") (n := "__init__") (by rw [typeLookup_type, builtinLookup_eq_fast]; kernel_rfl) (by decide +kernel) (by decide +kernel) (by decide +kernel)
      (by first | exact .inl (by decide +kernel) | exact .inr (by decide +kernel)) (by rw [isSubtype_type]; kernel_rfl)
  initEntry := entryFor_alias (id' := "BaseException.__init__") (by rw [fastTable_eq_tree]; kernel_rfl) (by first | rfl | decide +kernel) (by decide +kernel) (by rw [fastTable_eq_tree]; kernel_rfl)
  initSplit := by kernel_rfl
  initKind := by kernel_rfl
  initRow := by kernel_rfl
  noStar := by decide +kernel
  pass := fun _ => by kernel_rfl
  obj := by decide +kernel
  typ := by kernel_rfl
/-! ### such a class called -/
section
variable {M : Model} {A : Around} {E : Value → Shared → Prop} {h : Heap} {g : Array GenState} {d : Drawn} {t : Nat} {os : OsState}
variable {nm q : Str} {C N : Addr} {bs bm bmN : List Value} {hdct : Bool} {sn : List Str} {sub : List Value} {ab : Bool} {col : Option Bool} {dd : Option Addr} {k0 k1 k2 k3 k5 : Option Value} {B NB newId initId iN : String}
theorem bnew_check (Y : ExcBaseFacts NB newId iN bmN) (hB : bm.contains (.type NB) = true) {rest : List Value} {Q : Unit → Shared → Prop}
    (hC : h.get? C = some (excClassObj nm q C N bs bm hdct sn sub ab col dd k0 k1 k2 k3 k5 newId)) (hq : Q () ⟨h, g, d, t, os⟩) : wpAny M A (checkBuiltinCall newId ⟨.ref C :: rest, []⟩) Q E ⟨h, g, d, t, os⟩ := by
  have c1 : (Value.ref C :: bm).contains (.type NB) = true := by rw [List.contains_cons, hB, Bool.or_true]
  have c2 := Y.noStar
  simp only [checkBuiltinCall, Y.newKind, Y.newSplit, Y.newRow]
  repeat (first | refine wpAny_loadPart_at hC ?_ | (refine wpAny_isSubtype_exc hC ?_; rw [c1]) | refine wpAny_staticBase_exc hC ?_ | refine wpAny_madeBy_exc hC ?_ | simp only [bne_self_eq_false, Bool.false_eq_true, if_false] | wp_step)
  exact hq
theorem binit_check (Y : Bse B newId initId bm) {e : Addr} {oe : Obj} {rest : List Value} {Q : Unit → Shared → Prop}
    (hC : h.get? C = some (excClassObj nm q C N bs bm hdct sn sub ab col dd k0 k1 k2 k3 k5 newId)) (he : h.get? e = some oe) (hcls : oe.cls = .ref C) (hq : Q () ⟨h, g, d, t, os⟩) :
    wpAny M A (checkBuiltinCall initId ⟨.ref e :: rest, []⟩) Q E ⟨h, g, d, t, os⟩ := by
  have c1 : (Value.ref C :: bm).contains (.type B) = true := by rw [List.contains_cons, Y.hasB, Bool.or_true]
  have c2 := Y.noStar
  simp only [checkBuiltinCall, Y.initKind, Y.initSplit, Y.initRow]
  repeat (first | (with_reducible refine wpAny_loadPart_at he ?_; rw [hcls]) | with_reducible refine wpAny_loadPart_at hC ?_ | (with_reducible refine wpAny_isSubtype_exc hC ?_; rw [c1]) | wp_step)
  refine wpAny_onRaise ?_
  rw [show ∀ (a b : String) (n : Nat), Bind.check ⟨.positional, "*", B, .self, [⟨"args", .varPos, false⟩]⟩ a b n (List.map (fun x => x.fst) ({ pos := Value.ref e :: rest } : Args).kw) = pure () from
    fun a b n => check_star_args _ _ _ _ _ _]
  exact wpAny_pure hq
end
section
variable {prog : Program} {w : World} {A : Around} {E : Value → Shared → Prop} {R : Result → Shared → Prop} {h : Heap} {g : Array GenState} {d : Drawn} {t : Nat} {os : OsState}
variable {nm q : Str} {C N : Addr} {bs bm bmN : List Value} {hdct : Bool} {sn : List Str} {sub : List Value} {ab : Bool} {col : Option Bool} {dd : Option Addr} {k0 k1 k2 k3 k5 : Option Value} {B NB newId initId iN : String}
theorem bnew_own (Y : ExcBaseFacts NB newId iN bmN) (hB : bm.contains (.type NB) = true) (hA : bm.contains (.type "AttributeError") = false) (hN : bm.contains (.type "NameError") = false) {rest : List Value}
    (hC : h.get? C = some (excClassObj nm q C N bs bm hdct sn sub ab col dd k0 k1 k2 k3 k5 newId))
    (hq : R (.ok (.ret (.ref (h.objs.size + 1)))) ⟨(h.push { cls := .type "tuple", data := .seq rest.toArray }).push
      { cls := .ref C, data := .fields #[.ref h.objs.size, .none, .none, .none, .bool false, .none] }, g, d, t, os⟩) (hrest : rest.length ≤ sizeLine) :
    codeAny (model prog w) A (.builtin newId ⟨.ref C :: rest, []⟩) R ⟨h, g, d, t, os⟩ := by
  have hends := Y.ends
  have cB : (Value.ref C :: bm).contains (.type NB) = true := by rw [List.contains_cons, hB, Bool.or_true]
  have cA : (Value.ref C :: bm).contains (.type "AttributeError") = false := by rw [List.contains_cons, hA]; rfl
  have cN : (Value.ref C :: bm).contains (.type "NameError") = false := by rw [List.contains_cons, hN]; rfl
  refine codeAny_builtinAt Y.entry ?_
  unfold Builtin.«BaseException.__new__»
  refine wpAt_bind ?_
  show wpAt _ _ _ (stack >>= _) _ _ _
  refine wpAt_bind (wpAt_stack fun p below => wpAt_of_wpAny ?_)
  wp_walk
  refine wpAt_of_wpAny ?_
  rw [Y.owner]
  repeat (first | with_reducible refine wpAny_madeHere_exc Y.canon hC ?_ | with_reducible refine wpAny_loadPart_at hC ?_ | (with_reducible refine wpAny_isSubtype_exc hC ?_; first | rw [cB] | rw [cA] | rw [cN]) | wp_step)
  show R _ _
  rw [Heap.size_push]
  exact hq
theorem btype_call (Z : Bse B newId initId bm) {rest : List Value} {fI : Addr} {Q : PySem.Fin → Shared → Prop}
    (hC : h.get? C = some (excClassObj nm q C N bs bm hdct sn sub ab col dd k0 k1 k2 k3 k5 newId))
    (hi : PySem.W.Looks (model prog w) h (typeLookup (.ref C) "__init__") (some (.ref fI))) (hb : ∀ self, PySem.W.Looks (model prog w) h (bindSpecial (.ref fI) self) (.ref fI, [self])) (hrest : rest.length ≤ sizeLine)
    (hq : codeAny (model prog w) A (.call (.ref fI) ⟨.ref (h.objs.size + 1) :: rest, []⟩)
      (fun r s' => match r with | .ok (.ret v) => v = .none ∧ Q (.done (.ret (.ref (h.objs.size + 1)))) s' | .ok _ => False | .error e => E e s')
      ⟨(h.push (PySem.W.kdv_tup rest)).push (PySem.HandSPX.excO C h.objs.size), g, d, t, os⟩) :
    wpAny (model prog w) A (Builtin.«type.__call__» ⟨.ref C :: rest, []⟩) Q E ⟨h, g, d, t, os⟩ := by
  obtain ⟨NB, iN, bmN, Y, hB⟩ := Z.nw
  repeat (first | with_reducible refine wpAny_loadPart_at hC ?_ | with_reducible refine wpAny_madeBy_exc hC ?_ | wp_step)
  refine codeAny_call_builtin_code (Code.quiet_builtin _ Y.quiet) (bnew_check Y hB hC ?_)
  refine bnew_own Y hB Z.nA Z.nN hC ?_ hrest
  show wpAny _ _ _ _ _ _
  have k : ∀ b o, h.get? b = some o → ((h.push (PySem.W.kdv_tup rest)).push (PySem.HandSPX.excO C h.objs.size)).get? b = some o := fun b o e => Heap.get?_push_of_some _ (Heap.get?_push_of_some _ e)
  have hC1 := k _ _ hC
  have hget : ((h.push (PySem.W.kdv_tup rest)).push (PySem.HandSPX.excO C h.objs.size)).get? (h.objs.size + 1) = some (PySem.HandSPX.excO C h.objs.size) := by heap_get
  have cC : (Value.ref C :: bm).contains (.ref C) = true := by simp
  have i1 := hi.keeps k
  have b1 := (hb (.ref (h.objs.size + 1))).keeps k
  unfold isInstance
  repeat (first | with_reducible refine wpAny_loadPart_at hget ?_ | (with_reducible refine wpAny_isSubtype_exc hC1 ?_; rw [cC]) | wp_step)
  show wpAny _ _ (typeLookup (.ref C) _) _ _ _
  refine i1.at ?_
  refine wpAny_holding (wpAny_bind (b1.at ?_))
  refine wpAny_bind (wpAny_call (codeAny_mono hq fun r s' z => ?_))
  rcases r with e | (v | _ | _ | _) <;> first | exact z | exact z.elim | skip
  obtain ⟨rfl, z⟩ := z
  first
    | exact wpAny_pure (wpAny_pure z)
    | (wp_walk; exact z)
theorem bcall_own (Z : Bse B newId initId bm) {rest : List Value} {fI : Addr}
    (hC : h.get? C = some (excClassObj nm q C N bs bm hdct sn sub ab col dd k0 k1 k2 k3 k5 newId))
    (hi : PySem.W.Looks (model prog w) h (typeLookup (.ref C) "__init__") (some (.ref fI))) (hb : ∀ self, PySem.W.Looks (model prog w) h (bindSpecial (.ref fI) self) (.ref fI, [self])) (hrest : rest.length ≤ sizeLine)
    (hq : codeAny (model prog w) (A.under (.builtin "type.__call__" ⟨.ref C :: rest, []⟩)) (.call (.ref fI) ⟨.ref (h.objs.size + 1) :: rest, []⟩) (PySem.W.InitBack (h.objs.size + 1) R)
      ⟨(h.push (PySem.W.kdv_tup rest)).push (PySem.HandSPX.excO C h.objs.size), g, d, t, os⟩) :
    codeAny (model prog w) A (.call (.ref C) ⟨rest, []⟩) R ⟨h, g, d, t, os⟩ := by
  have f1 := tc_lookup
  have f2 := tc_bind (.ref C)
  have hTy : (⟨h, g, d, t, os⟩ : Shared).TypeIs (.ref C) "type" := ⟨_, hC, rfl⟩
  refine codeAny_of_tree ?_
  show wpAny _ _ (callAny (.ref C) _) _ _ _
  repeat (any_goals (first | assumption | with_reducible refine wpAny_loadPart_at hC ?_ | wp_step))
  refine ⟨rfl, ?_⟩
  refine codeAny_call_builtin_at (Code.quiet_builtin _ (by decide +kernel)) entry_typeCall (wpAny_check_type_call_sub hC (btype_call Z hC hi hb hrest ?_))
  refine codeAny_mono hq fun r s' z => ?_
  rcases r with e | (v | _ | _ | _) <;> exact z
theorem binit_base (Y : Bse B newId initId bm) {e t0 : Addr} {rest : List Value}
    (hC : h.get? C = some (excClassObj nm q C N bs bm hdct sn sub ab col dd k0 k1 k2 k3 k5 newId)) (he : h.get? e = some (PySem.HandSPX.excO C t0)) (hrest : rest.length ≤ sizeLine)
    (hq : ∀ h' t1, (∀ b o, b ≠ e → h.get? b = some o → h'.get? b = some o) → h'.get? e = some (PySem.HandSPX.excO C t1) → R (.ok (.ret .none)) ⟨h', g, d, t, os⟩) :
    codeAny (model prog w) A (.call (.builtin initId) ⟨.ref e :: rest, []⟩) R ⟨h, g, d, t, os⟩ := by
  refine codeAny_call_builtin Y.init.plain Y.initEntry (binit_check Y hC he rfl ?_)
  wp_walk
  refine hq _ h.objs.size (fun b o hb ho => ?_) ?_
  · rw [Heap.get?_update_other _ _ (Ne.symm hb)]
    exact Heap.get?_push_of_some _ ho
  · rw [Heap.get?_update_self _ (Heap.get?_push_of_some _ he) rfl]
    rfl
end
/-- what the written part says of such a class -/
structure OexB (K : PySem.W.Frag) (C : Addr) (newId : String) (bm : List Value) : Prop where
  cls : ∃ nm q N bs sn sub ab col dd k0 k1 k2 k3 k5, K.lookup C = some (excClassObj nm q C N bs bm true sn sub ab col dd k0 k1 k2 k3 k5 newId)
  sa : PySem.W.findIn K (.ref C) "__setattr__" = some (some (.builtin "object.__setattr__"))
  exC : PySem.W.subIn K (.ref C) (.type "BaseException") = some true
  tyC : PySem.W.typeIn K (.ref C) = some (.type "type")
  kC : PySem.W.keepIn K (.ref C) = true
section
variable {prog : Program} {w : World} {A : Around} {R : Result → Shared → Prop} {hp : Heap} {g : Array GenState} {d : Drawn} {t : Nat} {os : OsState} {K : PySem.W.Frag} {name : Str} {tk : Tok} {v : Value} {x C dx : Addr} {fv : Array Value} {cd : ClassData}
/-- how a class is read for a store in an instance's own dict -/
structure Rdy (K : PySem.W.Frag) (C : Addr) (cd : ClassData) : Prop where
  cls : PySem.W.clsIn K C = some cd
  ne : cd.mro.isEmpty = false
  ob : cd.mro.contains (.type "object") = true
  ps : ∀ self : Value, refuseLoop self "__setattr__" cd.mro = pure ()
  hd : cd.hasDict = true
theorem osa_new (X : K.In hp) (hx : hp.get? x = some { cls := .ref C, data := .fields fv }) (Y : Rdy K C cd) (ha : PySem.W.findIn K (.ref C) name = some none)
    (hq : ∀ h' tk' dx, (∀ b o, b ≠ x → hp.get? b = some o → h'.get? b = some o) → hp.objs.size ≤ dx → dx ≠ x → h'.get? x = some { cls := .ref C, dict := some dx, data := .fields fv } →
      h'.Ns1 dx (fun y => if y = name then some v else none) → R (.ok (.ret .none)) ⟨h', g, d, tk', os⟩) :
    codeAny (model prog w) A (.call (.builtin "object.__setattr__") ⟨[.ref x, .str name tk, v], []⟩) R ⟨hp, g, d, t, os⟩ := by
  obtain ⟨hcd, ne, hob, pass, hh⟩ := Y
  have I : PySem.W.InstAt hp x { cls := .ref C, data := .fields fv } C none := ⟨hx, rfl, rfl, trivial⟩
  have so := PySem.F.store_object
  have far : x ≠ hp.objs.size := Nat.ne_of_lt (Heap.lt_size hx)
  have isO : PySem.W.Looks (model prog w) hp (isInstance (.ref x) (.type "object")) true :=
    I.type.andThen (PySem.W.looks_mroIn X (by unfold PySem.W.mroIn; rw [hcd, Option.bind_some, if_neg (by rw [ne]; decide), hob]))
  refine codeAny_call_builtin so.slot.plain so.entry (@PySem.W.check_slot (model prog w) _ _ ⟨hp, g, d, t, os⟩ "object.__setattr__" "object" "__setattr__" (.ref x) [.str name tk, v] [] _ so.kind so.split isO (so.args (.ref x) (.str name tk) v) ?_)
  have mro : PySem.W.Looks (model prog w) hp (mroOf (.ref C)) cd.mro := (PySem.W.looks_clsIn X hcd).andThen .now
  have noTaker : PySem.W.Looks (model prog w) hp (storeTaker? none) none := .now
  have cls : PySem.W.Looks (model prog w) hp (classData C) cd := PySem.W.looks_clsIn X hcd
  rw [PySem.W.osa_eq, PySem.refuse_eq]
  refine wpAny_bind (wpAny_bind (I.type.at ?_))
  refine wpAny_bind (mro.at ?_)
  rw [pass]
  refine wpAny_pure (wpAny_bind (I.type.at ?_))
  refine wpAny_bind ((PySem.W.looks_findIn X ha).at (wpAny_bind (noTaker.at ?_)))
  show wpAny _ _ (storeInOwnDict (.ref x) (.ref C) (.str name tk) name v false) _ _ _
  obtain ⟨nm, bs, mr, ns, qn, hD, sn, sb, ab, col, del⟩ := cd
  dsimp only at hh
  subst hh
  unfold storeInOwnDict ownDictForStores
  repeat (first | with_reducible refine PySem.HandSPX.store_in_new ?_ ?_ | with_reducible refine wpAny_loadPart_at hx ?_ | with_reducible refine cls.at ?_ | wp_step)
  · exact ⟨_, #[], _, (Heap.get?_update_ne _ _ _ _ far.symm).trans (Heap.get?_push_at rfl rfl), rfl, fun e he => absurd he (by simp), fun _ => rfl⟩
  · intro h' tk' hn' hs
    have at1 : (hp.push { cls := .type "dict", data := .dict #[] }).get? x = some { cls := .ref C, data := .fields fv } := Heap.get?_push_of_some _ hx
    refine hq h' tk' hp.objs.size (fun b o hb ho => ?_) (Nat.le_refl _) far.symm ((hs.2 x far).trans (Heap.get?_update_self _ at1 rfl)) hn'
    rw [hs.2 b (Nat.ne_of_lt (Heap.lt_size ho)), Heap.get?_update_ne _ _ _ _ hb]
    exact Heap.get?_push_of_some _ ho
theorem osa_old {m0 : Str → Option Value} {nl : List Str} (X : K.In hp) (hx : hp.get? x = some { cls := .ref C, dict := some dx, data := .fields fv }) (hns : hp.Ns1 dx m0) (hw : Within m0 nl) (hz : nl.length ≤ 1000) (Y : Rdy K C cd)
    (ha : PySem.W.findIn K (.ref C) name = some none)
    (hq : ∀ h' tk', (∀ b o, b ≠ dx → hp.get? b = some o → h'.get? b = some o) → h'.Ns1 dx (fun y => if y = name then some v else m0 y) → R (.ok (.ret .none)) ⟨h', g, d, tk', os⟩) :
    codeAny (model prog w) A (.call (.builtin "object.__setattr__") ⟨[.ref x, .str name tk, v], []⟩) R ⟨hp, g, d, t, os⟩ := by
  obtain ⟨hcd, ne, hob, pass, hh⟩ := Y
  obtain ⟨oD, _, _, hoD, _, _⟩ := hns.count hw
  have I : PySem.W.InstAt hp x { cls := .ref C, dict := some dx, data := .fields fv } C (some oD) := ⟨hx, rfl, rfl, hoD⟩
  have so := PySem.F.store_object
  have isO : PySem.W.Looks (model prog w) hp (isInstance (.ref x) (.type "object")) true :=
    I.type.andThen (PySem.W.looks_mroIn X (by unfold PySem.W.mroIn; rw [hcd, Option.bind_some, if_neg (by rw [ne]; decide), hob]))
  refine codeAny_call_builtin so.slot.plain so.entry (@PySem.W.check_slot (model prog w) _ _ ⟨hp, g, d, t, os⟩ "object.__setattr__" "object" "__setattr__" (.ref x) [.str name tk, v] [] _ so.kind so.split isO (so.args (.ref x) (.str name tk) v) ?_)
  have mro : PySem.W.Looks (model prog w) hp (mroOf (.ref C)) cd.mro := (PySem.W.looks_clsIn X hcd).andThen .now
  have noTaker : PySem.W.Looks (model prog w) hp (storeTaker? none) none := .now
  have cls : PySem.W.Looks (model prog w) hp (classData C) cd := PySem.W.looks_clsIn X hcd
  rw [PySem.W.osa_eq, PySem.refuse_eq]
  refine wpAny_bind (wpAny_bind (I.type.at ?_))
  refine wpAny_bind (mro.at ?_)
  rw [pass]
  refine wpAny_pure (wpAny_bind (I.type.at ?_))
  refine wpAny_bind ((PySem.W.looks_findIn X ha).at (wpAny_bind (noTaker.at ?_)))
  show wpAny _ _ (storeInOwnDict (.ref x) (.ref C) (.str name tk) name v false) _ _ _
  obtain ⟨nm, bs, mr, ns, qn, hD, sn, sb, ab, col, del⟩ := cd
  dsimp only at hh
  subst hh
  unfold storeInOwnDict ownDictForStores
  repeat (first | with_reducible refine PySem.OEX.store_in_old hns hw hz ?_ | with_reducible refine wpAny_loadPart_at hx ?_ | with_reducible refine cls.at ?_ | wp_step)
  intro h' tk' hn' hs
  exact hq h' tk' (fun b o hb ho => (hs.2 b hb).trans ho) hn'
end
end
end Mi

set_option Elab.async false
set_option linter.all false
set_option maxRecDepth 100000
set_option maxHeartbeats 4000000
namespace Mi
open PySem L2 PySem.Spec PyProof.Rows
/-! ### an own exception that is being made -/
section
variable {B newId initId : String} {bm : List Value} {X : Cx} {pins : List (Addr × Obj)} {σ : L2.St} {H : Hp} {s : Shared} {a C dx : Addr} {f : Str} {y : V} {u : Value} {fs : List (Str × V)} {Q : Unit → Shared → Prop} {E : Value → Shared → Prop} {A : Around}
theorem OexB.rdy {K : PySem.W.Frag} (Z : Bse B newId initId bm) (T : OexB K C newId bm) : ∃ cd, Rdy K C cd := by
  obtain ⟨nm, q, N, bs, sn, sub, ab, col, dd, k0, k1, k2, k3, k5, hC⟩ := T.cls
  refine ⟨{ name := nm, bases := bs, mro := .ref C :: bm, ns := N, qualname := q, hasDict := true, slotNames := sn, subclasses := sub, abstract := ab, collection := col, hasDel := false }, ?_, rfl, ?_, fun self => ?_, rfl⟩
  · unfold PySem.W.clsIn
    rw [hC] <;> rfl
  · show (Value.ref C :: bm).contains (.type "object") = true
    rw [List.contains_cons, Z.obj, Bool.or_true]
  · exact (refuseLoop_ref ..).trans (Z.pass self)
theorem ostB_new (Z : Bse B newId initId bm) (T : OexB X.K C newId bm) (I : Inv X pins σ H s) (e : H a = some (exo a C none)) (hno : PySem.W.findIn X.K (.ref C) f = some none) (ry : RelV y u)
    (h : ∀ dx s', H dx = none → dx ≠ a → Inv X pins σ (upd (upd H dx (exd dx [(f, y)])) a (exo a C (some dx))) s' → Q () s') : wpAny (model X.prog X.w) A (setAttr (.ref a) f u) Q E s := by
  obtain ⟨cd, Y⟩ := T.rdy Z
  obtain ⟨t1, ho⟩ := exo_at I.hok e
  obtain ⟨hp, g, d, t, os⟩ := s
  refine PySem.W.set_plain I.kIn (ox := { cls := .ref C, dict := none, data := .fields #[.ref t1, .none, .none, .none, .bool false, .none] }) (od := none) ⟨ho, rfl, rfl, trivial⟩ T.sa ?_
  refine osa_new I.kIn ho Y hno (fun h' tk' dx k dn dne hx hn => ?_)
  have free : H dx = none := I.hok.fresh dn
  have nd : ∀ {b : Addr} {o : Obj}, hp.get? b = some o → b ≠ dx := fun {b o} q => Nat.ne_of_lt (Nat.lt_of_lt_of_le (Heap.lt_size q) dn)
  have na : ∀ {b : Addr}, H b = none → b ≠ a := fun {b} n z => by
    rw [z, e] at n
    cases n
  have U : Un X.fs [] H (upd (upd H dx (exd dx [(f, y)])) a (exo a C (some dx))) hp h' := {
    keep := fun b o q n _ _ => k b o (na n) q
    slot := fun b o q n _ _ => ⟨o.slots, k b o (na n) q⟩
    free := fun b o q n _ => by rw [upd_ne (na n), upd_ne (nd q)]; exact n
    there := fun b o q _ => by
      by_cases hb : b = a
      · exact ⟨_, by rw [hb]; exact hx⟩
      · exact ⟨o, k b o hb q⟩
    tups := fun b xs q => by rw [upd_ne (at_ne e q exo_tup), upd_ne (ne_of_none q free)]; exact q
    frzs := fun b o v q => by rw [upd_ne (at_ne e q exo_frz), upd_ne (ne_of_none q free)]; exact q
    tbls := fun b ps q => ⟨#[], by rw [upd_ne (at_ne e q exo_tbl), upd_ne (ne_of_none q free), q]; simp⟩ }
  refine h dx _ free dne (I.un (t' := tk') U fun b o q => ?_)
  by_cases hb : b = a
  · subst hb
    rw [upd_same] at q
    cases q
    exact exo_ok hx
  · rw [upd_ne hb] at q
    by_cases hd : b = dx
    · subst hd
      rw [upd_same] at q
      cases q
      exact exd_ok hn (relO_put (fs := []) ry fun g => True.intro)
    · rw [upd_ne hd] at q
      exact (I.hok b o q).stay (fun c v hc z => k c v (by
          rcases hc with hc | hc
          · rw [hc]
            exact hb
          · exact at_ne e hc exo_own) z)
        (fun c hc => by rw [upd_ne (at_ne e hc exo_own), upd_ne (ne_of_none hc free)]; exact hc) (fun c xs hc => by rw [upd_ne (at_ne e hc exo_tup), upd_ne (ne_of_none hc free)]; exact hc)
theorem ostB_old (Z : Bse B newId initId bm) (T : OexB X.K C newId bm) (I : Inv X pins σ H s) (e : H a = some (exo a C (some dx))) (ed : H dx = some (exd dx fs)) (hl : fs.length ≤ 900) (hno : PySem.W.findIn X.K (.ref C) f = some none) (ry : RelV y u)
    (h : ∀ s', Inv X pins σ (upd H dx (exd dx ((f, y) :: fs))) s' → Q () s') : wpAny (model X.prog X.w) A (setAttr (.ref a) f u) Q E s := by
  obtain ⟨cd, Y⟩ := T.rdy Z
  obtain ⟨t1, ho⟩ := exo_at I.hok e
  obtain ⟨mA, hns, rel⟩ := exd_at I.hok ed
  have hw := within_of rel
  obtain ⟨hp, g, d, t, os⟩ := s
  obtain ⟨oD, _, _, hoD, _, _⟩ := hns.count hw
  refine PySem.W.set_plain I.kIn (ox := { cls := .ref C, dict := some dx, data := .fields #[.ref t1, .none, .none, .none, .bool false, .none] }) (od := some oD) ⟨ho, rfl, rfl, hoD⟩ T.sa ?_
  refine osa_old I.kIn ho hns hw (by rw [List.length_map]; omega) Y hno (fun h' tk' k hn => ?_)
  have hd : ∃ o, h'.get? dx = some o := by
    obtain ⟨o, _, _, e', _⟩ := hn
    exact ⟨o, e'⟩
  exact h _ (I.write (t' := tk') (x := dx) (e := dx) (o := exd dx ((f, y) :: fs)) (by rw [ed]; exact True.intro) (.inl rfl) k hd (exd_ok hn (relO_put ry rel)))
theorem oinitB {us : List Value} {Q : Value → Shared → Prop} (Z : Bse B newId initId bm) (T : OexB X.K C newId bm) (I : Inv X pins σ H s) (e : H a = some (exo a C none)) (hl : us.length ≤ sizeLine) (h : ∀ s', Inv X pins σ H s' → Q .none s') :
    wpAny (model X.prog X.w) A (call (.builtin initId) (.ref a :: us)) Q E s := by
  obtain ⟨nm, q, N, bs, sn, sub, ab, col, dd, k0, k1, k2, k3, k5, hC⟩ := T.cls
  obtain ⟨t1, ho⟩ := exo_at I.hok e
  obtain ⟨hp, g, d, t, os⟩ := s
  refine wpAny_call (binit_base Z (I.kIn _ _ hC) ho hl fun h' t2 k hx => ?_)
  have J := I.write (t' := t) (x := a) (e := a) (o := exo a C none) (by rw [e]; exact True.intro) (.inl rfl) k ⟨_, hx⟩ (exo_ok hx)
  have same : upd H a (exo a C none) = H := by
    funext b
    by_cases hb : b = a
    · rw [hb, upd_same, e]
    · rw [upd_ne hb]
  rw [same] at J
  exact h _ J
end
/-- B.__init__(self, ..) -/
def tVeB (K : PySem.W.Frag) (newId : String) (bm : List Value) (ta : TA) : TE := fun σ H Q => ta σ H fun vs H1 => ∃ (a C : Addr) (ws : List V), vs = .ref a :: ws ∧ ws.length ≤ 1000 ∧ OexB K C newId bm ∧ H1 a = some (exo a C none) ∧ Q .non H1
/-- self.f = e -/
def tOsB (K : PySem.W.Frag) (newId : String) (bm : List Value) (f : Str) (to te : TE) : TS := fun D σ H => te σ H fun y H1 => to σ H1 fun x H2 => ∃ a C : Addr, x = .ref a ∧ OexB K C newId bm ∧ PySem.W.findIn K (.ref C) f = some none ∧
  ((H2 a = some (exo a C none) ∧ ∀ dx, H2 dx = none → dx ≠ a → D.nx σ (upd (upd H2 dx (exd dx [(f, y)])) a (exo a C (some dx)))) ∨
    ∃ (dx : Addr) (fs : List (Str × V)), H2 a = some (exo a C (some dx)) ∧ H2 dx = some (exd dx fs) ∧ fs.length ≤ 900 ∧ D.nx σ (upd H2 dx (exd dx ((f, y) :: fs))))
section
variable {B newId initId : String} {bm : List Value} {X : Cx} {o e : Expr} {es : List Expr} {to te : TE} {ta : TA} {b f : Str} {p p' p1 p2 pos : Pos}
theorem pe_veB {pl : Sem Bool} (Z : Bse B newId initId bm) (hb : bootBuiltins b = some (.type B)) (hg : Gl X b) (hm : X.mg b = none) (hs : Manifest.isStub B = false) (hh : PySem.W.handedIn (.builtin initId) = true) (hn : b ≠ "__name__") (hdb : (b == ("__debug__" : Str)) = false)
    (vV : PySem.W.findCls X.K (.type B) (.type "type") "__init__" = some (.val (.builtin initId))) (ha : PA X (e :: es) ta)
    (hc : eval (.Call (.Attribute (.Name b p1) "__init__" p2) (e :: es) [] pos) X.env = (do
      let ov ← eval (.Name b p1) X.env
      standAt p2.atName
      let (f, first) ← holding [ov] (getMethod ov "__init__" pl)
      callWith pos f first (backTo pos (starEach (e :: es) X.env)) (backToKw pos (keywordEach [] X.env))) := by rfl)
    (he : starEach (e :: es) X.env = (false, eval e X.env) :: starEach es X.env := by rfl) (hpl : (backTo pos (starEach es X.env)).any (·.1) = false := by rfl) :
    PE X (.Call (.Attribute (.Name b p1) "__init__" p2) (e :: es) [] pos) (tVeB X.K newId bm ta) := by
  refine ⟨fun pins s σ H Q I h => ?_⟩
  refine PySem.W.methodCall_KW (ld_blt I hg hm hb ?_ hn hdb) hc
  obtain ⟨m, fr⟩ := I.fr
  refine PySem.W.method_type fr I.ok.mod.kin Z.typ hs vV hh ?_
  show wpAny _ _ (callWith pos (Value.builtin initId) [] (backTo pos (starEach (e :: es) X.env)) []) _ _ _
  refine PyProof.Rows.callWith_method1 (thn (ha.run pos pins _ σ H _ (I.tok _) h) fun us s1 ⟨vs, H1, I1, r1, a, C, ws, ev, hl, T, ea, q⟩ => ?_) he hpl
  subst ev
  cases r1 with
  | @cons _ u0 _ ur ra rw' =>
    obtain rfl : u0 = Value.ref a := ra
    have hlen : ur.length ≤ sizeLine := by
      rw [← Paired.length rw', sizeLine_eq]
      omega
    exact oinitB Z T I1 ea hlen fun s' J => ⟨.non, H1, J, rfl, q⟩
theorem ps_osB (Z : Bse B newId initId bm) (ho : PE X o to) (he : PE X e te) (hs : swapsWith e (some (.Attribute o f p')) pos.line X.env = pure false := by rfl) : PS X (.Assign [.Attribute o f p'] e pos) (tOsB X.K newId bm f to te) := by
  refine ⟨fun pins s σ H D I h => ?_⟩
  refine plainObj_wpAny_Assign_Attribute (thn (he.run pins s σ H _ I h) fun v s1 ⟨y, H1, I1, r1, q1⟩ => thn (ho.run pins s1 σ H1 _ I1 q1) fun u s2 ⟨x, H2, I2, r2, a, C, ex, T, hno, q⟩ => ?_) hs
  subst ex
  obtain rfl : u = Value.ref a := r2
  rcases q with ⟨ea, q⟩ | ⟨dx, fs, ea, ed, hl, q⟩
  · exact ostB_new Z T I2 ea hno r1 fun dx s' n ne J => ⟨σ, _, J, q dx n ne⟩
  · exact ostB_old Z T I2 ea ed hl hno r1 fun s' J => ⟨σ, _, J, q⟩
end
/-! ### the inits -/
/-- what an own exception's init promises: its fields are what it is handed -/
def spI (C : Addr) (ns : List Str) : Sp := fun vs H Q E => ∃ (a : Addr) (ys : List V), vs = .ref a :: ys ∧ ys.length = ns.length ∧ H a = some (exo a C none) ∧ ∀ dx, H dx = none → dx ≠ a → Q .non (upd (upd H dx (exd dx (ns.zip ys).reverse)) a (exo a C (some dx)))
section
variable {B newId initId : String} {bm : List Value} {P : Program} {w : World} {K : PySem.W.Frag} {mg : Str → Option Value} {base : Heap} {x qual : Str} {st : Stmt} {fI C : Addr} {fd : FuncData} {n0 n1 n2 f1 f2 : Str} {k : Nat}
theorem start_at {N : List Str} {vs : List V} {i : Nat} {v : V} (h : vs[i]? = some v) : (start N vs)[i]? = some (some v) := by
  unfold L2.start
  have hl : i < vs.length := (List.getElem?_eq_some_iff.mp h).1
  rw [List.getElem?_append_left (by rw [List.length_map]; exact hl), List.getElem?_map, h]
  rfl
theorem ini1 {txt : Str} (Z : Bse B newId initId bm) (T : OexB K C newId bm) (h1 : PySem.W.findIn K (.ref C) f1 = some none)
    (F : Fun K x qual st fI fd) (S : FnScope [n0, n1] [n0, n1] (defScope st))
    (hbody : ∀ (cdv : Value) (A : Around) (outer : List PySem.Env) (s : Shared) (H : Hp) (E : XK),
      PSs (cxOf (L2.CX P w) P w K mg base [n0, n1] qual (defScope st) fI cdv A outer s H E) (defBody st) (tSeq (tDrop (tVeB K newId bm (tCons (tVar 0) (tCons (tC (.str txt)) tNil)))) (tOsB K newId bm f1 (tVar 0) (tVar 1)))) :
    FnG P w K mg base (k + 1) fI fd [n0, n1] (spI C [f1]) := by
  refine fun_okG F S (fun vs H Q E h => ?_) fun cdv A outer s H vs Q E hg hr h => ?_
  · obtain ⟨a, ys, rfl, hl, _⟩ := h
    simp [hl]
  · refine ⟨_, hbody cdv A outer s H E, ?_⟩
    obtain ⟨a, ys, rfl, hl, ea, q⟩ := h
    obtain ⟨y, rfl⟩ := List.length_eq_one_iff.mp hl
    refine ⟨_, start_at rfl, a, C, [.str txt], rfl, by simp, T, ea, ?_⟩
    refine ⟨_, start_at rfl, _, start_at rfl, a, C, rfl, T, h1, .inl ⟨ea, fun dx n ne => q dx n ne⟩⟩
theorem ini2 {txt : Str} (Z : Bse B newId initId bm) (T : OexB K C newId bm) (h1 : PySem.W.findIn K (.ref C) f1 = some none) (h2 : PySem.W.findIn K (.ref C) f2 = some none)
    (F : Fun K x qual st fI fd) (S : FnScope [n0, n1, n2] [n0, n1, n2] (defScope st))
    (hbody : ∀ (cdv : Value) (A : Around) (outer : List PySem.Env) (s : Shared) (H : Hp) (E : XK),
      PSs (cxOf (L2.CX P w) P w K mg base [n0, n1, n2] qual (defScope st) fI cdv A outer s H E) (defBody st) (tSeq (tDrop (tVeB K newId bm (tCons (tVar 0) (tCons (tC (.str txt)) tNil)))) (tSeq (tOsB K newId bm f1 (tVar 0) (tVar 1)) (tOsB K newId bm f2 (tVar 0) (tVar 2))))) :
    FnG P w K mg base (k + 1) fI fd [n0, n1, n2] (spI C [f1, f2]) := by
  refine fun_okG F S (fun vs H Q E h => ?_) fun cdv A outer s H vs Q E hg hr h => ?_
  · obtain ⟨a, ys, rfl, hl, _⟩ := h
    simp [hl]
  · refine ⟨_, hbody cdv A outer s H E, ?_⟩
    obtain ⟨a, ys, rfl, hl, ea, q⟩ := h
    match ys, hl with
    | [y1, y2], _ =>
      refine ⟨_, start_at rfl, a, C, [.str txt], rfl, by simp, T, ea, ?_⟩
      refine ⟨_, start_at rfl, _, start_at rfl, a, C, rfl, T, h1, .inl ⟨ea, fun dx n ne => ?_⟩⟩
      refine ⟨_, start_at rfl, _, start_at rfl, a, C, rfl, T, h2, .inr ⟨dx, [(f1, y1)], upd_same, ?_, by simp, ?_⟩⟩
      · rw [upd_ne ne, upd_same]
      · have := q dx n ne
        have e : upd (upd (upd H dx (exd dx [(f1, y1)])) a (exo a C (some dx))) dx (exd dx [(f2, y2), (f1, y1)]) = upd (upd H dx (exd dx [(f2, y2), (f1, y1)])) a (exo a C (some dx)) := by
          funext b
          by_cases hb : b = dx
          · subst hb
            rw [upd_same, upd_ne ne, upd_same]
          · rw [upd_ne hb]
            by_cases ha : b = a
            · subst ha
              rw [upd_same, upd_same]
            · rw [upd_ne ha, upd_ne hb, upd_ne ha, upd_ne hb]
        rw [e]
        exact this
end
/-! ### C(e, ..) -/
def tMkB (C : Addr) (ns : List Str) (ta : TA) : L2.St → Hp → XK → Prop := fun σ H Q => ta σ H fun vs H1 => vs.length = ns.length ∧ ns.length ≤ 1000 ∧ ∀ d, H1 d = none → Q (.ref C) (some d) (upd H1 d (.xd (ns.zip vs).reverse))
section
variable {B newId initId : String} {bm : List Value} {X : Cx} {e : Expr} {es : List Expr} {ta : TA} {p pos : Pos}
theorem pmk_oexB {x : Str} {C fI : Addr} {k : Nat} {fd : FuncData} {ps ns : List Str} (Z : Bse B newId initId bm) (T : OexB X.K C newId bm) (iC : PySem.W.findIn X.K (.ref C) "__init__" = some (some (.ref fI))) (tI : PySem.W.typeIn X.K (.ref fI) = some (.type "function"))
    (F1 : FnG X.prog X.w X.K X.mg X.base k fI fd ps (spI C ns)) (hgu : X.A.guards = some []) (hr : Room (k + 1) X.A) (hb : Binds X.K fd ps []) (hm : X.mg x = some (.ref C)) (ha : PA X (e :: es) ta) (hg : Gl X x := by rfl)
    (hdb : (x == ("__debug__" : Str)) = false := by decide) (he : starEach (e :: es) X.env = (false, eval e X.env) :: starEach es X.env := by rfl) (hpl : (backTo pos (starEach es X.env)).any (·.1) = false := by rfl) :
    PMk X (.Call (.Name x p) (e :: es) [] pos) (tMkB C ns ta) := by
  intro pins s σ H Q I h
  obtain ⟨nm, q, N, bs, sn, sub, ab, col, dd, k0, k1, k2, k3, k5, hC⟩ := T.cls
  refine wpAny_Call_Name_kw (ld_glob I hg hm ?_ hdb)
  refine PySem.W.callWith_K (h₀ := X.base) I.ok.mod.kin T.kC (thn (ha.run pos pins s σ H _ I h) fun us s1 ⟨vs, H1, I1, r1, hz, hz2, q1⟩ => ⟨I1.kIn, ?_⟩) he hpl
  show wpAny _ _ (call (.ref C) us) _ _ _
  obtain ⟨hp, g, dr, tk, os⟩ := s1
  have hsz : hp.objs.size ≤ hp.objs.size + 1 := Nat.le_succ _
  have hn : H1 (hp.objs.size + 1) = none := I1.hok.fresh hsz
  have kk : ∀ b o, hp.get? b = some o → ((hp.push (PySem.W.kdv_tup us)).push (PySem.HandSPX.excO C hp.objs.size)).get? b = some o := fun b o e => Heap.get?_push_of_some _ (Heap.get?_push_of_some _ e)
  have hget : ((hp.push (PySem.W.kdv_tup us)).push (PySem.HandSPX.excO C hp.objs.size)).get? (hp.objs.size + 1) = some (PySem.HandSPX.excO C hp.objs.size) := by heap_get
  have I2 : Inv X pins σ (upd H1 (hp.objs.size + 1) (exo (hp.objs.size + 1) C none)) ⟨(hp.push (PySem.W.kdv_tup us)).push (PySem.HandSPX.excO C hp.objs.size), g, dr, tk, os⟩ :=
    I1.laid (t' := tk) (a := hp.objs.size + 1) (o := exo (hp.objs.size + 1) C none) (h' := (hp.push (PySem.W.kdv_tup us)).push (PySem.HandSPX.excO C hp.objs.size)) kk hsz (exo_ok hget)
  have r2 : Vals (V.ref (hp.objs.size + 1) :: vs) (Value.ref (hp.objs.size + 1) :: us) := .cons rfl r1
  have hq : spI C ns (V.ref (hp.objs.size + 1) :: vs) (upd H1 (hp.objs.size + 1) (exo (hp.objs.size + 1) C none))
      (fun v H2 => v = .non ∧ ∃ (d : Addr) (fs : List (Str × V)), H2 (hp.objs.size + 1) = some (exo (hp.objs.size + 1) C (some d)) ∧ H2 d = some (exd d fs) ∧ H1 d = none ∧ Q (.ref C) (some d) (upd (del H2 (hp.objs.size + 1)) d (.xd fs))) (fun _ _ _ => False) := by
    refine ⟨_, vs, rfl, hz, upd_same, fun dx nx ne => ⟨rfl, dx, (ns.zip vs).reverse, upd_same, ?_, ?_, ?_⟩⟩
    · rw [upd_ne ne, upd_same]
    · rw [upd_ne ne] at nx
      exact nx
    · rw [upd_ne ne] at nx
      have e : upd (del (upd (upd (upd H1 (hp.objs.size + 1) (exo (hp.objs.size + 1) C none)) dx (exd dx (ns.zip vs).reverse)) (hp.objs.size + 1) (exo (hp.objs.size + 1) C (some dx))) (hp.objs.size + 1)) dx (.xd (ns.zip vs).reverse) = upd H1 dx (.xd (ns.zip vs).reverse) := by
        funext b
        by_cases hb : b = dx
        · rw [hb, upd_same, upd_same]
        · rw [upd_ne hb, upd_ne hb]
          by_cases ha : b = hp.objs.size + 1
          · rw [ha, del_same, hn]
          · rw [del_ne ha, upd_ne ha, upd_ne hb, upd_ne ha]
      rw [e]
      exact q1 dx nx
  have hl : (Value.ref (hp.objs.size + 1) :: us ++ []).length = ps.length := by
    have e := r2.length
    rw [F1.len _ _ _ _ hq] at e
    simpa using e.symm
  have hus : us.length ≤ sizeLine := by
    rw [← Paired.length r1, sizeLine_eq]
    omega
  have hb' := hb _ (Value.ref (hp.objs.size + 1) :: us) I2.kIn hl
  rw [List.append_nil] at hb'
  refine wpAny_call (bcall_own Z (I1.kIn _ _ hC) (PySem.W.looks_findIn I1.kIn iC) (fun self => PySem.W.bind_fn I1.kIn self tI) hus
    (codeAny_mono (F1.run _ X.stack _ _ ⟨Value.ref (hp.objs.size + 1) :: us, []⟩ (Value.ref (hp.objs.size + 1) :: us) _ _ (fun _ _ _ => False) (make_guards hgu) (hr.make C us []) (I2.env0.make C us []) hb' r2 hq) fun r s' hq' => ?_))
  cases r with
  | error er =>
    obtain ⟨a, B, sI, pins, σ, H, hh⟩ := hq'
    exact absurd hh (by simp)
  | ok fl =>
    cases fl with
    | ret u =>
      obtain ⟨v, H2, os2, bare2, un2, hok2, rv, ev, d, fs, ea, ed, hd1, q2⟩ := hq'
      subst ev
      obtain ⟨h2, g2, d2, t2, os'⟩ := s'
      exact ⟨rv, mk_end (raises_own T.exC T.tyC) I1 hsz kk un2 hok2 os2 bare2 ea ed hd1 q2⟩
    | next => exact False.elim hq'
    | brk => exact False.elim hq'
    | cont => exact False.elim hq'
end
end Mi

set_option Elab.async false
set_option linter.all false
set_option maxRecDepth 100000
set_option maxHeartbeats 4000000
namespace Mi
open PySem L2 PySem.Spec PyProof.Rows
/-! ### raise -/
def sRaise (c : Str) (ns : List Str) (a : Av) : Sv := fun env S => (a env S).bindS env fun ws S1 => if ws.length = ns.length ∧ ns.length ≤ 1000 then .ex c (ns.zip ws).reverse env S1 else .bad
theorem rfs_zipN {g : Kg} {z : Wd} : ∀ {ns : List Str} {ws : List W} {vs : List V}, RWs g z ws vs → RFs g z (ns.zip ws) (ns.zip vs)
  | [], _, _, _ => .nil
  | _ :: _, _, _, .nil => .nil
  | _ :: _, _, _, .cons r rs => .cons ⟨rfl, r⟩ (rfs_zipN rs)
theorem paired_snoc {α β : Type} {r : α → β → Prop} : ∀ {a : List α} {b : List β} {x : α} {y : β}, Paired r a b → r x y → Paired r (a ++ [x]) (b ++ [y])
  | _, _, _, _, .nil, h => .cons h .nil
  | _, _, _, _, .cons p q, h => .cons p (paired_snoc q h)
theorem paired_rev {α β : Type} {r : α → β → Prop} : ∀ {a : List α} {b : List β}, Paired r a b → Paired r a.reverse b.reverse
  | _, _, .nil => .nil
  | _, _, .cons p q => by
    rw [List.reverse_cons, List.reverse_cons]
    exact paired_snoc (paired_rev q) p
section
variable {B newId initId : String} {bm : List Value} {X : Cx} {Wx : WX} {e : Expr} {es : List Expr} {fa : Av} {p pos pos' : Pos}
theorem ms_raise {x : Str} {C fI : Addr} {k : Nat} {fd : FuncData} {ps ns : List Str} (hc : X.calm = true) (tk : Takes X Wx) (Z : Bse B newId initId bm) (T : OexB X.K C newId bm) (iC : PySem.W.findIn X.K (.ref C) "__init__" = some (some (.ref fI))) (tI : PySem.W.typeIn X.K (.ref fI) = some (.type "function"))
    (F1 : FnG X.prog X.w X.K X.mg X.base k fI fd ps (spI C ns)) (hgu : X.A.guards = some []) (hr : Room (k + 1) X.A) (hb : Binds X.K fd ps []) (hm : X.mg x = some (.ref C)) (ha : MA X Wx (e :: es) fa) (hg : Gl X x := by rfl)
    (hdb : (x == ("__debug__" : Str)) = false := by decide) (he : starEach (e :: es) X.env = (false, eval e X.env) :: starEach es X.env := by rfl) (hpl : (backTo pos (starEach es X.env)).any (·.1) = false := by rfl) :
    MS X Wx (.Raise (some (.Call (.Name x p) (e :: es) [] pos)) none pos') (sRaise x ns fa) := by
  refine ps_mono (ps_raise hc tk (pmk_oexB Z T iC tI F1 hgu hr hb hm ha hg hdb he hpl)) ?_
  rintro D σ H ⟨z, env, rfl, t, re, o⟩
  refine ⟨z, env, rfl, t, re, OutS.bind re o fun z1 vs ws e1 st1 t1 r1 o1 => ?_⟩
  split at o1
  · rename_i hl
    refine ⟨r1.length.symm.trans hl.1, hl.2, fun d hd => ?_⟩
    have t2 := Tied.new (o := HO.xd (ns.zip vs).reverse) t1 hd
    have s2 := Step.new (o := HO.xd (ns.zip vs).reverse) t1 hd
    exact o1 (z1.new d (.xd (ns.zip vs).reverse)) σ _ _ rfl s2 t2 ((re.mono st1).mono s2) ⟨C, d, _, hm, rfl, rfl, upd_same, t1.notLive hd, paired_rev ((rfs_zipN r1).mono s2)⟩
  · exact o1.elim
end
/-! ### try: body; except C as n: caught = n -/
/-- hit: the classes that the clause takes -/
def sKeep (hit : Str → Bool) (i j : Nat) (b : Sv) : Sv := fun env S => match b env S with
  | .ex c fs e S1 => if hit c = true ∧ i < e.length then .next ((e.set j (some (.h S1.length))).set i none) (S1 ++ [.exn c fs]) else .bad
  | r => r
structure Hits (g : Kg) (cl : Value) (hit : Str → Bool) : Prop where
  ok : ∀ c, hit c = true → ∀ C, g.mg c = some (.ref C) → PySem.W.exmOne g.K (.ref C) cl = some true
section
variable {X : Cx} {Wx : WX} {x n y : Str} {cl : Value} {i j : Nat} {body : List Stmt} {np p1 p2 pos pos' pos2 : Pos} {fb : Sv} {hit : Str → Bool}
theorem ms_keep (hs : X.stack = X.env :: X.outer) (hf : X.env.frame = some X.env.locals) (hex : X.ex = []) (nd : X.N.Nodup) (hi : X.N[i]? = some n) (hj : X.N[j]? = some y) (hij : i ≠ j) (hl : X.env.kindOf n = some .local) (hc : Names X x cl) (hh : Hits (gX X) cl hit)
    (hb : ∀ (W : WX) (pn : List (Addr × Obj)) (xe : Value → Shared → Prop), Takes (X.tr pn xe) W → PassesOwn (model X.prog X.w) X.A X.env xe → MSs (X.tr pn xe) W body fb)
    (hv : Vis X.env.scope n) (hn1 : (n == ("__debug__" : Str)) = false) (hn2 : (n == ("__classdict__" : Str)) = false) (hy : Loc X.env.scope y) (hyf : X.fn y = true ∨ X.env.scope.names.lookup y = some .local)
    (hsw : ∀ a pn, swapsWith (.Name n p2) (some (.Name y p1)) pos2.line (X.suite a pn).env = pure false) :
    MS X Wx (.Try body [.ExceptHandler (some (.Name x np)) (some n) [.Assign [.Name y p1] (.Name n p2) pos2] pos'] [] [] pos) (sKeep hit i j fb) := by
  refine ps_mono (ps_try_keep (tb := fun W => tMS (gX X) W fb) (ts := fun _ _ _ => L2.tAsg (L2.tVar i) (L2.gName j)) hs hf hex nd hi hl hc hb fun a oe cls d pn _ _ => pss_one (ps_set (X := X.suite a ((a, oe) :: pn)) nd hj hy (pe_var hi hv hn1 hn2) (hsw a _) hyf)) ?_
  rintro D σ H ⟨z, env, rfl, t, re, o⟩
  refine ⟨z, env, rfl, t, re, ?_⟩
  unfold sKeep at o
  cases hr : fb env z.S with
  | ex c fs e0 S1 =>
    rw [hr] at o
    dsimp only at o
    split at o
    · rename_i hc1
      intro z' σ' cls d es st t' re' xr
      obtain ⟨C, dd, fs', h1, rfl, rfl, h2, h3, h4⟩ := xr.ex
      have hlen : i < σ'.length := by
        rw [← re'.len]
        exact hc1.2
      refine ⟨hh.ok c hc1.1 C h1, fun a ha => ⟨.ref a, List.getElem?_set_self hlen, ?_⟩⟩
      have ne : dd ≠ a := ne_of_none h2 ha
      have s2 := Step.newH (o := exk a (.ref C) (some dd)) (ob := Ob.exn c fs) t' ha
      have t2 : Tied (gX X) (z'.newH a (exk a (.ref C) (some dd)) (.exn c fs)) := t'.newH ha (.exn h1 (s2.stay dd _ h2 h3).1 (s2.stay dd _ h2 h3).2 (h4.mono s2))
      subst es
      refine o (z'.newH a (exk a (.ref C) (some dd)) (.exn c fs)) _ rfl (st.trans s2) t2 ⟨by simp [re'.len], fun k w e => ?_⟩
      by_cases hk : k = i
      · subst hk
        rw [List.getElem?_set_self (by simpa using hc1.2)] at e
        cases e
      · rw [List.getElem?_set_ne (Ne.symm hk)] at e
        rw [List.getElem?_set_ne (Ne.symm hk)]
        by_cases hkj : k = j
        · subst hkj
          have hk2 : k < List.length e0 := by
            have := (List.getElem?_eq_some_iff.mp e).1
            simpa using this
          rw [List.getElem?_set_self hk2] at e
          cases e
          refine ⟨.ref a, List.getElem?_set_self (by rw [List.length_set, ← re'.len]; exact hk2), newH_at⟩
        · rw [List.getElem?_set_ne (Ne.symm hkj)] at e
          rw [List.getElem?_set_ne (Ne.symm hkj), List.getElem?_set_ne (Ne.symm hk)]
          obtain ⟨v, e1, r⟩ := re'.at_ k w e
          exact ⟨v, e1, r.mono s2⟩
    · exact o.elim
  | _ =>
    rw [hr] at o
    exact o
end
/-! ### isinstance of, and fields of, a kept exception -/
theorem Tied.exnAt {g : Kg} {z : Wd} {n : Nat} {c : Str} {fs : List (Str × W)} (t : Tied g z) (h : z.S[n]? = some (.exn c fs)) : ∃ C d fs', g.mg c = some (.ref C) ∧ Kept z.H (z.m n) C d fs' ∧ RFs g z fs fs' := by
  obtain ⟨ho, e, r⟩ := t.at_ n _ h (by intro q; cases q)
  cases r with
  | exn a e1 n r => exact ⟨_, _, _, a, ⟨e, e1⟩, r⟩
abbrev KxT := Str → W → Option Bool
def kxAny (kx : KxT) (c : Str) : List W → Option Bool
  | [] => some false
  | w :: ws => match kx c w with
    | some true => some true
    | some false => kxAny kx c ws
    | none => none
def kxAll (kx : KxT) (c : Str) : List W → Bool
  | [] => true
  | w :: ws => (kx c w).isSome && kxAll kx c ws
structure KxOk (g : Kg) (kx : KxT) : Prop where
  ty : ∀ c n b, kx c (.ty n) = some b → ∀ D, g.mg c = some (.ref D) → ExcC g.K D ∧ PySem.W.kitOne g.K (.ref D) (.type n) = some b
  fn : ∀ c x b, kx c (.fn x) = some b → ∀ D, g.mg c = some (.ref D) → ∃ C, g.mg x = some (.ref C) ∧ ExcC g.K D ∧ PySem.W.kitOne g.K (.ref D) (.ref C) = some b
  no : ∀ c w b, kx c w = some b → (∃ n, w = .ty n) ∨ ∃ x, w = .fn x
theorem KxOk.at_ {g : Kg} {kx : KxT} {z : Wd} {c : Str} {w : W} {v : V} {b : Bool} {D : Addr} (K : KxOk g kx) (h : kx c w = some b) (hD : g.mg c = some (.ref D)) (r : RW g z w v) : ∃ u, ClsV v u ∧ ExcC g.K D ∧ PySem.W.kitOne g.K (.ref D) u = some b := by
  rcases K.no c w b h with ⟨n, rfl⟩ | ⟨x, rfl⟩
  · cases r
    obtain ⟨h1, h2⟩ := K.ty c n b h D hD
    exact ⟨_, .ty n, h1, h2⟩
  · obtain ⟨C, h0, h1, h2⟩ := K.fn c x b h D hD
    cases r with
    | @fn _ u _ e rv =>
      rw [h0] at e
      cases e
      cases v with
      | ref a =>
        cases (show Value.ref C = Value.ref a from rv)
        exact ⟨_, .own _, h1, h2⟩
      | int i => obtain ⟨_, q⟩ := rv; cases q
      | str i => obtain ⟨_, q⟩ := rv; cases q
      | byt i => obtain ⟨_, q⟩ := rv; cases q
      | flt i => obtain ⟨_, q⟩ := rv; cases q
      | non => cases rv
      | bl b => cases rv
      | ty b => cases rv
theorem KxOk.any {g : Kg} {kx : KxT} {z : Wd} {c : Str} {D : Addr} (K : KxOk g kx) (hD : g.mg c = some (.ref D)) : ∀ {ws : List W} {vs : List V} {b : Bool}, kxAny kx c ws = some b → kxAll kx c ws = true → RWs g z ws vs → ∃ us, Paired ClsV vs us ∧ PySem.W.kitAny g.K (.ref D) us = some b
  | [], _, b, h, _, .nil => ⟨[], .nil, h⟩
  | w :: ws, v :: vs, b, h, h', .cons r rs => by
    unfold kxAny at h
    unfold kxAll at h'
    obtain ⟨h1, h2⟩ := Bool.and_eq_true_iff.mp h'
    obtain ⟨k, hk⟩ := Option.isSome_iff_exists.mp h1
    rw [hk] at h
    obtain ⟨u, c1, _, c2⟩ := K.at_ hk hD r
    cases k with
    | true =>
      have hany : ∀ {ws : List W} {vs : List V}, kxAll kx c ws = true → RWs g z ws vs → ∃ us, Paired ClsV vs us := by
        intro ws
        induction ws with
        | nil => intro vs _ r; cases r; exact ⟨[], .nil⟩
        | cons w ws ih =>
          intro vs h r
          cases r with
          | cons r rs =>
            unfold kxAll at h
            obtain ⟨h1, h2⟩ := Bool.and_eq_true_iff.mp h
            obtain ⟨k, hk⟩ := Option.isSome_iff_exists.mp h1
            obtain ⟨u, c1, _⟩ := K.at_ hk hD r
            obtain ⟨us, q⟩ := ih h2 rs
            exact ⟨u :: us, .cons c1 q⟩
      obtain ⟨us, q⟩ := hany h2 rs
      refine ⟨u :: us, .cons c1 q, ?_⟩
      cases h
      simp [PySem.W.kitAny, c2]
    | false =>
      obtain ⟨us, q, q2⟩ := K.any hD h h2 rs
      refine ⟨u :: us, .cons c1 q, ?_⟩
      simp [PySem.W.kitAny, c2, q2]
def bIsX (kx : KxT) : OpA := fun ws S => match ws with
  | [.h n, c] => (match S[n]? with
    | some (.exn cn _) => (match c with
      | .tup cs => (match cs with
        | [] => .bad
        | c0 :: cs => if kxAll kx cn (c0 :: cs) = true then (match kxAny kx cn (c0 :: cs) with
          | some b => .ok (.bl b) S
          | none => .bad) else .bad)
      | c => (match kx cn c with
        | some b => .ok (.bl b) S
        | none => .bad))
    | _ => bIsi ws S)
  | _ => bIsi ws S
/-- isinstance(e, (c1, c2, ..)), the tuple any one -/
def rIsXS (K : PySem.W.Frag) : List V → Hp → VK → Prop := fun xs H Q => ∃ (a D d : Addr) (fs : List (Str × V)) (tp : Addr) (cs : List V) (us : List Value) (b : Bool), xs = [.ref a, .ref tp] ∧ Kept H a D d fs ∧ SqT K H tp cs ∧ Paired ClsV cs us ∧ ExcC K D ∧ PySem.W.kitAny K (.ref D) us = some b ∧ Q (.bl b) H
theorem call_isXS {X : Cx} : CallR X (.builtin "isinstance") (rIsXS X.K) := by
  intro pins s σ H xs us Q I r h
  obtain ⟨a, D, d, fs, tp, cs, ws, b, rfl, kp, ht, cv, C, e, q⟩ := h
  obtain ⟨u1, u2, rfl, r1, r2⟩ := vals2 r
  cases (show u1 = Value.ref a from r1)
  cases (show u2 = Value.ref tp from r2)
  obtain ⟨o, od, mA, J, _⟩ := kp.inst I
  obtain ⟨its, ot, n, rv, h1, h2, h3⟩ := sqT_at I.hok I.kIn ht
  cases ClsV.all cv rv
  obtain ⟨oc, dd, dt, sl⟩ := ot
  dsimp only at h2 h3
  subst h2 h3
  exact PySem.W.kia_tup (kit_kept C) I.kIn J h1 e (fun z => nomatch z) fun tk => ⟨.bl b, H, I.tok tk, rfl, q⟩
theorem callR_or {X : Cx} {f : Value} {r1 r2 : List V → Hp → VK → Prop} (h1 : CallR X f r1) (h2 : CallR X f r2) : CallR X f (fun xs H Q => r1 xs H Q ∨ r2 xs H Q) := by
  intro pins s σ H xs us Q I r h
  rcases h with h | h
  · exact h1 pins s σ H xs us Q I r h
  · exact h2 pins s σ H xs us Q I r h
section
variable {X : Cx} {Wx : WX}
theorem cs_isX {kx : KxT} (K : KxOk (gX X) kx) : CallS X Wx (.builtin "isinstance") (bIsX kx) := by
  obtain ⟨r0, c0, h0⟩ := cs_isi (X := X) (Wx := Wx)
  refine ⟨_, callR_or c0 (callR_or (call_isX (X := X) rfl) call_isXS), fun z σ ws vs Q t rs o => ?_⟩
  unfold bIsX at o
  split at o
  · rename_i n c
    obtain ⟨v, v', rfl, r, r'⟩ := rws2 rs
    split at o
    · rename_i cn fs e
      obtain ⟨D, d, fs', hD, kp, rf⟩ := t.exnAt e
      cases r
      split at o
      · rename_i cs
        cases r' with
        | tup hT rs' =>
          split at o
          · exact o.elim
          · rename_i c0 cs
            split at o
            · rename_i ha
              split at o
              · rename_i b hb
                obtain ⟨us, q1, q2⟩ := K.any hD hb ha rs'
                have C : ExcC (gX X).K D := by
                  unfold kxAll at ha
                  obtain ⟨h1, h2⟩ := Bool.and_eq_true_iff.mp ha
                  obtain ⟨k, hk⟩ := Option.isSome_iff_exists.mp h1
                  cases rs' with
                  | cons r0 _ =>
                    obtain ⟨_, _, C, _⟩ := K.at_ hk hD r0
                    exact C
                exact .inr (.inr ⟨_, D, d, fs', _, _, us, b, rfl, kp, hT.sq, q1, C, q2, Out.now o t (.bl _)⟩)
              · exact o.elim
            · exact o.elim
      · split at o
        · rename_i b hb
          obtain ⟨u, c1, C, c2⟩ := K.at_ hb hD r'
          exact .inr (.inl ⟨_, D, d, fs', _, u, b, rfl, kp, c1, C, c2, Out.now o t (.bl _)⟩)
        · exact o.elim
    · exact .inl (h0 z σ _ _ Q t rs o)
  · exact .inl (h0 z σ _ _ Q t rs o)
/-- e.f, e a kept exception -/
def exfOf (S : Sto) (cs : List Str) (f : Str) : W → Option W
  | .h n => match S[n]? with
    | some (.exn c fs) => if c ∈ cs then fs.lookup f else none
    | _ => none
  | _ => none
def eExf (cs : List Str) (f : Str) (o : Ev) : Ev := fun env S => (o env S).bind fun x S1 => match exfOf S1 cs f x with
  | some y => .ok y S1
  | none => .bad
theorem me_exf {cs : List Str} {f : Str} {o : Expr} {fo : Ev} {pos : Pos} (hC : ∀ c ∈ cs, ∀ D, X.mg c = some (.ref D) → XfC X.K D ∧ PySem.W.findIn X.K (.ref D) f = some none) (ho : ME X Wx o fo) (hb : attributeBase o f X.env (eval o X.env) = eval o X.env := by rfl) :
    ME X Wx (.Attribute o f pos) (eExf cs f fo) := by
  refine pe_mono (pe_fldX ho hb) ?_
  rintro σ H Q ⟨z, env, rfl, t, re, o⟩
  refine ⟨z, env, rfl, t, re, o.bind fun z1 x w e1 st1 t1 r1 o1 => ?_⟩
  split at o1
  · rename_i y e
    cases r1 with
    | @h n l =>
      unfold exfOf at e
      dsimp only at e
      split at e
      · rename_i c fs e0
        split at e
        · rename_i hc
          obtain ⟨D, d, fs', hD, kp, rf⟩ := t1.exnAt e0
          obtain ⟨h1, h2⟩ := hC c hc D hD
          rcases rfs_lookup f rf with ⟨q, _⟩ | ⟨w', v', q1, q2, r⟩
          · rw [q] at e
            cases e
          · rw [q1] at e
            cases e
            exact ⟨_, D, d, fs', v', rfl, kp, h1, h2, q2, Out.now o1 t1 r⟩
        · cases e
      · cases e
    | _ => cases e
  · exact o1.elim
end
end Mi

set_option Elab.async false
set_option linter.all false
set_option maxRecDepth 100000
set_option maxHeartbeats 4000000
namespace Mi
open PySem L2 PySem.Spec PyProof.Rows
/-! ### repr -/
def kD : Key → PyData
  | .inl i => .int i
  | .inr x => .str x
mutual
def shwW (hd : Nat → Option PyData) : W → Option PyData
  | .non => some .none
  | .bl b => some (.bool b)
  | .int i => some (.int i)
  | .str x => some (.str x)
  | .h n => hd n
  | .tup ws => (shwWs hd ws).map .tuple
  | .lst ws => (shwWs hd ws).map .list
  | .dct ks ws => (shwWs hd ws).map fun ds => .dict ((ks.map kD).zip ds)
  | _ => none
def shwWs (hd : Nat → Option PyData) : List W → Option (List PyData)
  | [] => some []
  | w :: ws => (shwW hd w).bind fun d => (shwWs hd ws).map (d :: ·)
end
def shwH (S : Sto) : Nat → Nat → Option PyData
  | 0 => fun _ => none
  | k + 1 => fun n => match S[n]? with
    | some (.lst ws) => (shwWs (shwH S k) ws).map .list
    | some (.dct kvs) => (shwWs (shwH S k) (kvs.map (·.2))).map fun ds => .dict ((kvs.map fun p => kD p.1).zip ds)
    | _ => none
abbrev shw (S : Sto) (w : W) : Option PyData := shwW (shwH S 4) w
theorem shwWs_len {hd : Nat → Option PyData} : ∀ {ws : List W} {ds : List PyData}, shwWs hd ws = some ds → ds.length = ws.length
  | [], _, h => by cases h; rfl
  | w :: ws, _, h => by
    unfold shwWs at h
    obtain ⟨d, _, h⟩ := Option.bind_eq_some_iff.mp h
    obtain ⟨ds, h2, h⟩ := Option.map_eq_some_iff.mp h
    cases h
    rw [List.length_cons, List.length_cons, shwWs_len h2]
theorem zip_fst {α β : Type} : ∀ {a : List α} {b : List β}, a.length = b.length → (a.zip b).map (·.1) = a
  | [], [], _ => rfl
  | _ :: _, _ :: _, h => by rw [List.zip_cons_cons, List.map_cons, zip_fst (Nat.succ.inj h)]
  | [], _ :: _, h => by cases h
  | _ :: _, [], h => by cases h
theorem zip_snd {α β : Type} : ∀ {a : List α} {b : List β}, a.length = b.length → (a.zip b).map (·.2) = b
  | [], [], _ => rfl
  | _ :: _, _ :: _, h => by rw [List.zip_cons_cons, List.map_cons, zip_snd (Nat.succ.inj h)]
  | [], _ :: _, h => by cases h
  | _ :: _, [], h => by cases h
/-! ### what is read, where no dict of it is sys.modules -/
mutual
inductive Rq (h : Heap) : Value → PyData → Prop
  | none : Rq h .none .none
  | bool (b : Bool) : Rq h (.bool b) (.bool b)
  | int (i : Int) (t : Tok) : Rq h (.int i t) (.int i)
  | str (x : Str) (t : Tok) : Rq h (.str x t) (.str x)
  | list {a : Addr} {o : Obj} {vs : Array Value} {n : Nat} {xs : List PyData} : h.get? a = some o → o.cls = .type "list" → o.data = .seq vs n → RqAll h vs.toList xs → Rq h (.ref a) (.list xs)
  | tuple {a : Addr} {o : Obj} {vs : Array Value} {n : Nat} {xs : List PyData} : h.get? a = some o → o.cls = .type "tuple" → o.data = .seq vs n → RqAll h vs.toList xs → Rq h (.ref a) (.tuple xs)
  | dict {a : Addr} {o : Obj} {es : Array DictEntry} {n : Nat} {kvs : List (PyData × PyData)} : h.get? a = some o → o.cls = .type "dict" → o.data = .dict es n → (a == sysModules) = false → RqAll h (es.toList.map (·.key)) (kvs.map (·.1)) →
      RqAll h (es.toList.map (·.val)) (kvs.map (·.2)) → Rq h (.ref a) (.dict kvs)
inductive RqAll (h : Heap) : List Value → List PyData → Prop
  | nil : RqAll h [] []
  | cons {v : Value} {vs : List Value} {d : PyData} {ds : List PyData} : Rq h v d → RqAll h vs ds → RqAll h (v :: vs) (d :: ds)
end
mutual
theorem Rq.reads {h : Heap} : ∀ {v : Value} {d : PyData}, Rq h v d → ∃ as, Reads h v d as
  | _, _, .none => ⟨_, .none⟩
  | _, _, .bool b => ⟨_, .bool b⟩
  | _, _, .int i t => ⟨_, .int i t⟩
  | _, _, .str x t => ⟨_, .str x t⟩
  | _, _, .list h1 h2 h3 h4 => by
    obtain ⟨as, q⟩ := RqAll.reads h4
    exact ⟨_, .list h1 h2 h3 q⟩
  | _, _, .tuple h1 h2 h3 h4 => by
    obtain ⟨as, q⟩ := RqAll.reads h4
    exact ⟨_, .tuple h1 h2 h3 q⟩
  | _, _, .dict h1 h2 h3 _ h4 h5 => by
    obtain ⟨as, q⟩ := RqAll.reads h4
    obtain ⟨bs, q'⟩ := RqAll.reads h5
    exact ⟨_, .dict h1 h2 h3 q q'⟩
theorem RqAll.reads {h : Heap} : ∀ {v : List Value} {d : List PyData}, RqAll h v d → ∃ as, ReadsAll h v d as
  | _, _, .nil => ⟨_, .nil⟩
  | _, _, .cons a b => by
    obtain ⟨as, q⟩ := Rq.reads a
    obtain ⟨bs, q'⟩ := RqAll.reads b
    exact ⟨_, .cons q q'⟩
end
section
variable {prog : Program} {w : World} {h₀ : Heap}
mutual
theorem Rq.shows : ∀ {v : Value} {d : PyData}, Rq h₀ v d → d.showable = true → d.shown.length ≤ sizeLine → ∃ bs, ReadAtMost h₀ d.depth bs ∧ ReprK prog w bs h₀ d.depth v d.shown
  | _, _, .none, _, _ => ⟨[], (fun _ h => nomatch h), by simp only [PyData.shown]; exact .of_is ReprIs.none _ _ _⟩
  | _, _, .bool b, _, _ => ⟨[], (fun _ h => nomatch h), by simp only [PyData.shown]; exact .of_is (ReprIs.bool b) _ _ _⟩
  | _, _, .int i t, hs, _ => ⟨[], (fun _ h => nomatch h), by simp only [PyData.shown]; exact .of_is (ReprIs.int t (by simpa [PyData.showable] using hs)) _ _ _⟩
  | _, _, .str x t, _, hz => ⟨[], (fun _ h => nomatch h), by simp only [PyData.shown]; exact .of_is (ReprIs.str x t (by simpa only [PyData.shown] using hz)) _ _ _⟩
  | _, _, .list (a := a) (vs := vs) (xs := xs) h1 h2 h3 h4, hs, hz => by
    have hz1 : (listText (PyData.shownAll xs)).length ≤ sizeLine := by simpa only [PyData.shown] using hz
    obtain ⟨bs, hb, hk⟩ := RqAll.shows h4 (by simpa [PyData.showable] using hs) (fun t ht => Nat.le_trans (listText_mem_le ht) hz1)
    obtain ⟨_, r⟩ := Rq.reads (.list h1 h2 h3 h4)
    have off : a ∉ bs := not_mem_of_deeper r (by simp only [PyData.depth]; omega) hb
    refine ⟨a :: bs, ReadAtMost.cons r (by simp only [PyData.depth]; omega) hb, ?_⟩
    simp only [PyData.depth, PyData.shown]
    obtain ⟨l⟩ := vs
    cases l with
    | nil =>
      have h5 : RqAll h₀ [] xs := h4
      cases h5
      simp only [PyData.shownAll, listText_nil]
      exact ReprK.listEmpty h1 h2 h3
    | cons x l => exact ReprK.list h1 h2 h3 off (by simpa using hk.length_eq) (fun i y e => hk.item i y (by simpa using e))
  | _, _, .tuple (a := a) (xs := xs) h1 h2 h3 h4, hs, hz => by
    have hz1 : (tupleText (PyData.shownAll xs)).length ≤ sizeLine := by simpa only [PyData.shown] using hz
    obtain ⟨bs, hb, hk⟩ := RqAll.shows h4 (by simpa [PyData.showable] using hs) (fun t ht => Nat.le_trans (tupleText_mem_le ht) hz1)
    obtain ⟨_, r⟩ := Rq.reads (.tuple h1 h2 h3 h4)
    have off : a ∉ bs := not_mem_of_deeper r (by simp only [PyData.depth]; omega) hb
    refine ⟨a :: bs, ReadAtMost.cons r (by simp only [PyData.depth]; omega) hb, ?_⟩
    simp only [PyData.depth, PyData.shown]
    exact ReprK.tuple h1 h2 h3 off hk
  | _, _, .dict (a := a) (es := es) (kvs := kvs) h1 h2 h3 lo h4 h5, hs, hz => by
    have hz1 : (dictText (PyData.shownKv kvs)).length ≤ sizeLine := by simpa only [PyData.shown] using hz
    obtain ⟨s1, s2⟩ := PyData.showableKv_split kvs (by simpa [PyData.showable] using hs)
    obtain ⟨b1, hb1, k1⟩ := RqAll.shows h4 s1 (fun t ht => let ⟨p, hp, hl⟩ := PyData.shownKv_key_le kvs t ht; Nat.le_trans hl (Nat.le_trans (dictText_mem_le hp) hz1))
    obtain ⟨b2, hb2, k2⟩ := RqAll.shows h5 s2 (fun t ht => let ⟨p, hp, hl⟩ := PyData.shownKv_val_le kvs t ht; Nat.le_trans hl (Nat.le_trans (dictText_mem_le hp) hz1))
    obtain ⟨_, r⟩ := Rq.reads (.dict h1 h2 h3 lo h4 h5)
    have hb : ReadAtMost h₀ (PyData.depthKv kvs) (b1 ++ b2) := (hb1.mono (PyData.depthAll_keys_le kvs)).append (hb2.mono (PyData.depthAll_vals_le kvs))
    have off : a ∉ b1 ++ b2 := not_mem_of_deeper r (by simp only [PyData.depth]; omega) hb
    refine ⟨a :: (b1 ++ b2), ReadAtMost.cons r (by simp only [PyData.depth]; omega) hb, ?_⟩
    simp only [PyData.depth, PyData.shown, PyData.shownKv_eq]
    exact ReprK.dict h1 h2 h3 lo off (ReprEntriesK.of_two es.toList _ _
      (k1.more_le (fun b hb => List.mem_append_left _ hb) (PyData.depthAll_keys_le kvs)) (k2.more_le (fun b hb => List.mem_append_right _ hb) (PyData.depthAll_vals_le kvs)))
theorem RqAll.shows : ∀ {vs : List Value} {ds : List PyData}, RqAll h₀ vs ds → PyData.showableAll ds = true → (∀ t ∈ PyData.shownAll ds, t.length ≤ sizeLine) →
    ∃ bs, ReadAtMost h₀ (PyData.depthAll ds) bs ∧ ReprAllK prog w bs h₀ (PyData.depthAll ds) vs (PyData.shownAll ds)
  | _, _, .nil, _, _ => ⟨[], (fun _ h => nomatch h), by simp only [PyData.shownAll]; exact .nil⟩
  | _, _, .cons (d := d) (ds := ds) r rs, hs, hz => by
    have h2 : d.showable = true ∧ PyData.showableAll ds = true := by simpa [PyData.showableAll] using hs
    obtain ⟨b1, hb1, k1⟩ := Rq.shows r h2.1 (hz _ (by simp only [PyData.shownAll]; exact List.mem_cons_self ..))
    obtain ⟨b2, hb2, k2⟩ := RqAll.shows rs h2.2 (fun t ht => hz t (by simp only [PyData.shownAll]; exact List.mem_cons_of_mem _ ht))
    refine ⟨b1 ++ b2, ?_, ?_⟩
    · simp only [PyData.depthAll]
      exact (hb1.mono (Nat.le_max_left _ _)).append (hb2.mono (Nat.le_max_right _ _))
    · simp only [PyData.depthAll, PyData.shownAll]
      exact .cons ((k1.more fun b hb => List.mem_append_left _ hb).level_le (Nat.le_max_left _ _)) (k2.more_le (fun b hb => List.mem_append_right _ hb) (Nat.le_max_right _ _))
end
theorem Rq.by {a : Addr} {d : PyData} (r : Rq h₀ (.ref a) d) (hs : d.showable = true) (hsz : d.shown.length ≤ sizeLine) : ∃ T idr, ShowsBy prog w h₀ a d T idr := by
  cases r with
  | list h1 h2 h3 h4 =>
    rename_i o vs n xs
    have hz1 : (listText (PyData.shownAll xs)).length ≤ sizeLine := by simpa only [PyData.shown] using hsz
    obtain ⟨bs, hb, hk⟩ := RqAll.shows (prog := prog) (w := w) h4 (by simpa [PyData.showable] using hs) (fun t ht => Nat.le_trans (listText_mem_le ht) hz1)
    obtain ⟨_, r⟩ := Rq.reads (.list h1 h2 h3 h4)
    have off : a ∉ bs := not_mem_of_deeper r (by simp only [PyData.depth]; omega) hb
    refine ⟨"list", "list.__repr__", F.slot_list_repr.toG, F.slot_list_str, F.slot_list_format, fun s hk0 => ⟨o, hk0 _ _ h1, h2⟩, fun A E s Q hg hu hk0 hQ => ?_⟩
    simp only [PyData.depth] at hu
    simp only [PyData.shown] at hQ
    obtain ⟨l⟩ := vs
    cases l with
    | nil =>
      have h5 : RqAll h₀ [] xs := h4
      cases h5
      simp only [PyData.shownAll, listText_nil] at hQ
      exact call_list_repr_empty ⟨o, hk0 _ _ h1, h2⟩ (hk0 _ _ h1) h3 (hQ s.heap _ _ fun _ _ e => e)
    | cons x l => exact call_list_reprK h1 h2 h3 off (by simpa using hk.length_eq) (fun i y e => hk.item i y (by simpa using e)) hg (fun b _ => Clear.nil b) hu hk0 hQ hz1
  | tuple h1 h2 h3 h4 =>
    rename_i o vs n xs
    have hz1 : (tupleText (PyData.shownAll xs)).length ≤ sizeLine := by simpa only [PyData.shown] using hsz
    obtain ⟨bs, hb, hk⟩ := RqAll.shows (prog := prog) (w := w) h4 (by simpa [PyData.showable] using hs) (fun t ht => Nat.le_trans (tupleText_mem_le ht) hz1)
    obtain ⟨_, r⟩ := Rq.reads (.tuple h1 h2 h3 h4)
    have off : a ∉ bs := not_mem_of_deeper r (by simp only [PyData.depth]; omega) hb
    refine ⟨"tuple", "tuple.__repr__", F.slot_tuple_repr, F.slot_tuple_str, F.slot_tuple_format, fun s hk0 => ⟨o, hk0 _ _ h1, h2⟩, fun A E s Q hg hu hk0 hQ => ?_⟩
    simp only [PyData.depth] at hu
    simp only [PyData.shown] at hQ
    exact call_tuple_reprK h1 h2 h3 off hk hg (fun b _ => Clear.nil b) hu hk0 hQ hz1
  | dict h1 h2 h3 lo h4 h5 =>
    rename_i o es n kvs
    have hz1 : (dictText (PyData.shownKv kvs)).length ≤ sizeLine := by simpa only [PyData.shown] using hsz
    obtain ⟨s1, s2⟩ := PyData.showableKv_split kvs (by simpa [PyData.showable] using hs)
    obtain ⟨b1, hb1, k1⟩ := RqAll.shows (prog := prog) (w := w) h4 s1 (fun t ht => let ⟨p, hp, hl⟩ := PyData.shownKv_key_le kvs t ht; Nat.le_trans hl (Nat.le_trans (dictText_mem_le hp) hz1))
    obtain ⟨b2, hb2, k2⟩ := RqAll.shows (prog := prog) (w := w) h5 s2 (fun t ht => let ⟨p, hp, hl⟩ := PyData.shownKv_val_le kvs t ht; Nat.le_trans hl (Nat.le_trans (dictText_mem_le hp) hz1))
    obtain ⟨_, r⟩ := Rq.reads (.dict h1 h2 h3 lo h4 h5)
    have hb : ReadAtMost h₀ (PyData.depthKv kvs) (b1 ++ b2) := (hb1.mono (PyData.depthAll_keys_le kvs)).append (hb2.mono (PyData.depthAll_vals_le kvs))
    have off : a ∉ b1 ++ b2 := not_mem_of_deeper r (by simp only [PyData.depth]; omega) hb
    refine ⟨"dict", "dict.__repr__", F.slot_dict_repr, F.slot_dict_str, F.slot_dict_format, fun s hk0 => ⟨o, hk0 _ _ h1, h2⟩, fun A E s Q hg hu hk0 hQ => ?_⟩
    simp only [PyData.depth] at hu
    simp only [PyData.shown, PyData.shownKv_eq] at hQ
    exact call_dict_reprK h1 h2 h3 lo off (ReprEntriesK.of_two es.toList _ _
      (k1.more_le (fun b hb => List.mem_append_left _ hb) (PyData.depthAll_keys_le kvs)) (k2.more_le (fun b hb => List.mem_append_right _ hb) (PyData.depthAll_vals_le kvs))) hg (fun b _ => Clear.nil b) hu hk0 hQ (by rw [← PyData.shownKv_eq]; exact hz1)
theorem Rq.call {A : Around} {E : Value → Shared → Prop} {s : Shared} {Q : Value → Shared → Prop} {a : Addr} {d : PyData} (r : Rq s.heap (.ref a) d) (hs : d.showable = true) (hg : A.guards = some []) (hu : A.units + (d.depth + 1) < cLine)
    (hQ : ∀ h' u tk, (∀ b o, s.heap.get? b = some o → h'.get? b = some o) → Q (.str d.shown u) { s with heap := h', toks := tk })
    (hsz : d.shown.length ≤ sizeLine) : wpAny (model prog w) A (PySem.call (.builtin "repr") [.ref a]) Q E s := by
  obtain ⟨T, idr, S⟩ := Rq.by (prog := prog) (w := w) r hs hsz
  exact call_repr_slot (by omega) (S.typeIs s fun _ _ e => e) S.slotRepr (S.call A.in1 E s _ hg (by show A.units + 1 + d.depth < cLine; omega) (fun _ _ e => e) fun h' u tk hk => ⟨_, _, rfl, hQ h' u tk hk⟩)
end
section
variable {X : Cx} {pins : List (Addr × Obj)} {σ : L2.St} {s : Shared} {z : Wd}
theorem keys_read {h : Heap} : ∀ {es : List DictEntry} {kvs : List (Key × Value)}, Pairs (mixKind X.prog X.w) es kvs → RqAll h (es.map (·.key)) (kvs.map fun p => kD p.1) ∧ es.map (·.val) = kvs.map (·.2)
  | _, _, .nil => ⟨.nil, rfl⟩
  | _, _, .cons (e := e) (kv := kv) a b t => by
    obtain ⟨q1, q2⟩ := keys_read t
    refine ⟨?_, ?_⟩
    · have : Rq h e.key (kD kv.1) := by
        rcases keyIs_shape (show keyIs kv.1 e.key = true from a) with ⟨i, t, e1, e2⟩ | ⟨x, t, e1, e2⟩
        · rw [e1, e2]
          exact .int i t
        · rw [e1, e2]
          exact .str x t
      exact .cons this q1
    · rw [List.map_cons, List.map_cons, b, q2]
theorem kv_split : ∀ {kvs : List (Key × V)} {vs : List (Key × Value)}, KV kvs vs → vs.map (fun p => kD p.1) = kvs.map (fun p => kD p.1) ∧ Vals (kvs.map (·.2)) (vs.map (·.2))
  | _, _, .nil => ⟨rfl, .nil⟩
  | _, _, .cons a t => by
    obtain ⟨q1, q2⟩ := kv_split t
    exact ⟨by rw [List.map_cons, List.map_cons, a.1, q1], .cons a.2 q2⟩
/-- a dict's reading -/
theorem dct_reads (I : Inv X pins σ z.H s) {a : Addr} {ks : List Key} {vs : List V} {ds : List PyData} (e : z.H a = some (.dK (ks.zip vs))) (hl : ks.length = vs.length) (hl2 : ds.length = vs.length)
    (h : ∀ us, Vals vs us → RqAll s.heap us ds) : Rq s.heap (.ref a) (.dict ((ks.map kD).zip ds)) := by
  obtain ⟨_, lo, vs', kv, o, es, ep, ho, hx, hd, _, pr, _⟩ := dk_of I.hok e
  obtain ⟨k1, k2⟩ := keys_read (X := X) (h := s.heap) pr
  obtain ⟨k3, k4⟩ := kv_split kv
  rw [zip_snd hl] at k4
  have q := h _ k4
  have kk : (ks.zip vs).map (fun p => kD p.1) = ks.map kD := by
    rw [show (ks.zip vs).map (fun p => kD p.1) = ((ks.zip vs).map (·.1)).map kD by rw [List.map_map]; rfl, zip_fst hl]
  rw [k3, kk] at k1
  have len : (ks.map kD).length = ds.length := by rw [List.length_map, hl2, hl]
  have k1' : RqAll s.heap (es.toList.map (·.key)) (((ks.map kD).zip ds).map (·.1)) := by rw [zip_fst len]; exact k1
  rw [← k2] at q
  have q' : RqAll s.heap (es.toList.map (·.val)) (((ks.map kD).zip ds).map (·.2)) := by rw [zip_snd len]; exact q
  exact .dict ho hx.1 hd lo k1' q'
theorem lst_reads (I : Inv X pins σ z.H s) {a : Addr} {vs : List V} {ds : List PyData} (e : z.H a = some (.lst vs)) (h : ∀ us, Vals vs us → RqAll s.heap us ds) :
    Rq s.heap (.ref a) (.list ds) := by
  obtain ⟨_, its, c, rv, ho⟩ := (show ObjOk X.prog X.w z.H s.heap a (.lst vs) from I.hok a _ e)
  exact .list ho rfl rfl (h _ rv)
mutual
theorem shw_reads (I : Inv X pins σ z.H s) (t : Tied (gX X) z) {hd : Nat → Option PyData} (hh : ∀ n d, hd n = some d → Rq s.heap (.ref (z.m n)) d) :
    ∀ (w : W) {v : V} {d : PyData} {u : Value}, shwW hd w = some d → RW (gX X) z w v → RelV v u → Rq s.heap u d
  | .non, _, _, u, e, r, ru => by
    cases e; cases r
    cases (show u = Value.none from ru)
    exact .none
  | .bl b, _, _, u, e, r, ru => by
    cases e; cases r
    cases (show u = Value.bool b from ru)
    exact .bool b
  | .int i, _, _, u, e, r, ru => by
    cases e; cases r
    obtain ⟨t, rfl⟩ := (show ∃ t, u = Value.int i t from ru)
    exact .int i t
  | .str x, _, _, u, e, r, ru => by
    cases e; cases r
    obtain ⟨t, rfl⟩ := (show ∃ t, u = Value.str x t from ru)
    exact .str x t
  | .h n, _, _, u, e, r, ru => by
    cases r
    cases (show u = Value.ref (z.m n) from ru)
    exact hh n _ e
  | .tup ws, _, _, u, e, r, ru => by
    unfold shwW at e
    obtain ⟨ds, e2, rfl⟩ := Option.map_eq_some_iff.mp e
    cases r with
    | @tup a _ vs hT rs =>
      cases (show u = Value.ref a from ru)
      obtain ⟨its, o, n, rv, ho, hc, hdd⟩ := sqT_at I.hok I.kIn hT.sq
      exact .tuple ho hc hdd (shws_reads I t hh ws e2 rs rv)
  | .lst ws, _, _, u, e, r, ru => by
    unfold shwW at e
    obtain ⟨ds, e2, rfl⟩ := Option.map_eq_some_iff.mp e
    cases r with
    | @lst a _ vs e1 nl rs =>
      cases (show u = Value.ref a from ru)
      exact lst_reads I e1 fun us rv => shws_reads I t hh ws e2 rs rv
  | .dct ks ws, _, _, u, e, r, ru => by
    unfold shwW at e
    obtain ⟨ds, e2, rfl⟩ := Option.map_eq_some_iff.mp e
    cases r with
    | @dct a _ _ vs e1 nl hl rs =>
      cases (show u = Value.ref a from ru)
      exact dct_reads I e1 hl ((shwWs_len e2).trans rs.length) fun us rv => shws_reads I t hh ws e2 rs rv
  | .ty _, _, _, _, e, _, _ => by cases e
  | .fn _, _, _, _, e, _, _ => by cases e
  | .scr _, _, _, _, e, _, _ => by cases e
theorem shws_reads (I : Inv X pins σ z.H s) (t : Tied (gX X) z) {hd : Nat → Option PyData} (hh : ∀ n d, hd n = some d → Rq s.heap (.ref (z.m n)) d) :
    ∀ (ws : List W) {vs : List V} {ds : List PyData} {us : List Value}, shwWs hd ws = some ds → RWs (gX X) z ws vs → Vals vs us → RqAll s.heap us ds
  | [], _, _, _, e, .nil, .nil => by
    cases e
    exact .nil
  | w :: ws, _ :: _, _, _, e, .cons r rs, .cons ru rus => by
    unfold shwWs at e
    obtain ⟨d, e1, e⟩ := Option.bind_eq_some_iff.mp e
    obtain ⟨ds, e2, rfl⟩ := Option.map_eq_some_iff.mp e
    exact .cons (shw_reads I t hh w e1 r ru) (shws_reads I t hh ws e2 rs rus)
end
theorem rfs_kys {g : Kg} : ∀ {a : List (Key × W)} {b : List (Key × V)}, RFs g z a b → b.map (·.1) = a.map (·.1)
  | _, _, .nil => rfl
  | _, _, .cons h t => by rw [List.map_cons, List.map_cons, h.1, rfs_kys t]
theorem rfs_vls {g : Kg} : ∀ {a : List (Key × W)} {b : List (Key × V)}, RFs g z a b → RWs g z (a.map (·.2)) (b.map (·.2))
  | _, _, .nil => .nil
  | _, _, .cons h t => .cons h.2 (rfs_vls t)
theorem zip_self {α β : Type} : ∀ (l : List (α × β)), (l.map (·.1)).zip (l.map (·.2)) = l
  | [] => rfl
  | p :: l => by rw [List.map_cons, List.map_cons, List.zip_cons_cons, zip_self l]
theorem shwH_reads (I : Inv X pins σ z.H s) (t : Tied (gX X) z) : ∀ (k n : Nat) (d : PyData), shwH z.S k n = some d → Rq s.heap (.ref (z.m n)) d
  | 0, _, _, e => by cases e
  | k + 1, n, d, e => by
    unfold shwH at e
    split at e
    · rename_i ws h
      obtain ⟨ds, e2, rfl⟩ := Option.map_eq_some_iff.mp e
      obtain ⟨ho, e1, r⟩ := t.at_ n _ h (by intro q; cases q)
      cases r with
      | lst rs => exact lst_reads I e1 fun us rv => shws_reads I t (fun n d h => shwH_reads I t k n d h) ws e2 rs rv
    · rename_i kvs h
      obtain ⟨ds, e2, rfl⟩ := Option.map_eq_some_iff.mp e
      obtain ⟨ho, e1, r⟩ := t.at_ n _ h (by intro q; cases q)
      cases r with
      | @dct _ kvs' rs =>
        have h1 : kvs'.map (·.1) = kvs.map (·.1) := rfs_kys rs
        have h2 : RWs (gX X) z (kvs.map (·.2)) (kvs'.map (·.2)) := rfs_vls rs
        have h3 : (kvs.map (·.1)).zip (kvs'.map (·.2)) = kvs' := by rw [← h1]; exact zip_self kvs'
        have h4 : (kvs.map (·.1)).length = (kvs'.map (·.2)).length := by rw [← h1, List.length_map, List.length_map]
        have e1' : z.H (z.m n) = some (.dK ((kvs.map (·.1)).zip (kvs'.map (·.2)))) := by rw [h3]; exact e1
        have := dct_reads I e1' h4 ((shwWs_len e2).trans h2.length) fun us rv => shws_reads I t (fun n d h => shwH_reads I t k n d h) _ e2 h2 rv
        rw [List.map_map] at this
        exact this
    · cases e
end
def gxB (d : PyData) : Bool := d.showable && d.leavesShort 13 && decide (d.bulk ≤ 2 ^ 20) && decide (d.depth ≤ 60)
def bRepr : OpA := fun ws S => match ws with
  | [w] => (match shw S w with
    | some d => if gxB d = true then .ok (.str d.shown) S else .bad
    | none => .bad)
  | _ => .bad
theorem cs_repr {X : Cx} {Wx : WX} (hg : X.A.guards = some []) (hu : X.A.units + 64 < cLine) : CallS X Wx (.builtin "repr") bRepr := by
  refine ⟨fun xs H Q => ∃ (z : Wd) (w : W) (v : V) (d : PyData), z.H = H ∧ Tied (gX X) z ∧ xs = [v] ∧ RW (gX X) z w v ∧ shw z.S w = some d ∧ gxB d = true ∧ Q (.str d.shown) H, ?_, ?_⟩
  · intro pins s σ H xs us Q I r h
    obtain ⟨z, w, v, d, rfl, t, rfl, rw', hw, g, q⟩ := h
    obtain ⟨u, rfl, rv⟩ := vals1 r
    have rd := shw_reads I t (fun n d h => shwH_reads I t 4 n d h) w hw rw' rv
    unfold gxB at g
    simp only [Bool.and_eq_true, decide_eq_true_eq] at g
    obtain ⟨⟨⟨sh, ls⟩, bk⟩, dp⟩ := g
    have ft : d.shown.length ≤ sizeLine := PyData.shown_fits_bulk (B := 13) (by decide) (by decide) ls bk
    cases rd with
    | none => exact PySem.P.repr_of_none ⟨.str "None", z.H, I.tok _, ⟨_, rfl⟩, q⟩
    | bool b => exact PySem.P.repr_of_bool ⟨.str (if b then "True" else "False"), z.H, I.tok _, ⟨_, rfl⟩, by cases b <;> exact q⟩
    | int i t => exact PySem.P.repr_of_int (by simpa only [PyData.showable, decide_eq_true_eq] using sh) ⟨.str (toString i), z.H, I.tok _, ⟨_, rfl⟩, q⟩
    | str x t => exact PySem.P.repr_of_str ⟨.str (reprText x), z.H, I.tok _, ⟨_, rfl⟩, q⟩ ft
    | list h1 h2 h3 h4 => exact Rq.call (.list h1 h2 h3 h4) sh hg (by omega) (fun h' u tk hk => ⟨.str _, z.H, I.kept hk, ⟨u, rfl⟩, q⟩) ft
    | tuple h1 h2 h3 h4 => exact Rq.call (.tuple h1 h2 h3 h4) sh hg (by omega) (fun h' u tk hk => ⟨.str _, z.H, I.kept hk, ⟨u, rfl⟩, q⟩) ft
    | dict h1 h2 h3 lo h4 h5 => exact Rq.call (.dict h1 h2 h3 lo h4 h5) sh hg (by omega) (fun h' u tk hk => ⟨.str _, z.H, I.kept hk, ⟨u, rfl⟩, q⟩) ft
  · intro z σ ws vs Q t rs o
    unfold bRepr at o
    split at o
    · rename_i w
      cases rs with
      | cons r rs =>
        cases rs
        split at o
        · rename_i d e
          split at o
          · rename_i g
            exact ⟨z, w, _, d, rfl, t, rfl, r, e, g, Out.now o t (.str _)⟩
          · exact o.elim
        · exact o.elim
    · exact o.elim
end Mi

set_option Elab.async false
set_option linter.all false
set_option maxRecDepth 100000
set_option maxHeartbeats 4000000
namespace Mi
open PySem L2 PySem.Spec PyProof.Rows
/-! ### facts of the top -/
structure Gf (K : PySem.W.Frag) (mg : Str → Option Value) (x : Str) (st : Stmt) (f : Addr) (fd : FuncData) (ps : List Str) : Prop where
  F : Fun K x x st f fd
  b : Binds K fd ps []
  m : mg x = some (.ref f)
  k : PySem.W.keepIn K (.ref f) = true
/-! ### the law's own call -/
section
variable {P : Program} {w : World} {K : PySem.W.Frag} {mg mb : Str → Option Value} {k : Nat} {fa a : Addr} {fd : FuncData} {x : Str} {sp : Sp} {s1 : Shared} {vs : List Value} {ns : List Int}
theorem law_coreG (KX : K.In s1.heap) (hns : s1.heap.Ns mainGlobals mg) (hb : s1.heap.Ns builtinsNs mb) (hbb : ∀ x : Str, x ≠ "__name__" → mb x = bootBuiltins x) (hlim : s1.heap.NoLimit) (hge : s1.gens = #[])
    (ha : s1.heap.get? a = some { cls := .type "list", data := .seq vs.toArray }) (hr : Room k callerA)
    (F : ∀ base : Heap, K.In base → base.Ns mainGlobals mg → FnG P w K mg base k fa fd [x] sp) (hbind : ∀ (s : Shared) (u : Value), BindsTo s fd ⟨[u], []⟩ [(x, u)])
    (H : Hp) (only : Only H) (hsp : sp [.ref a] H (fun v _ => v = .bl true) fun _ _ _ => False)
    (hok : HOk P w H s1.heap) (at1 : ∀ b, H b ≠ none → b = a) (off : H a ≠ none → K.lookup a = none) :
    codeAny (model P w) callerA (.call (.ref fa) ⟨[.ref a], []⟩) (fun r s' => r = .ok (.ret (.bool true)) ∧ OldK s1.heap s'.heap ∧ s'.os = s1.os ∧ AllBare s'.gens) s1 := by
  have free : ∀ {b : Addr}, b ≠ a → H b = none := fun {b} h => Classical.byContradiction fun z => h (at1 b z)
  have hid : ∀ {b : Addr} {o : Obj}, s1.heap.get? b = some o → H b = none → (hidT s1.heap H).get? b = some o := fun e n => hidT_get e n
  have dictFree : ∀ {b : Addr} {o : Obj} {es : Array DictEntry} {ep : Nat}, s1.heap.get? b = some o → o.data = .dict es ep → H b = none := by
    intro b o es ep e d
    by_cases hb' : b = a
    · subst hb'
      rw [ha] at e
      cases e
      exact nomatch (show Data.seq vs.toArray _ = Data.dict es ep from d)
    · exact free hb'
  have nsOf : ∀ {b : Addr} {m : Str → Option Value}, s1.heap.Ns b m → (hidT s1.heap H).Ns b m := by
    rintro b m ⟨o, es, ep, e, d, r⟩
    exact ⟨o, es, ep, hid e (dictFree e d), d, r⟩
  have kin : K.In (hidT s1.heap H) := by
    intro b o e
    refine hid (KX b o e) (Classical.byContradiction fun z => ?_)
    have := at1 b z
    subst this
    rw [off z] at e
    cases e
  obtain ⟨mc, l1, l2⟩ := hlim
  have modOk : Mod K mg (hidT s1.heap H) := ⟨kin, nsOf hns, ⟨mb, nsOf hb, hbb⟩, ⟨mc, nsOf l1, l2⟩⟩
  have env : Env0 P w K mg (hidT s1.heap H) callerA [] s1 H :=
    ⟨rfl, modOk, fun b o e => of_hidT e, Nat.le_of_eq (hidT_size _ _), trivial, (fun b hb => nomatch (show b ∈ ([] : List Addr) from hb)), hok, .of_eq hge⟩
  refine codeAny_mono ((F _ kin (nsOf hns)).run callerA [] s1 H ⟨[.ref a], []⟩ [.ref a] [.ref a] _ _ rfl hr env (hbind s1 (.ref a)) (.cons rfl .nil) hsp) ?_
  intro res s2 z
  match res, z with
  | .error er, z =>
    obtain ⟨a, B, sI, pins, σ, H, hh⟩ := z
    exact absurd hh (by simp)
  | .ok (.ret u), z =>
    obtain ⟨v, H2, os, bare, un, hok2, rv, q⟩ := z
    cases (show v = .bl true from q)
    cases (show u = Value.bool true from rv)
    refine ⟨rfl, OldK.of_keep fun b o e => ?_, os, bare⟩
    rcases only b with n | ⟨ob, xs, fz⟩
    · exact un.keep b o e n (fun z => nomatch (show b ∈ ([] : List Addr) from z)) (fun z => nomatch z)
    · obtain ⟨g1, _⟩ := hok b _ fz
      obtain ⟨g2, _⟩ := hok2 b _ (un.frzs b ob _ fz)
      rw [e] at g1
      cases g1
      exact g2
theorem law_callG (KX : K.In s1.heap) (hns : s1.heap.Ns mainGlobals mg) (hb : s1.heap.Ns builtinsNs mb) (hbb : ∀ x : Str, x ≠ "__name__" → mb x = bootBuiltins x) (hlim : s1.heap.NoLimit) (hge : s1.gens = #[])
    (ha : s1.heap.get? a = some { cls := .type "list", data := .seq vs.toArray }) (hi : IntsAre vs ns) (hl : ns.length ≤ sizeLine) (hr : Room k callerA)
    (F : ∀ base : Heap, K.In base → base.Ns mainGlobals mg → FnG P w K mg base k fa fd [x] sp) (hbind : ∀ (s : Shared) (u : Value), BindsTo s fd ⟨[u], []⟩ [(x, u)])
    (hsp : ∀ H : Hp, Only H → SqL K H a (ns.map V.int) → sp [.ref a] H (fun v _ => v = .bl true) fun _ _ _ => False) :
    codeAny (model P w) callerA (.call (.ref fa) ⟨[.ref a], []⟩) (fun r s' => r = .ok (.ret (.bool true)) ∧ OldK s1.heap s'.heap ∧ s'.os = s1.os ∧ AllBare s'.gens) s1 := by
  have rv := vals_ints hi
  have ll := hi.length
  cases hk : K.lookup a with
  | some o =>
    have e := KX a o hk
    rw [ha] at e
    cases e
    have only : Only (fun _ => none) := fun _ => .inl rfl
    refine law_coreG KX hns hb hbb hlim hge ha hr F hbind (fun _ => none) only (hsp _ only (.inr ?_)) ?_ (fun b z => absurd rfl z) (fun z => absurd rfl z)
    · refine ⟨_, vs.toArray, _, hk, rfl, rfl, rfl, ?_, by simpa using rv⟩
      rw [List.size_toArray, ll]
      exact hl
    · intro b u z
      exact nomatch (show (none : Option HO) = some u from z)
  | none =>
    let ob : Obj := { cls := .type "list", data := .seq vs.toArray }
    let H0 : Hp := fun b => if b = a then some (.frz ob (.lst (ns.map V.int))) else none
    have H0a : H0 a = some (.frz ob (.lst (ns.map V.int))) := if_pos rfl
    have H0n : ∀ {b : Addr}, b ≠ a → H0 b = none := fun h => if_neg h
    have only : Only H0 := by
      intro b
      by_cases h : b = a
      · subst h
        exact .inr ⟨ob, _, H0a⟩
      · exact .inl (H0n h)
    refine law_coreG KX hns hb hbb hlim hge ha hr F hbind H0 only (hsp _ only (.inl (.inr ⟨ob, H0a⟩))) ?_ ?_ (fun _ => hk)
    · intro b u z
      by_cases h : b = a
      · subst h
        rw [H0a] at z
        cases z
        exact ⟨ha, by rw [List.length_map]; exact hl, vs, _, rv, ha⟩
      · rw [H0n h] at z
        cases z
    · intro b z
      exact Classical.byContradiction fun h => z (H0n h)
end
/-- a mirrored law that tells True of every script -/
def Tells (m : List W → Sto → R W) (n : Nat) : Prop := ∀ ns : List Int, ns.length ≤ n → ∃ S, m [.scr ns] [] = .ok (.bl true) S
theorem tells_sp {m : List W → Sto → R W} {n : Nat} {g : Kg} {H : Hp} {a : Addr} {ns : List Int} (h : Tells m n) (hl : ns.length ≤ n) (hS : SqL g.K H a (ns.map V.int)) : spM g 1 m [.ref a] H (fun v _ => v = .bl true) fun _ _ _ => False := by
  obtain ⟨S, e⟩ := h ns hl
  have nl : ∀ b, ¬ Live ⟨fun _ => 0, [], H, fun _ => False⟩ b := fun b l => by
    rcases l with ⟨n, o, e, _⟩ | l
    · simp at e
    · exact l
  refine ⟨⟨fun _ => 0, [], H, fun _ => False⟩, [.scr ns], rfl, ⟨fun n o e => by simp at e, fun n n' o o' e => by simp at e, fun a l => l.elim, fun n o e => by simp at e⟩, .cons (.scr ?_) .nil, rfl, ?_⟩
  · rcases hS with hS | hS
    · exact .inl ⟨nl a, hS⟩
    · exact .inr (.inr hS)
  · show Out _ _ _ _ [] (m [.scr ns] []) _
    rw [e]
    intro z' b es st t r
    cases r
    rfl
/-- the goal that k_head leaves -/
theorem walk_ofG {l : PySem.W.OpenLaw} {n k : Nat} {q : Program} {loose : List Str} {XP : (Str → Option Value) → Heap → Prop} {YP : World → Heap → Prop} {d : DefRec} {K : Params → PySem.W.Frag} {m : List W → Sto → R W} {x : Str}
    (hn : l.most = some n) (hn2 : n ≤ sizeLine) (hdf : d.params.defaults = []) (hr : Room k callerA)
    (hY : ∀ (w : World) (h : Heap), YP w h → (K w.params).In h)
    (F : ∀ (w : World) (mg : Str → Option Value) (fa : Addr) (h : Heap), (K w.params).In h → h.Ns mainGlobals mg → mg d.name = some (.ref fa) →
      ∃ fd : FuncData, (∀ (s : Shared) (u : Value), BindsTo s fd ⟨[u], []⟩ [(x, u)]) ∧
        ∀ base : Heap, (K w.params).In base → base.Ns mainGlobals mg → FnG l.prog w (K w.params) mg base k fa fd [x] (spM ⟨K w.params, mg⟩ 1 m))
    (hm : Tells m n) :
    PySem.W.WalkO q loose XP YP l.row.toRowW d [] (fun f vs => PySem.call f vs) := by
  refine Att.attach_call hn hdf ?_
  intro w s0 s1 mg mb fa o pm cd doc a vs ns G Y _ _ _ hmg hobj hints hlen hge
  obtain ⟨fd, hb, hF⟩ := F w mg fa _ (hY w _ Y) G.T.g hmg
  exact law_callG (hY w _ Y) G.T.g G.T.b G.T.builtins G.T.nolimit hge hobj hints (Nat.le_trans hlen hn2) hr hF hb fun H hO hS => tells_sp hm hlen hS
end Mi

set_option Elab.async false
set_option linter.all false
set_option maxRecDepth 100000
set_option maxHeartbeats 4000000
namespace Mi
open PySem L2 PySem.Spec PyProof.Rows
/-! ### within a def -/
section
variable {P : Program} {w : World} {K : PySem.W.Frag} {mg : Str → Option Value} {base : Heap} {N : List Str} {qual : Str} {scope : Scope} {f : Addr} {cd : Value} {A : Around} {outer : List PySem.Env} {s : Shared} {H : Hp} {E : XK}
theorem takes_def : Takes (cxOf (L2.CX P w) P w K mg base N qual scope f cd A outer s H E) (fun cls d _ H' => E cls d H') :=
  takes_of (X := cxOf (L2.CX P w) P w K mg base N qual scope f cd A outer s H E) rfl rfl rfl rfl
theorem owns_def : PassesOwn (model P w) (cxOf (L2.CX P w) P w K mg base N qual scope f cd A outer s H E).A (cxOf (L2.CX P w) P w K mg base N qual scope f cd A outer s H E).env (cxOf (L2.CX P w) P w K mg base N qual scope f cd A outer s H E).xe :=
  passes_of (X := cxOf (L2.CX P w) P w K mg base N qual scope f cd A outer s H E) rfl
end
theorem takesN {X : Cx} : Takes X W0 := fun _ _ ⟨_, _, _, _, _, _, _, _, _, _, _, _, _, _, _, _, w⟩ => w.elim
/-! ### a, b = e1, e2 -/
def sPar (is : List Nat) (a : Av) : Sv := fun env S => (a env S).bindS env fun ws S1 => if ws.length = is.length then .next (setAll is ws env) S1 else .bad
section
variable {X : Cx} {Wx : WX} {fa : Av} {px py pz pt pos pt2 : Pos} {kt k2 : Nat}
theorem ms_par {i j : Nat} {x y : Str} {a b : Expr} (hc : X.calm = true) (hN : X.N.Nodup) (ha : MA X Wx [a, b] fa) (hi : X.N[i]? = some x := by rfl) (hj : X.N[j]? = some y := by rfl) (hij : i ≠ j := by decide)
    (hx : X.env.scope.names.lookup x = some .local := by rfl) (hy : X.env.scope.names.lookup y = some .local := by rfl)
    (hw : swappedStores [.Tuple [.Name x px, .Name y py] kt pt] (.Tuple [a, b] k2 pt2) X.env = pure (some [x, y]) := by rfl)
    (hs : swapsWithSole [.Tuple [.Name x px, .Name y py] kt pt] (.Tuple [a, b] k2 pt2) pos.line X.env = pure false := by rfl) :
    MS X Wx (.Assign [.Tuple [.Name x px, .Name y py] kt pt] (.Tuple [a, b] k2 pt2) pos) (sPar [i, j] fa) := by
  refine ps_mono (ps_par hc hN hi hj hij hx hy ha hw hs) ?_
  rintro D σ H ⟨z, env, rfl, t, re, o⟩
  refine ⟨z, env, rfl, t, re, OutS.bind re o fun z1 vs ws e1 st1 t1 r1 o1 => ?_⟩
  split at o1
  · rename_i hl
    match ws, hl, r1 with
    | [u, v], _, .cons r (.cons r' .nil) => exact ⟨_, _, rfl, OutS.now o1 t1 (((re.mono st1).set i r).set j r')⟩
  · exact o1.elim
theorem ms_par3 {i j l : Nat} {x y z : Str} {a b c : Expr} (hc : X.calm = true) (hN : X.N.Nodup) (ha : MA X Wx [a, b, c] fa) (hi : X.N[i]? = some x := by rfl) (hj : X.N[j]? = some y := by rfl) (hl : X.N[l]? = some z := by rfl) (hij : i ≠ j := by decide) (hil : i ≠ l := by decide) (hjl : j ≠ l := by decide)
    (hx : X.env.scope.names.lookup x = some .local := by rfl) (hy : X.env.scope.names.lookup y = some .local := by rfl) (hz : X.env.scope.names.lookup z = some .local := by rfl)
    (hw : swappedStores [.Tuple [.Name x px, .Name y py, .Name z pz] kt pt] (.Tuple [a, b, c] k2 pt2) X.env = pure (some [x, y, z]) := by rfl)
    (hs : swapsWithSole [.Tuple [.Name x px, .Name y py, .Name z pz] kt pt] (.Tuple [a, b, c] k2 pt2) pos.line X.env = pure false := by rfl) :
    MS X Wx (.Assign [.Tuple [.Name x px, .Name y py, .Name z pz] kt pt] (.Tuple [a, b, c] k2 pt2) pos) (sPar [i, j, l] fa) := by
  refine ps_mono (ps_par3 hc hN hi hj hl hij hil hjl hx hy hz ha hw hs) ?_
  rintro D σ H ⟨z, env, rfl, t, re, o⟩
  refine ⟨z, env, rfl, t, re, OutS.bind re o fun z1 vs ws e1 st1 t1 r1 o1 => ?_⟩
  split at o1
  · rename_i hl
    match ws, hl, r1 with
    | [u, v, w], _, .cons r (.cons r' (.cons r'' .nil)) => exact ⟨_, _, _, rfl, OutS.now o1 t1 ((((re.mono st1).set i r).set j r').set l r'')⟩
  · exact o1.elim
end
/-! ### l.reverse() -/
def mReverse : OpM := fun x ws S => match x, ws with
  | .h n, [] => (match S[n]? with
    | some (.lst us) => putO n (.lst us.reverse) S
    | _ => .bad)
  | _, _ => .bad
theorem ms_reverse {X : Cx} {Wx : WX} : MtS X Wx "list.reverse" mReverse := by
  refine ⟨_, mt_reverse, fun z σ w x ws vs Q t r rs o => ?_⟩
  unfold mReverse at o
  split at o
  · rename_i n
    cases rs
    cases r
    split at o
    · rename_i xs e
      obtain ⟨us, h, r1⟩ := t.lstAt e
      exact ⟨_, us, rfl, rfl, h, put_red t e (by intro q; cases q) (.lst r1.reverse) o⟩
    · exact o.elim
  · exact o.elim
end Mi

set_option Elab.async false
set_option linter.all false
set_option maxRecDepth 100000
set_option maxHeartbeats 4000000
namespace Mi
open PySem L2 PySem.Spec PyProof.Rows
/-! ### len(o), o of a class with its own __len__ -/
section
variable {X : Cx} {Wx : WX} {k : Nat} {f C : Addr} {fd : FuncData} {ps : List Str} {sp : Sp}
theorem run_fnA {A : Around} {pins : List (Addr × Obj)} {σ : L2.St} {H : Hp} {s : Shared} {Q : VK} {us : List Value} {vs : List V} (hfr : A.frames = X.A.frames) (F : FnG X.prog X.w X.K X.mg X.base k f fd ps sp) (hgu : A.guards = some []) (hr : Room k A)
    (hb : Binds X.K fd ps []) (I : Inv X pins σ H s) (r : Vals vs us) (h : sp vs H Q (WE W0 σ)) :
    wpAny (model X.prog X.w) A (call (.ref f) us) (EP X pins σ Q) X.xe s := by
  have e := I.env0
  have e0 : Env0 X.prog X.w X.K X.mg X.base A X.stack s H := ⟨hfr.trans e.frames, e.mod, e.bs, e.bsz, e.funs, e.frf, e.hok, e.bare⟩
  have lens : (us ++ ([] : List Value)).length = ps.length := by
    rw [List.append_nil, ← r.length]
    exact F.len _ _ _ _ h
  have bd := hb s us I.kIn lens
  rw [List.append_nil] at bd
  refine wpAny_call (codeAny_mono (F.run A X.stack s H ⟨us, []⟩ us vs Q (WE W0 σ) hgu hr e0 bd r h) ?_)
  intro res s2 z
  match res, z with
  | .error er, z => exact passAt (takesN (X := X)) σ pins H s er s2 I z
  | .ok (.ret u), z => exact I.after z
def rLenO (C : Addr) (sp : Sp) : List V → Hp → VK → Prop := fun xs H Q => ∃ (x dx : Addr) (fs : List (Str × V)), xs = [.ref x] ∧ H x = some (.ins C dx fs) ∧
  sp [.ref x] H (fun v H' => ∃ n : Int, v = .int n ∧ 0 ≤ n ∧ n < 2 ^ 63 ∧ Q (.int n) H') (WE W0 [])
theorem call_lenO (hs : PySem.W.findIn X.K (.ref C) "__len__" = some (some (.ref f))) (hf : PySem.W.isFn X.K (.ref f) = true) (F : FnG X.prog X.w X.K X.mg X.base k f fd ps sp) (hgu : X.A.guards = some []) (hr : Room (k + 1) X.A)
    (hb : Binds X.K fd ps []) : CallR X (.builtin "len") (rLenO C sp) := by
  intro pins s σ H xs us Q I r h
  obtain ⟨x, dx, fs, rfl, ex, q⟩ := h
  cases r with
  | cons r1 r2 =>
    cases r2
    cases r1
    obtain ⟨mA, O, _⟩ := ins_get I.hok ex
    obtain ⟨od, J, _⟩ := O.look
    obtain ⟨m, hF⟩ := I.fr
    refine PySem.W.len_K hF I.ok.mod.kin J hs hf (wpAny_mono (run_fnA (A := X.A.in1) (vs := [.ref x]) rfl F hgu hr.in1 hb I (.cons rfl .nil) q) ?_ (fun _ _ z => z))
    rintro v s2 ⟨v', H2, I2, rv, n, rfl, n0, n1, q2⟩
    obtain ⟨t, rfl⟩ := rv
    exact ⟨⟨n0, n1⟩, .int n, H2, I2.tok _, ⟨_, rfl⟩, q2⟩
end
def lenR (w : W) (S : Sto) : R W := match w with
  | .int n => if 0 ≤ n ∧ n < 2 ^ 63 then .ok (.int n) S else .bad
  | _ => .bad
def isIns (S : Sto) (c : Str) (w : W) : Bool := match w with
  | .h n => (match S[n]? with
    | some (.ins c' _) => decide (c' = c)
    | _ => false)
  | _ => false
def bLenO (c : Str) (m : List W → Sto → R W) : OpA := fun ws S => match ws with
  | [x] => if isIns S c x = true then ((m [x] S).noEx).bind lenR else bLen [x] S
  | _ => .bad
theorem cs_lenO {X : Cx} {Wx : WX} {k : Nat} {f C : Addr} {fd : FuncData} {ps : List Str} {c : Str} {m : List W → Sto → R W} (hC : X.mg c = some (.ref C)) (hm : Meth X.K C "__len__" f) (F : FnG X.prog X.w X.K X.mg X.base k f fd ps (spM (gX X) 1 m)) (hgu : X.A.guards = some []) (hr : Room (k + 1) X.A)
    (hb : Binds X.K fd ps []) : CallS X Wx (.builtin "len") (bLenO c m) := by
  obtain ⟨r0, h0, h1⟩ := (cs_len : CallS X Wx (.builtin "len") bLen)
  refine ⟨_, callR_or (call_lenO hm.at_ hm.fn F hgu hr hb) h0, fun z σ ws vs Q t rs o => ?_⟩
  unfold bLenO at o
  split at o
  · rename_i x
    split at o
    · rename_i hi
      cases rs with
      | cons r rs =>
        cases rs
        cases r <;> first | cases hi | skip
        rename_i n hn
        unfold isIns at hi
        dsimp only at hi
        split at hi
        · rename_i c' fs e
          have hc := of_decide_eq_true hi
          subst hc
          obtain ⟨C', dx, fs', e1, e2, e3⟩ := t.insAt e
          have : C' = C := by
            have := e1.symm.trans hC
            cases this
            rfl
          subst this
          refine .inl ⟨_, dx, fs', rfl, e2, z, [.h n], rfl, t, .cons (.h hn) .nil, rfl, ?_⟩
          cases hm' : m [.h n] z.S with
          | bad =>
            rw [hm'] at o
            exact o.elim
          | ex a b d =>
            rw [hm'] at o
            exact o.elim
          | ok w S' =>
            rw [hm'] at o
            intro z' b eS st t' rw'
            subst eS
            have o' : Out (gX X) Wx (RW (gX X)) z σ (lenR w z'.S) Q := o
            cases rw' <;> first | exact o'.elim | skip
            rename_i i
            unfold lenR at o'
            dsimp only at o'
            split at o'
            · rename_i hh
              exact ⟨i, rfl, hh.1, hh.2, o' z' (.int i) rfl st t' (.int i)⟩
            · exact o'.elim
        · cases hi
    · exact .inr (h1 z σ _ vs Q t rs o)
  · exact o.elim
end Mi

set_option Elab.async false
set_option linter.all false
set_option maxRecDepth 100000
set_option maxHeartbeats 4000000
namespace Mi
open PySem L2 PySem.Spec PyProof.Rows
/-! ### t[::-1], t of four parts -/
section
variable {prog : Program} {w : World} {A : Around} {E : Value → Shared → Prop} {s : Shared}
theorem rev4_get {t sl : Addr} {v0 v1 v2 v3 vk : Value} {Q : Value → Shared → Prop} (ht : IsTup s.heap t #[v0, v1, v2, v3]) (hs : s.heap.IsSliceOf sl .none .none vk) (pk : IsPart vk (some (-1)))
    (h : Q (.ref s.heap.objs.size) { s with heap := s.heap.push { cls := .type "tuple", data := .seq #[v3, v2, v1, v0] } }) : wpAny (model prog w) A (getItem (.ref t) (.ref sl)) Q E s := by
  obtain ⟨o, ho, hc, hd⟩ := id hs
  have ts : s.TypeIs (.ref sl) "slice" := ⟨o, ho, hc⟩
  unfold getItem
  try with_reducible refine wpAny_holding ?_
  first | refine wpAny_bind (wpAny_pure ?_) | skip
  refine wpAny_bind (wpAny_sequenceKey ht.typeIs (by decide) ?_)
  have callee := PyProof.Rows.slot_tuple_getitem
  refine wpAny_bind (wpAny_callSpecial?_slot (name := Str.ofString "__getitem__") ht.typeIs callee ?_)
  refine wpAny_call_entry callee ht.typeIs entry_tuple_getitem ?_ (args_tuple_getitem _ _)
  show wpAny _ _ (Builtin.Tuple.tupleItemsOf (.ref t) >>= _) _ _ s
  refine wpAny_bind (tupleItemsOf_ ht ?_)
  refine wpAny_bind (wpAny_typeOf ts ?_)
  rw [if_pos (by decide)]
  have ap : ∀ {B : Around} {R : Int × Int × Nat → Shared → Prop}, R (3, -1, 4) s → wpAny (model prog w) B (Builtin.Slice.sliceApplied (.ref sl) (pure (4 : Int))) R E s := fun {B R} q => by
    unfold Builtin.Slice.sliceApplied
    unfold Builtin.Slice.sliceFields
    refine wpAny_bind (wpAny_bind (wpAny_field ho hd (x := .none) rfl ?_))
    refine wpAny_bind (wpAny_field ho hd (x := .none) rfl ?_)
    refine wpAny_bind (wpAny_field ho hd (x := vk) rfl (wpAny_pure ?_))
    refine wpAny_bind (HT.slicePart_ pk ?_)
    show wpAny _ _ (if ((-1 : Int) == 0) = true then _ else _) _ _ s
    rw [if_neg (by decide)]
    refine wpAny_bind (HT.slicePart_ .none (wpAny_bind (HT.slicePart_ .none ?_)))
    refine wpAny_bind (wpAny_pure ?_)
    exact wpAny_pure q
  refine wpAny_bind (ap ?_)
  show wpAny _ _ (if ((3 : Int) == 0 && (-1 : Int) == 1 && (4 : Nat) == 4) = true then _ else _) _ _ s
  rw [if_neg (by decide)]
  have small : sizeOk (.seq #[v3, v2, v1, v0]) := by
    show 4 ≤ sizeLine
    decide
  first
    | exact wpAny_bind (m := Builtin.Tuple.tupleExact _) (wpAny_newObj_type (wpAny_pure ⟨_, rfl, wpAny_pure h⟩) small)
    | exact wpAny_bind (wpAny_bind (m := Builtin.Tuple.tupleExact _) (wpAny_newObj_type (wpAny_pure ⟨_, rfl, wpAny_pure h⟩) small))
    | exact wpAny_bind (m := Builtin.Tuple.tupleExact _) (wpAny_newObj_type (wpAny_bind (wpAny_pure (wpAny_pure ⟨_, rfl, wpAny_pure h⟩))) small)
end
def tRev4 (K : PySem.W.Frag) (te : TE) : TE := fun σ H Q => te σ H fun x H1 => ∃ (a : Addr) (x0 x1 x2 x3 : V), x = .ref a ∧ SqT K H1 a [x0, x1, x2, x3] ∧ ∀ p, H1 p = none → Q (.ref p) (upd H1 p (.tup [x3, x2, x1, x0]))
theorem pe_rev4 {X : Cx} {e : Expr} {te : TE} {k : Nat} {p1 p2 p3 pos : Pos} (he : PE X e te) : PE X (.Subscript e (.Slice none none (some (.UnaryOp .USub (.Constant (.int 1) k p1) p2)) p3) pos) (tRev4 X.K te) := by
  constructor
  intro pins s σ H Q I h
  refine Subscript_ (thn (he.run pins s σ H _ I h) ?_)
  rintro v s1 ⟨x, H1, I1, r1, a, x0, x1, x2, x3, rfl, hx, q⟩
  cases (show v = Value.ref a from r1)
  have step : PO X (some (.UnaryOp .USub (.Constant (.int 1) k p1) p2)) (tPart (tUn (rU fun i => .int (-i)) (tC (.int 1)))) := po_some (pe_un un_neg pe_int)
  refine wpAny_Slice (thn (po_none.run pins s1 σ H1 (fun o H2 => o = none ∧ H2 = H1) I1 ⟨rfl, rfl⟩) ?_)
  rintro vl s2 ⟨_, _, I2, pl, rfl, rfl⟩
  refine thn (po_none.run pins s2 σ _ (fun o H3 => o = none ∧ H3 = _) I2 ⟨rfl, rfl⟩) ?_
  rintro vu s3 ⟨_, _, I3, pu, rfl, rfl⟩
  refine thn (step.run pins s3 σ _ (fun o H4 => o = some (-1) ∧ H4 = _) I3 ⟨1, rfl, -1, rfl, rfl, rfl⟩) ?_
  rintro vs s4 ⟨_, _, I4, ps, rfl, rfl⟩
  have I5 : Inv X pins σ _ { s4 with heap := s4.heap.push { cls := .type "slice", data := .fields #[vl, vu, vs] } } := I4.kept (t' := s4.toks) fun _ _ q => Heap.get?_push_of_some _ q
  obtain ⟨its, rv, ht, _⟩ := I5.tuple hx
  obtain ⟨u0, u1, u2, u3, rfl, q0, q1, q2, q3⟩ : ∃ u0 u1 u2 u3, its = [u0, u1, u2, u3] ∧ RelV x0 u0 ∧ RelV x1 u1 ∧ RelV x2 u2 ∧ RelV x3 u3 := by
    cases rv with
    | cons a0 r =>
      cases r with
      | cons a1 r =>
        cases r with
        | cons a2 r =>
          cases r with
          | cons a3 r =>
            cases r
            exact ⟨_, _, _, _, rfl, a0, a1, a2, a3⟩
  cases pl
  cases pu
  refine tail_any (ops := [.ref a, .ref s4.heap.objs.size]) ht.typeIs PyProof.Rows.slot_tuple_getitem.lookup ?_ (by with_unfolding_all rfl)
  refine rev4_get ht (Heap.IsSliceOf.new _ _ _ vs) ps ?_
  refine ⟨.ref _, _, I5.laid (t' := s4.toks) (o := .tup [x3, x2, x1, x0]) (fun _ _ q => Heap.get?_push_of_some _ q) (Nat.le_refl _) ?_, rfl, q _ (I5.hok.fresh (Nat.le_refl _))⟩
  exact ⟨(by show 4 ≤ sizeLine; decide), [u3, u2, u1, u0], .cons q3 (.cons q2 (.cons q1 (.cons q0 .nil))), IsTup.new _ _⟩
theorem rws4 {g : Kg} {z : Wd} {x0 x1 x2 x3 : W} {vs : List V} (r : RWs g z [x0, x1, x2, x3] vs) : ∃ v0 v1 v2 v3, vs = [v0, v1, v2, v3] ∧ RW g z x0 v0 ∧ RW g z x1 v1 ∧ RW g z x2 v2 ∧ RW g z x3 v3 := by
  cases r with
  | cons r0 r =>
    cases r with
    | cons r1 r =>
      cases r with
      | cons r2 r =>
        cases r with
        | cons r3 r =>
          cases r
          exact ⟨_, _, _, _, rfl, r0, r1, r2, r3⟩
def rev4W : W → Option W
  | .tup [x0, x1, x2, x3] => some (.tup [x3, x2, x1, x0])
  | _ => none
def eRev4 (a : Ev) : Ev := fun env S => (a env S).bind fun w S1 => match rev4W w with
  | some y => .ok y S1
  | none => .bad
theorem rev4_at {g : Kg} {z : Wd} {w y : W} {v : V} (h : rev4W w = some y) (r : RW g z w v) : ∃ a v0 v1 v2 v3 x0 x1 x2 x3, v = .ref a ∧ SqT g.K z.H a [v0, v1, v2, v3] ∧ y = .tup [x3, x2, x1, x0] ∧ RW g z x0 v0 ∧ RW g z x1 v1 ∧ RW g z x2 v2 ∧ RW g z x3 v3 := by
  unfold rev4W at h
  split at h
  · rename_i x0 x1 x2 x3
    cases h
    cases r with
    | tup hT rs =>
      obtain ⟨v0, v1, v2, v3, rfl, r0, r1, r2, r3⟩ := rws4 rs
      exact ⟨_, v0, v1, v2, v3, x0, x1, x2, x3, rfl, hT.sq, rfl, r0, r1, r2, r3⟩
  · cases h
theorem me_rev4 {X : Cx} {Wx : WX} {e : Expr} {fe : Ev} {k : Nat} {p1 p2 p3 pos : Pos} (he : ME X Wx e fe) : ME X Wx (.Subscript e (.Slice none none (some (.UnaryOp .USub (.Constant (.int 1) k p1) p2)) p3) pos) (eRev4 fe) := by
  refine pe_mono (pe_rev4 he) ?_
  rintro σ H Q ⟨z, env, rfl, t, re, o⟩
  refine ⟨z, env, rfl, t, re, o.bind fun z1 x w e1 st1 t1 r1 o1 => ?_⟩
  cases hw : rev4W w with
  | none =>
    rw [hw] at o1
    exact o1.elim
  | some y =>
    rw [hw] at o1
    obtain ⟨a, v0, v1, v2, v3, x0, x1, x2, x3, rfl, hT, rfl, r0, r1, r2, r3⟩ := rev4_at hw r1
    refine ⟨a, v0, v1, v2, v3, rfl, hT, fun p hp => ?_⟩
    exact o1 (z1.new p (.tup [v3, v2, v1, v0])) (.ref p) rfl (Step.new t1 hp) (t1.new hp) (newT t1 hp (.cons r3 (.cons r2 (.cons r1 (.cons r0 .nil)))))
end Mi

set_option Elab.async false
set_option linter.all false
set_option maxRecDepth 100000
set_option maxHeartbeats 4000000
namespace Mi
open PySem L2 PySem.Spec PyProof.Rows
theorem un1 {k : Nat} {A : Around} (r : Room k A) : A.units + 1 < cLine := by have := r.un; omega
theorem un65 {k : Nat} {A : Around} (r : Room k A) : A.units + 65 < cLine := by have := r.un; omega
theorem fn_def {P : Program} {w : World} {K : PySem.W.Frag} {mg : Str → Option Value} {base : Heap} {x qual : Str} {st : Stmt} {f : Addr} {fd : FuncData} {N ps : List Str} {k n j : Nat} {m : List W → Sto → R W} (fb : Sv)
    (hm : m = runF n fb) (hn : N.length = n) (hj : ps.length = j) (F : Fun K x qual st f fd) (S : FnScope N ps (defScope st))
    (hbody : ∀ (cdv : Value) (A : Around) (outer : List PySem.Env) (s : Shared) (H : Hp) (E : XK),
      (A.deeper (envOfC qual (defScope st) s.heap.objs.size f cdv)).guards = some [] → Room k (A.deeper (envOfC qual (defScope st) s.heap.objs.size f cdv)) →
      MSs (cxOf (L2.CX P w) P w K mg base N qual (defScope st) f cdv A outer s H E) (fun cls d _ H' => E cls d H') (defBody st) fb) :
    FnG P w K mg base (k + 1) f fd ps (spM ⟨K, mg⟩ j m) := by
  subst hm hn hj
  exact fn_body F S hbody
/-! ### -e -/
def negW : W → Option W
  | .int i => some (.int (-i))
  | _ => none
def eNeg (a : Ev) : Ev := fun env S => (a env S).bind fun w S1 => opR (negW w) S1
theorem me_neg {X : Cx} {Wx : WX} {a : Expr} {fa : Ev} {pos : Pos} (ha : ME X Wx a fa) : ME X Wx (.UnaryOp .USub a pos) (eNeg fa) := by
  refine pe_mono (pe_un un_neg ha) ?_
  rintro σ H Q ⟨z, env, rfl, t, re, o⟩
  refine ⟨z, env, rfl, t, re, o.bind fun z1 x w e1 st1 t1 r1 o1 => ?_⟩
  obtain ⟨y, e, o'⟩ := opR_some o1
  cases r1 with
  | int i =>
    cases e
    exact ⟨i, rfl, Out.now o' t1 (.int _)⟩
  | _ => cases e
/-! ### facts about exceptions, from those of the top -/
section
variable {K : PySem.W.Frag} {mg : Str → Option Value} {c x : Str} {C D E' : Addr} {cl : Value} {n : String} {b : Bool} {f : Str}
theorem hit1 {c' : Str} (m : mg c = some (.ref C)) (h : PySem.W.exmOne K (.ref C) cl = some true) (e : c' = c) (hD : mg c' = some (.ref D)) : PySem.W.exmOne K (.ref D) cl = some true := by
  subst e
  rw [m] at hD
  cases hD
  exact h
theorem kx_ty (m : mg c = some (.ref C)) (ec : ExcC K C) (k : PySem.W.kitOne K (.ref C) (.type n) = some b) (hD : mg c = some (.ref D)) : ExcC K D ∧ PySem.W.kitOne K (.ref D) (.type n) = some b := by
  rw [m] at hD
  cases hD
  exact ⟨ec, k⟩
theorem kx_fn (m : mg c = some (.ref C)) (mx : mg x = some (.ref E')) (ec : ExcC K C) (k : PySem.W.kitOne K (.ref C) (.ref E') = some b) (hD : mg c = some (.ref D)) : ∃ C', mg x = some (.ref C') ∧ ExcC K D ∧ PySem.W.kitOne K (.ref D) (.ref C') = some b := by
  rw [m] at hD
  cases hD
  exact ⟨E', mx, ec, k⟩
theorem xf1 (m : mg c = some (.ref C)) (xc : XfC K C) (k : PySem.W.findIn K (.ref C) f = some none) (hD : mg c = some (.ref D)) : XfC K D ∧ PySem.W.findIn K (.ref D) f = some none := by
  rw [m] at hD
  cases hD
  exact ⟨xc, k⟩
end
section
variable {K : PySem.W.Frag} {C E' : Addr} {b : Bool} {T : String}
theorem cls_of (hi : PySem.W.isClsIn K E' = true) (ht : PySem.W.typeIn K (.ref E') = some (.type "type")) (hs : PySem.W.subIn K (.ref C) (.ref E') = some b) : PySem.W.kitCls K (.ref C) (.ref E') = some b := by
  unfold PySem.W.kitCls
  dsimp only
  rw [if_pos (by
    rw [ht, Bool.and_eq_true]
    exact ⟨hi, beq_self_eq_true _⟩)]
  exact hs
theorem exm_sub (hb : PySem.W.subIn K (.ref E') (.type "BaseException") = some true) (hi : PySem.W.isClsIn K E' = true) (ht : PySem.W.typeIn K (.ref E') = some (.type "type")) (hs : PySem.W.subIn K (.ref C) (.ref E') = some b) : PySem.W.exmOne K (.ref C) (.ref E') = some b := by
  unfold PySem.W.exmOne
  rw [if_pos (by rw [hb]; rfl)]
  exact cls_of hi ht hs
theorem kit_ref (h0 : PySem.W.subIn K (.ref C) (.ref C) = some true) (hi : PySem.W.isClsIn K E' = true) (ht : PySem.W.typeIn K (.ref E') = some (.type "type")) (hs : PySem.W.subIn K (.ref C) (.ref E') = some b) : PySem.W.kitOne K (.ref C) (.ref E') = some b := by
  unfold PySem.W.kitOne
  split
  · rename_i h
    rw [beq_iff_eq] at h
    cases h
    exact h0.symm.trans hs
  · exact cls_of hi ht hs
theorem kit_typ (hs : PySem.W.subIn K (.ref C) (.type T) = some b) (hk : PySem.W.kitMeta T = true := by decide +kernel) : PySem.W.kitOne K (.ref C) (.type T) = some b := by
  unfold PySem.W.kitOne
  rw [if_neg (by rw [beq_iff_eq]; exact fun z => nomatch z)]
  unfold PySem.W.kitCls
  dsimp only
  rw [if_pos hk]
  exact hs
end
/-! ### facts of the top: methods, classes, own exceptions -/
structure Nm (mg : Str → Option Value) (c : Str) (C : Addr) : Prop where
  m : mg c = some (.ref C)
structure Gm (K : PySem.W.Frag) (C : Addr) (m q : Str) (st : Stmt) (f : Addr) (fd : FuncData) (ps : List Str) : Prop where
  me : Meth K C m f
  F : Fun K m q st f fd
  b : Binds K fd ps []
structure Cf (K : PySem.W.Frag) (mg : Str → Option Value) (c : Str) (C f : Addr) : Prop where
  m : mg c = some (.ref C)
  cl : Cls K C
  ma : Mk K C f
structure Xf0 (K : PySem.W.Frag) (mg : Str → Option Value) (c : Str) (C : Addr) (newId : String) (bm : List Value) (q : Str) (st : Stmt) (f : Addr) (fd : FuncData) (ps : List Str) : Prop where
  m : mg c = some (.ref C)
  o : OexB K C newId bm
  i : PySem.W.findIn K (.ref C) "__init__" = some (some (.ref f))
  t : PySem.W.typeIn K (.ref f) = some (.type "function")
  F : Fun K "__init__" q st f fd
  b : Binds K fd ps []
structure Xf1 (K : PySem.W.Frag) (mg : Str → Option Value) (c : Str) (C : Addr) (newId : String) (bm : List Value) (q : Str) (st : Stmt) (f : Addr) (fd : FuncData) (ps : List Str) (f1 : Str) : Prop where
  m : mg c = some (.ref C)
  o : OexB K C newId bm
  i : PySem.W.findIn K (.ref C) "__init__" = some (some (.ref f))
  t : PySem.W.typeIn K (.ref f) = some (.type "function")
  F : Fun K "__init__" q st f fd
  b : Binds K fd ps []
  f0 : PySem.W.findIn K (.ref C) f1 = some none
structure Xf2 (K : PySem.W.Frag) (mg : Str → Option Value) (c : Str) (C : Addr) (newId : String) (bm : List Value) (q : Str) (st : Stmt) (f : Addr) (fd : FuncData) (ps : List Str) (f1 f2 : Str) : Prop where
  m : mg c = some (.ref C)
  o : OexB K C newId bm
  i : PySem.W.findIn K (.ref C) "__init__" = some (some (.ref f))
  t : PySem.W.typeIn K (.ref f) = some (.type "function")
  F : Fun K "__init__" q st f fd
  b : Binds K fd ps []
  f0 : PySem.W.findIn K (.ref C) f1 = some none
  f1 : PySem.W.findIn K (.ref C) f2 = some none
end Mi

set_option Elab.async false
set_option linter.all false
set_option maxRecDepth 100000
set_option maxHeartbeats 4000000
namespace Mi
open PySem L2
/-! ### what a mirror tells: it ends well, and so -/
def R.Sat {α : Type} (r : R α) (P : α → Sto → Prop) : Prop := match r with
  | .ok a S => P a S
  | _ => False
def RS.Sat (r : RS) (N B C : Env → Sto → Prop) (T : W → Sto → Prop) : Prop := match r with
  | .next e S => N e S
  | .brk e S => B e S
  | .cont e S => C e S
  | .ret w S => T w S
  | _ => False
theorem R.Sat.mono {α : Type} {r : R α} {P Q : α → Sto → Prop} (h : r.Sat P) (k : ∀ a S, P a S → Q a S) : r.Sat Q := by
  cases r with
  | ok a S => exact k a S h
  | _ => exact h.elim
theorem R.Sat.bind {α β : Type} {r : R α} {k : α → Sto → R β} {P : β → Sto → Prop} (h : r.Sat fun a S => (k a S).Sat P) : (r.bind k).Sat P := by
  cases r with
  | ok a S => exact h
  | _ => exact h.elim
theorem R.Sat.of {α : Type} {r : R α} {P : α → Sto → Prop} (h : r.Sat P) : ∃ a S, r = .ok a S ∧ P a S := by
  cases r with
  | ok a S => exact ⟨a, S, rfl, h⟩
  | _ => exact h.elim
theorem R.Sat.bindS {α : Type} {r : R α} {e : Env} {k : α → Sto → RS} {N B C : Env → Sto → Prop} {T : W → Sto → Prop} (h : r.Sat fun a S => (k a S).Sat N B C T) : (r.bindS e k).Sat N B C T := by
  cases r with
  | ok a S => exact h
  | _ => exact h.elim
theorem RS.Sat.bind {r : RS} {k : Env → Sto → RS} {N B C : Env → Sto → Prop} {T : W → Sto → Prop} (h : r.Sat (fun e S => (k e S).Sat N B C T) B C T) : (r.bind k).Sat N B C T := by
  cases r <;> exact h
theorem RS.Sat.mono {r : RS} {N B C N' B' C' : Env → Sto → Prop} {T T' : W → Sto → Prop} (h : r.Sat N B C T) (h1 : ∀ e S, N e S → N' e S) (h2 : ∀ e S, B e S → B' e S) (h3 : ∀ e S, C e S → C' e S) (h4 : ∀ w S, T w S → T' w S) : r.Sat N' B' C' T' := by
  cases r with
  | next e S => exact h1 e S h
  | brk e S => exact h2 e S h
  | cont e S => exact h3 e S h
  | ret w S => exact h4 w S h
  | _ => exact h.elim
theorem runF_sat {N : Nat} {f : Sv} {ws : List W} {S : Sto} {P : W → Sto → Prop} (h : (f (ws.map some ++ List.replicate (N - ws.length) none) S).Sat (fun _ S' => P .non S') (fun _ _ => False) (fun _ _ => False) P) : (runF N f ws S).Sat P := by
  unfold runF
  cases hf : f (ws.map some ++ List.replicate (N - ws.length) none) S with
  | next e S' => rw [hf] at h; exact h
  | ret w S' => rw [hf] at h; exact h
  | _ => rw [hf] at h; exact h.elim
theorem tells_of {m : List W → Sto → R W} {n : Nat} (h : ∀ ns : List Int, ns.length ≤ n → (m [.scr ns] []).Sat fun w _ => w = .bl true) : Tells m n := fun ns hl => by
  obtain ⟨a, S, e, rfl⟩ := (h ns hl).of
  exact ⟨S, e⟩
end Mi

set_option Elab.async false
set_option linter.all false
set_option maxRecDepth 100000
set_option maxHeartbeats 4000000
namespace Mi
open PySem L2
/-! ### what a mirror ends in: wp, by its construct -/
abbrev XP := Str → List (Str × W) → Sto → Prop
def R.wp {α : Type} (r : R α) (P : α → Sto → Prop) (X : XP) : Prop := match r with
  | .ok a S => P a S
  | .ex c fs S => X c fs S
  | .bad => False
structure Dn where
  nx : Env → Sto → Prop
  bk : Env → Sto → Prop
  ct : Env → Sto → Prop
  rt : W → Sto → Prop
  ex : Str → List (Str × W) → Env → Sto → Prop
def RS.wp (r : RS) (D : Dn) : Prop := match r with
  | .next e S => D.nx e S
  | .brk e S => D.bk e S
  | .cont e S => D.ct e S
  | .ret w S => D.rt w S
  | .ex c fs e S => D.ex c fs e S
  | .bad => False
abbrev noX : XP := fun _ _ _ => False
theorem R.wp.mono {α : Type} {r : R α} {P Q : α → Sto → Prop} {X Y : XP} (h : r.wp P X) (k : ∀ a S, P a S → Q a S) (kx : ∀ c fs S, X c fs S → Y c fs S) : r.wp Q Y := by
  cases r with
  | ok a S => exact k a S h
  | ex c fs S => exact kx c fs S h
  | bad => exact h
theorem R.wp.of {α : Type} {r : R α} {P : α → Sto → Prop} (h : r.wp P noX) : ∃ a S, r = .ok a S ∧ P a S := by
  cases r with
  | ok a S => exact ⟨a, S, rfl, h⟩
  | _ => exact h.elim
theorem wp_ok {α : Type} {a : α} {S : Sto} {P : α → Sto → Prop} {X : XP} (h : P a S) : (R.ok a S).wp P X := h
theorem wp_bind {α β : Type} {r : R α} {k : α → Sto → R β} {P : β → Sto → Prop} {X : XP} (h : r.wp (fun a S => (k a S).wp P X) X) : (r.bind k).wp P X := by
  cases r <;> exact h
/-- a call whose outcome is known -/
theorem wp_eq {α : Type} {r : R α} {a : α} {S : Sto} {P : α → Sto → Prop} {X : XP} (e : r = .ok a S) (h : P a S) : r.wp P X := by rw [e]; exact h
theorem wp_eqX {α : Type} {r : R α} {c : Str} {fs : List (Str × W)} {S : Sto} {P : α → Sto → Prop} {X : XP} (e : r = .ex c fs S) (h : X c fs S) : r.wp P X := by rw [e]; exact h
/-- a call that is known to end well, used where more may come out -/
theorem wp_use {α : Type} {r : R α} {P Q : α → Sto → Prop} {X : XP} (h : r.wp P noX) (k : ∀ a S, P a S → Q a S) : r.wp Q X := h.mono k fun _ _ _ z => z.elim
theorem RS.wp.mono {r : RS} {D D' : Dn} (h : r.wp D) (h1 : ∀ e S, D.nx e S → D'.nx e S) (h2 : ∀ e S, D.bk e S → D'.bk e S) (h3 : ∀ e S, D.ct e S → D'.ct e S) (h4 : ∀ w S, D.rt w S → D'.rt w S) (h5 : ∀ c fs e S, D.ex c fs e S → D'.ex c fs e S) : r.wp D' := by
  cases r with
  | next e S => exact h1 e S h
  | brk e S => exact h2 e S h
  | cont e S => exact h3 e S h
  | ret w S => exact h4 w S h
  | ex c fs e S => exact h5 c fs e S h
  | bad => exact h
abbrev xS (D : Dn) (env : Env) : XP := fun c fs S => D.ex c fs env S
theorem wp_bindS {α : Type} {r : R α} {env : Env} {k : α → Sto → RS} {D : Dn} (h : r.wp (fun a S => (k a S).wp D) (xS D env)) : (r.bindS env k).wp D := by
  cases r <;> exact h
theorem wp_bindRS {r : RS} {k : Env → Sto → RS} {D : Dn} (h : r.wp { D with nx := fun e S => (k e S).wp D }) : (r.bind k).wp D := by
  cases r <;> exact h
theorem wp_run {N : Nat} {f : Sv} {ws : List W} {S : Sto} {P : W → Sto → Prop} {X : XP} (h : (f (ws.map some ++ List.replicate (N - ws.length) none) S).wp ⟨fun _ S' => P .non S', fun _ _ => False, fun _ _ => False, P, fun c fs _ S' => X c fs S'⟩) : (runF N f ws S).wp P X := by
  unfold runF
  cases hf : f (ws.map some ++ List.replicate (N - ws.length) none) S <;> rw [hf] at h <;> exact h
section
variable {env : Env} {S : Sto} {a b c o e : Ev} {ta tb : Tv} {sa sb : Sv} {f f' : Op2} {av : Av} {P : W → Sto → Prop} {PT : Bool → Sto → Prop} {PA : List W → Sto → Prop} {X : XP} {D : Dn}
theorem wp_v {i : Nat} {w : W} (h : env[i]? = some (some w)) (q : P w S) : (eV i env S).wp P X := by
  unfold eV
  rw [h]
  exact q
theorem wp_c {w : W} (q : P w S) : (eC w env S).wp P X := q
theorem wp_2 (h : (a env S).wp (fun x S1 => (b env S1).wp (fun y S2 => (f x y S2).wp P X) X) X) : (e2 f a b env S).wp P X := wp_bind (h.mono (fun _ _ q => wp_bind q) fun _ _ _ q => q)
theorem wp_asB {k : Bool} (q : PT k S) : (asB (.bl k) S).wp PT X := q
theorem wp_t2 (h : (a env S).wp (fun x S1 => (b env S1).wp (fun y S2 => (f x y S2).wp (fun w S3 => (asB w S3).wp PT X) X) X) X) : (tC2 f a b env S).wp PT X := wp_bind (wp_2 h)
theorem wp_ch (h : (a env S).wp (fun x S1 => (b env S1).wp (fun y S2 => (f x y S2).wp (fun w S3 => (asB w S3).wp (fun k S4 => if k = true then (c env S4).wp (fun u S5 => (f' y u S5).wp P X) X else P (.bl false) S4) X) X) X) X) : (eCh f f' a b c env S).wp P X := by
  refine wp_bind (h.mono (fun x S1 q => wp_bind (q.mono (fun y S2 q => wp_bind (q.mono (fun w S3 q => ?_) fun _ _ _ q => q)) fun _ _ _ q => q)) fun _ _ _ q => q)
  cases w <;> first | exact q.elim | skip
  rename_i k
  have q' : (if k = true then (c env S3).wp (fun u S5 => (f' y u S5).wp P X) X else P (.bl false) S3) := q
  cases k with
  | true => rw [if_pos rfl] at q'; exact wp_bind q'
  | false => rw [if_neg Bool.false_ne_true] at q'; exact q'
theorem wp_tch (h : (eCh f f' a b c env S).wp (fun w S1 => (asB w S1).wp PT X) X) : (tCh f f' a b c env S).wp PT X := wp_bind h
theorem wp_opT {o : Option Bool} {k : Bool} (h : o = some k) (q : PT k S) : (opT o S).wp PT X := by rw [h]; exact q
theorem wp_opR {α : Type} {Q : α → Sto → Prop} {o : Option α} {k : α} (h : o = some k) (q : Q k S) : (opR o S).wp Q X := by rw [h]; exact q
theorem wp_tv (h : (a env S).wp (fun w S1 => (opT (truW S1 w) S1).wp PT X) X) : (tV a env S).wp PT X := wp_bind h
/-- a bool as a test -/
theorem wp_tvB (h : (a env S).wp (fun w S1 => (asB w S1).wp PT X) X) : (tV a env S).wp PT X := wp_bind (h.mono (fun w S1 q => by
  cases w <;> first | exact q.elim | exact q) fun _ _ _ q => q)
theorem wp_tand (h : (ta env S).wp (fun k S1 => if k = true then (tb env S1).wp PT X else PT false S1) X) : (tAnd ta tb env S).wp PT X := wp_bind (h.mono (fun k S1 q => by
  cases k with
  | true => exact q
  | false => exact q) fun _ _ _ q => q)
theorem wp_tor (h : (ta env S).wp (fun k S1 => if k = true then PT true S1 else (tb env S1).wp PT X) X) : (tOr ta tb env S).wp PT X := wp_bind (h.mono (fun k S1 q => by
  cases k with
  | true => exact q
  | false => exact q) fun _ _ _ q => q)
theorem wp_tnot (h : (ta env S).wp (fun k S1 => PT (!k) S1) X) : (tNot ta env S).wp PT X := wp_bind h
theorem wp_and (h : (a env S).wp (fun w S1 => (asB w S1).wp (fun k S2 => if k = true then (b env S2).wp P X else P (.bl false) S2) X) X) : (eAnd a b env S).wp P X := wp_bind (h.mono (fun w S1 q => wp_bind (q.mono (fun k S2 q => by
  cases k with
  | true => exact q
  | false => exact q) fun _ _ _ q => q)) fun _ _ _ q => q)
theorem wp_or (h : (a env S).wp (fun w S1 => (asB w S1).wp (fun k S2 => if k = true then P (.bl true) S2 else (b env S2).wp P X) X) X) : (eOr a b env S).wp P X := wp_bind (h.mono (fun w S1 q => wp_bind (q.mono (fun k S2 q => by
  cases k with
  | true => exact q
  | false => exact q) fun _ _ _ q => q)) fun _ _ _ q => q)
theorem wp_not (h : (a env S).wp (fun w S1 => (opT (truW S1 w) S1).wp (fun k S2 => P (.bl (!k)) S2) X) X) : (eNot a env S).wp P X := wp_bind (h.mono (fun _ _ q => wp_bind q) fun _ _ _ q => q)
theorem wp_ifE (h : (ta env S).wp (fun k S1 => if k = true then (a env S1).wp P X else (b env S1).wp P X) X) : (eIf ta a b env S).wp P X := wp_bind (h.mono (fun k S1 q => by
  cases k with
  | true => exact q
  | false => exact q) fun _ _ _ q => q)
theorem wp_neg (h : (a env S).wp (fun w S1 => (opR (negW w) S1).wp P X) X) : (eNeg a env S).wp P X := wp_bind h
theorem wp_anil (q : PA [] S) : (aNil env S).wp PA X := q
theorem wp_acons (h : (a env S).wp (fun w S1 => (av env S1).wp (fun ws S2 => PA (w :: ws) S2) X) X) : (aCons a av env S).wp PA X := wp_bind (h.mono (fun _ _ q => wp_bind q) fun _ _ _ q => q)
theorem wp_ite {α : Type} {Q : α → Sto → Prop} {p : Prop} [Decidable p] {r : R α} (h : p) (q : r.wp Q X) : (if p then r else .bad).wp Q X := by rw [if_pos h]; exact q
theorem wp_tup (h : (av env S).wp (fun ws S1 => ws.length ≤ sizeLine ∧ P (.tup ws) S1) X) : (eTup av env S).wp P X := wp_bind (h.mono (fun ws S1 q => wp_ite q.1 q.2) fun _ _ _ q => q)
theorem wp_lst (h : (av env S).wp (fun ws S1 => ws.length ≤ sizeLine ∧ P (.lst ws) S1) X) : (eLst av env S).wp P X := wp_bind (h.mono (fun ws S1 q => wp_ite q.1 q.2) fun _ _ _ q => q)
theorem wp_lstH (h : (av env S).wp (fun ws S1 => ws.length ≤ sizeLine ∧ P (.h S1.length) (S1 ++ [.lst ws])) X) : (eLstH av env S).wp P X := wp_bind (h.mono (fun ws S1 q => wp_ite q.1 q.2) fun _ _ _ q => q)
theorem wp_sl {lo hi : Pv} (h : (a env S).wp (fun x S1 => (lo env S1).wp (fun l S2 => (hi env S2).wp (fun u S3 => (opR (slOf S3 x l u) S3).wp P X) X) X) X) : (eSl a lo hi env S).wp P X :=
  wp_bind (h.mono (fun _ _ q => wp_bind (q.mono (fun _ _ q => wp_bind q) fun _ _ _ q => q)) fun _ _ _ q => q)
theorem wp_pn {PO : Option Int → Sto → Prop} (q : PO none S) : (pNone env S).wp PO X := q
theorem wp_ps {PO : Option Int → Sto → Prop} (h : (a env S).wp (fun w S1 => (asI w S1).wp PO X) X) : (pSome a env S).wp PO X := wp_bind h
theorem wp_asI {PO : Option Int → Sto → Prop} {i : Int} (q : PO (some i) S) : (asI (.int i) S).wp PO X := q
theorem wp_call {n : Nat} {m : List W → Sto → R W} {dws : List W} (h : (av env S).wp (fun ws S1 => (ws ++ dws).length = n ∧ (m (ws ++ dws) S1).wp P X) X) : (eCall n m dws av env S).wp P X := wp_bind (h.mono (fun ws S1 q => wp_ite q.1 q.2) fun _ _ _ q => q)
theorem wp_call0 {n : Nat} {m : List W → Sto → R W} (h : (av env S).wp (fun ws S1 => ws.length = n ∧ (m ws S1).wp P X) X) : (eCall n m [] av env S).wp P X := wp_call (h.mono (fun ws S1 q => by rw [List.append_nil]; exact q) fun _ _ _ q => q)
theorem wp_meth {cl mn : Str} {n : Nat} {m : List W → Sto → R W} {dws : List W} (h : (o env S).wp (fun x S1 => insOk S1 cl mn x = true ∧ (av env S1).wp (fun ws S2 => (x :: (ws ++ dws)).length = n ∧ (m (x :: (ws ++ dws)) S2).wp P X) X) X) :
    (eMeth cl mn n m dws o av env S).wp P X := wp_bind (h.mono (fun x S1 q => wp_ite q.1 (wp_bind (q.2.mono (fun ws S2 q => wp_ite q.1 q.2) fun _ _ _ q => q))) fun _ _ _ q => q)
theorem wp_meth0 {cl mn : Str} {n : Nat} {m : List W → Sto → R W} (h : (o env S).wp (fun x S1 => insOk S1 cl mn x = true ∧ (av env S1).wp (fun ws S2 => (x :: ws).length = n ∧ (m (x :: ws) S2).wp P X) X) X) :
    (eMeth cl mn n m [] o av env S).wp P X := wp_meth (h.mono (fun x S1 q => ⟨q.1, q.2.mono (fun ws S2 q => by rw [List.append_nil]; exact q) fun _ _ _ q => q⟩) fun _ _ _ q => q)
theorem wp_make {cl : Str} {n : Nat} {m : List W → Sto → R W} {dws : List W} (h : (av env S).wp (fun ws S1 => (W.h S1.length :: (ws ++ dws)).length = n ∧ (m (.h S1.length :: (ws ++ dws)) (S1 ++ [.ins cl []])).wp (fun w S2 => w = .non ∧ P (.h S1.length) S2) X) X) :
    (eMake cl n m dws av env S).wp P X := wp_bind (h.mono (fun ws S1 q => wp_ite q.1 (wp_bind (q.2.mono (fun w S2 q => by obtain ⟨rfl, q⟩ := q; exact q) fun _ _ _ q => q))) fun _ _ _ q => q)
theorem wp_make0 {cl : Str} {n : Nat} {m : List W → Sto → R W} (h : (av env S).wp (fun ws S1 => (W.h S1.length :: ws).length = n ∧ (m (.h S1.length :: ws) (S1 ++ [.ins cl []])).wp (fun w S2 => w = .non ∧ P (.h S1.length) S2) X) X) :
    (eMake cl n m [] av env S).wp P X := wp_make (h.mono (fun ws S1 q => by rw [List.append_nil]; exact q) fun _ _ _ q => q)
theorem wp_b {op : OpA} (h : (av env S).wp (fun ws S1 => (op ws S1).wp P X) X) : (eB op av env S).wp P X := wp_bind h
theorem wp_m {ty : Sto → W → Bool} {op : OpM} (h : (o env S).wp (fun x S1 => ty S1 x = true ∧ (av env S1).wp (fun ws S2 => (op x ws S2).wp P X) X) X) : (eM ty op o av env S).wp P X := wp_bind (h.mono (fun x S1 q => wp_ite q.1 (wp_bind q.2)) fun _ _ _ q => q)
theorem wp_fld {cl f : Str} (h : (o env S).wp (fun x S1 => (opR (fldOf S1 cl f x) S1).wp P X) X) : (eFld cl f o env S).wp P X := wp_bind h
theorem wp_exf {cs : List Str} {f : Str} (h : (o env S).wp (fun x S1 => ∃ y, exfOf S1 cs f x = some y ∧ P y S1) X) : (eExf cs f o env S).wp P X := wp_bind (h.mono (fun x S1 q => by
  obtain ⟨y, e, q⟩ := q
  show R.wp (match exfOf S1 cs f x with | some y => _ | none => _) P X
  rw [e]
  exact q) fun _ _ _ q => q)
theorem wp_frz (h : (a env S).wp (fun w S1 => (frzR w S1).wp P X) X) : (eFrz a env S).wp P X := wp_bind h
theorem wp_rev {fin : List W → Sto → R W} (h : (a env S).wp (fun w S1 => (opR (revOf S1 w) S1).wp (fun ws S2 => (fin ws S2).wp P X) X) X) : (eRev fin a env S).wp P X := wp_bind (h.mono (fun _ _ q => wp_bind q) fun _ _ _ q => q)
theorem wp_rev4 (h : (a env S).wp (fun w S1 => ∃ y, rev4W w = some y ∧ P y S1) X) : (eRev4 a env S).wp P X := wp_bind (h.mono (fun x S1 q => by
  obtain ⟨y, e, q⟩ := q
  show R.wp (match rev4W x with | some y => _ | none => _) P X
  rw [e]
  exact q) fun _ _ _ q => q)
theorem wp_fmt (h : (a env S).wp (fun w S1 => (opR (fmtOf w) S1).wp P X) X) : (eFmt a env S).wp P X := wp_bind h
theorem wp_j0 {acc : Str} (q : P (.str acc) S) : (joinsE [] acc env S).wp P X := q
theorem wp_j1 {acc : Str} {g : Ev} {gs : List Ev} (h : (g env S).wp (fun w S1 => ∃ y, w = .str y ∧ (acc ++ y).length ≤ sizeLine ∧ (joinsE gs (acc ++ y) env S1).wp P X) X) : (joinsE (g :: gs) acc env S).wp P X := by
  unfold joinsE
  refine wp_bind (h.mono (fun w S1 q => ?_) fun _ _ _ q => q)
  obtain ⟨y, rfl, hl, q⟩ := q
  exact wp_ite hl q
theorem wp_dct0 {fin : List (Key × W) → Sto → R W} (h : (fin [] S).wp P X) : (eDct0 fin env S).wp P X := h
theorem wp_pairs0 {PP : List (Key × W) → Sto → Prop} (h : PP [] S) : (pairsE [] env S).wp PP X := h
theorem wp_pairs1 {PP : List (Key × W) → Sto → Prop} {k v : Ev} {ps : List (Ev × Ev)} (h : (k env S).wp (fun x S1 => (v env S1).wp (fun y S2 => ∃ kk, keyOf x = some kk ∧ (pairsE ps env S2).wp (fun r S3 => PP ((kk, y) :: r) S3) X) X) X) : (pairsE ((k, v) :: ps) env S).wp PP X := by
  unfold pairsE
  refine wp_bind (h.mono (fun x S1 q => wp_bind (q.mono (fun y S2 q => ?_) fun _ _ _ q => q)) fun _ _ _ q => q)
  obtain ⟨kk, e, q⟩ := q
  rw [e]
  exact wp_bind q
theorem wp_dct {fin : List (Key × W) → Sto → R W} {ps : List (Ev × Ev)} (h : (pairsE ps env S).wp (fun kvs S1 => kvs.length ≤ 15 ∧ (fin (mergeW [] kvs) S1).wp P X) X) : (eDct fin ps env S).wp P X := wp_bind (h.mono (fun ws S1 q => wp_ite q.1 q.2) fun _ _ _ q => q)
theorem wp_finDH {kvs : List (Key × W)} (h : P (.h S.length) (S ++ [.dct kvs])) : (finDH kvs S).wp P X := h
theorem wp_finD {kvs : List (Key × W)} (h : P (.dct (kvs.map (·.1)) (kvs.map (·.2))) S) : (finD kvs S).wp P X := h
theorem wp_finL {ws : List W} (h : P (.lst ws) S) : (finL ws S).wp P X := h
theorem wp_finH {ws : List W} (h : P (.h S.length) (S ++ [.lst ws])) : (finH ws S).wp P X := h
/-! statements -/
theorem wp_nil (h : D.nx env S) : (sNil env S).wp D := h
theorem wp_seq (h : (sa env S).wp { D with nx := fun e S => (sb e S).wp D }) : (sSeq sa sb env S).wp D := wp_bindRS h
theorem wp_set {i : Nat} (h : (a env S).wp (fun w S1 => D.nx (env.set i (some w)) S1) (xS D env)) : (sSet i a env S).wp D := wp_bindS h
theorem wp_expr (h : (a env S).wp (fun _ S1 => D.nx env S1) (xS D env)) : (sExpr a env S).wp D := wp_bindS h
theorem wp_ret (h : (a env S).wp (fun w S1 => D.rt w S1) (xS D env)) : (sRet a env S).wp D := wp_bindS h
theorem wp_retN (h : D.rt .non S) : (sRetN env S).wp D := h
theorem wp_brk (h : D.bk env S) : (sBrk env S).wp D := h
theorem wp_cont (h : D.ct env S) : (sCont env S).wp D := h
theorem wp_if (h : (ta env S).wp (fun k S1 => if k = true then (sa env S1).wp D else (sb env S1).wp D) (xS D env)) : (sIf ta sa sb env S).wp D := wp_bindS (h.mono (fun k S1 q => by
  cases k with
  | true => exact q
  | false => exact q) fun _ _ _ q => q)
theorem wp_asg {g : Gv} (h : (a env S).wp (fun w S1 => (g w env S1).wp D) (xS D env)) : (sAsg g a env S).wp D := wp_bindS h
theorem wp_gname {i : Nat} {w : W} (h : D.nx (env.set i (some w)) S) : (gName i w env S).wp D := h
theorem wp_gtup {is : List Nat} {ws : List W} (hl : ws.length = is.length) (h : D.nx (setAll is ws env) S) : (gTup is (.tup ws) env S).wp D := by
  unfold gTup
  dsimp only
  rw [if_pos hl]
  exact h
theorem wp_par {is : List Nat} (h : (av env S).wp (fun ws S1 => ws.length = is.length ∧ D.nx (setAll is ws env) S1) (xS D env)) : (sPar is av env S).wp D := wp_bindS (h.mono (fun ws S1 q => by
  rw [if_pos q.1]
  exact q.2) fun _ _ _ q => q)
theorem wp_opS {o : Option Sto} {S' : Sto} (h : o = some S') (q : D.nx env S') : (opS env o).wp D := by rw [h]; exact q
theorem wp_sfld {cl f : Str} (h : (e env S).wp (fun y S1 => (o env S1).wp (fun x S2 => (opS env (setFld cl f x y S2)).wp D) (xS D env)) (xS D env)) : (sFld cl f o e env S).wp D := wp_bindS (h.mono (fun _ _ q => wp_bindS q) fun _ _ _ q => q)
theorem wp_sfldaug {cl f : Str} {op : Op2} (h : (o env S).wp (fun x S1 => (opR (fldOf S1 cl f x) S1).wp (fun u S2 => (e env S2).wp (fun y S3 => (op u y S3).wp (fun w S4 => (opS env (setFld cl f x w S4)).wp D) (xS D env)) (xS D env)) (xS D env)) (xS D env)) : (sFldAug cl f op o e env S).wp D :=
  wp_bindS (h.mono (fun _ _ q => wp_bindS (q.mono (fun _ _ q => wp_bindS (q.mono (fun _ _ q => wp_bindS q) fun _ _ _ q => q)) fun _ _ _ q => q)) fun _ _ _ q => q)
theorem wp_ssub {i : Ev} (h : (e env S).wp (fun w S1 => (o env S1).wp (fun x S2 => (i env S2).wp (fun y S3 => (opS env (setIx x y w S3)).wp D) (xS D env)) (xS D env)) (xS D env)) : (sSub o i e env S).wp D :=
  wp_bindS (h.mono (fun _ _ q => wp_bindS (q.mono (fun _ _ q => wp_bindS q) fun _ _ _ q => q)) fun _ _ _ q => q)
theorem wp_raise {cl : Str} {ns : List Str} (h : (av env S).wp (fun ws S1 => ws.length = ns.length ∧ ns.length ≤ 1000 ∧ D.ex cl (ns.zip ws).reverse env S1) (xS D env)) : (sRaise cl ns av env S).wp D := wp_bindS (h.mono (fun ws S1 q => by
  rw [if_pos ⟨q.1, q.2.1⟩]
  exact q.2.2) fun _ _ _ q => q)
theorem wp_keep {hit : Str → Bool} {i j : Nat} (h : (sa env S).wp { D with ex := fun c fs e S1 => hit c = true ∧ i < e.length ∧ D.nx ((e.set j (some (.h S1.length))).set i none) (S1 ++ [.exn c fs]) }) : (sKeep hit i j sa env S).wp D := by
  unfold sKeep
  cases hs : sa env S <;> rw [hs] at h
  case ex c fs e S1 =>
    obtain ⟨h1, h2, h3⟩ := h
    show RS.wp (if _ then _ else _) D
    rw [if_pos ⟨h1, h2⟩]
    exact h3
  all_goals exact h
/-! what is walked -/
theorem wp_range1 {PI : List W × Option Nat → Sto → Prop} (h : (av env S).wp (fun ws S1 => ∃ j : Int, ws = [.int j] ∧ (-(2 ^ 62) ≤ j ∧ j < 2 ^ 62) ∧ PI (rangeW 0 j.toNat, none) S1) X) : (iRange1 av env S).wp PI X := wp_bind (h.mono (fun ws S1 q => by
  obtain ⟨j, rfl, hj, q⟩ := q
  exact wp_ite hj q) fun _ _ _ q => q)
theorem wp_range2 {PI : List W × Option Nat → Sto → Prop} (h : (av env S).wp (fun ws S1 => ∃ i j : Int, ws = [.int i, .int j] ∧ ((-(2 ^ 62) ≤ i ∧ i < 2 ^ 62) ∧ (-(2 ^ 62) ≤ j ∧ j < 2 ^ 62)) ∧ PI (rangeW i (j - i).toNat, none) S1) X) : (iRange2 av env S).wp PI X := wp_bind (h.mono (fun ws S1 q => by
  obtain ⟨i, j, rfl, hj, q⟩ := q
  exact wp_ite hj q) fun _ _ _ q => q)
theorem wp_val {PI : List W × Option Nat → Sto → Prop} (h : (a env S).wp (fun w S1 => (itemsOf w S1).wp PI X) X) : (iVal a env S).wp PI X := wp_bind h
theorem wp_for {i : Iv} {g : Gv} (h : (i env S).wp (fun p S1 => (forW g sa p.2 p.1 p.1 env S1).wp D) (xS D env)) : (sFor i g sa env S).wp D := wp_bindS h
theorem wp_lc {fin : List W → Sto → R W} {vs : List Nat} {i : Iv} {g : Gv} (h : (i env S).wp (fun p S1 => (lcW g ta e p.2 p.1 (wipeE env vs) p.1 [] S1).wp (fun ws S2 => (fin ws S2).wp P X) X) X) : (eLc0 fin vs i g ta e env S).wp P X := wp_bind (h.mono (fun _ _ q => wp_bind q) fun _ _ _ q => q)
theorem wp_tyes (h : PT true S) : (tYes env S).wp PT X := h
end
/-! ### loops -/
theorem wp_forW {g : Gv} {b : Sv} {n : Option Nat} {all : List W} {D : Dn} (I : List W → Env → Sto → Prop) (hok : ∀ ws env S, I ws env S → okN n all S)
    (hs : ∀ w ws env S, I (w :: ws) env S → (g w env S).wp ⟨fun e1 S1 => (b e1 S1).wp { D with nx := I ws, ct := I ws, bk := D.nx }, fun _ _ => False, fun _ _ => False, fun _ _ => False, fun _ _ _ _ => False⟩)
    (hd : ∀ env S, I [] env S → D.nx env S) : ∀ (ws : List W) (env : Env) (S : Sto), I ws env S → (forW g b n all ws env S).wp D
  | [], env, S, h => by
    unfold forW
    rw [if_pos (hok _ _ _ h)]
    exact hd env S h
  | w :: ws, env, S, h => by
    unfold forW
    rw [if_pos (hok _ _ _ h)]
    have h1 := hs w ws env S h
    cases hg : g w env S <;> rw [hg] at h1 <;> first | exact h1.elim | skip
    rename_i e1 S1
    dsimp only
    have h2 : (b e1 S1).wp { D with nx := I ws, ct := I ws, bk := D.nx } := h1
    cases hb : b e1 S1 <;> rw [hb] at h2
    · exact wp_forW I hok hs hd ws _ _ h2
    · exact h2
    · exact wp_forW I hok hs hd ws _ _ h2
    · exact h2
    · exact h2
    · exact h2
theorem rangeW_succ (lo : Int) (n : Nat) : rangeW lo (n + 1) = .int lo :: rangeW (lo + 1) n := by
  unfold rangeW
  rw [List.range_succ_eq_map, List.map_cons, List.map_map]
  congr 1
  · simp
  · refine List.map_congr_left fun i _ => ?_
    simp only [Function.comp_apply]
    congr 1
    push_cast
    omega
theorem rangeW_zero (lo : Int) : rangeW lo 0 = [] := rfl
/-- a walk of a range: k turns are done -/
theorem wp_forR {i : Nat} {b : Sv} {all : List W} {D : Dn} {n : Nat} (I : Nat → Env → Sto → Prop) {env : Env} {S : Sto} (h0 : I 0 env S)
    (hs : ∀ k env S, k < n → I k env S → (b (env.set i (some (.int (k : Nat)))) S).wp { D with nx := I (k + 1), ct := I (k + 1), bk := D.nx })
    (hd : ∀ env S, I n env S → D.nx env S) : (forW (gName i) b none all (rangeW 0 n) env S).wp D := by
  refine wp_forW (fun ws env S => ∃ k, k ≤ n ∧ ws = rangeW (k : Nat) (n - k) ∧ I k env S) (fun _ _ _ _ => by simp) ?_ ?_ _ _ _ ⟨0, Nat.zero_le _, rfl, h0⟩
  · rintro w ws env S ⟨k, hk, e, q⟩
    cases hn : n - k with
    | zero =>
      rw [hn] at e
      cases e
    | succ j =>
      rw [hn, rangeW_succ] at e
      cases e
      refine (hs k env S (by omega) q).mono ?_ (fun _ _ q => q) ?_ (fun _ _ q => q) (fun _ _ _ _ q => q) <;> exact fun e S q => ⟨k + 1, by omega, by rw [show n - (k + 1) = j from by omega]; rfl, q⟩
  · rintro env S ⟨k, hk, e, q⟩
    have : n - k = 0 := by
      cases hn : n - k with
      | zero => rfl
      | succ j =>
        rw [hn, rangeW_succ] at e
        cases e
    have : k = n := by omega
    subst this
    exact hd env S q
theorem wp_lcW {g : Gv} {t : Tv} {e : Ev} {n : Option Nat} {all : List W} {env : Env} {P : List W → Sto → Prop} {X : XP} (I : List W → List W → Sto → Prop) (hok : ∀ ws acc S, I ws acc S → okN n all S)
    (hs : ∀ w ws acc S, I (w :: ws) acc S → (g w env S).wp ⟨fun e1 S1 => (t e1 S1).wp (fun k S2 => if k = true then (e e1 S2).wp (fun x S3 => acc.length < sizeLine ∧ I ws (acc ++ [x]) S3) noX else I ws acc S2) noX, fun _ _ => False, fun _ _ => False, fun _ _ => False, fun _ _ _ _ => False⟩)
    (hd : ∀ acc S, I [] acc S → P acc S) : ∀ (ws acc : List W) (S : Sto), I ws acc S → (lcW g t e n all env ws acc S).wp P X
  | [], acc, S, h => by
    unfold lcW
    rw [if_pos (hok _ _ _ h)]
    exact hd acc S h
  | w :: ws, acc, S, h => by
    unfold lcW
    rw [if_pos (hok _ _ _ h)]
    have h1 := hs w ws acc S h
    cases hg : g w env S <;> rw [hg] at h1 <;> first | exact h1.elim | skip
    rename_i e1 S1
    dsimp only
    have h2 : (t e1 S1).wp (fun k S2 => if k = true then (e e1 S2).wp (fun x S3 => acc.length < sizeLine ∧ I ws (acc ++ [x]) S3) noX else I ws acc S2) noX := h1
    cases ht : t e1 S1 <;> rw [ht] at h2 <;> first | exact h2.elim | skip
    rename_i k S2
    have h3 : if k = true then (e e1 S2).wp (fun x S3 => acc.length < sizeLine ∧ I ws (acc ++ [x]) S3) noX else I ws acc S2 := h2
    show R.wp (if k = true then _ else _) P X
    cases k with
    | false =>
      rw [if_neg Bool.false_ne_true] at h3 ⊢
      exact wp_lcW I hok hs hd ws acc S2 h3
    | true =>
      rw [if_pos rfl] at h3 ⊢
      cases he : e e1 S2 <;> rw [he] at h3 <;> first | exact h3.elim | skip
      rename_i x S3
      have h4 : acc.length < sizeLine ∧ I ws (acc ++ [x]) S3 := h3
      show R.wp (if acc.length < sizeLine then _ else _) P X
      rw [if_pos h4.1]
      exact wp_lcW I hok hs hd ws (acc ++ [x]) S3 h4.2
/-- the ways behind a statement join in J -/
theorem wp_cut {r : RS} {D : Dn} (J : Env → Sto → Prop) (h : r.wp ⟨J, fun _ _ => False, fun _ _ => False, fun _ _ => False, fun _ _ _ _ => False⟩) (k : ∀ e S, J e S → D.nx e S) : r.wp D :=
  h.mono k (fun _ _ z => z.elim) (fun _ _ z => z.elim) (fun _ _ z => z.elim) fun _ _ _ _ z => z.elim
/-! ### the same, the names' values kept in a hypothesis: env is a letter -/
def AllE (l : Env) (Q : Env → Prop) : Prop := ∀ env, env = l → Q env
theorem AllE.of {l : Env} {Q : Env → Prop} (h : ∀ env, env = l → Q env) : AllE l Q := h
theorem wp_runE {N : Nat} {f : Sv} {ws : List W} {S : Sto} {P : W → Sto → Prop} {X : XP} (h : AllE (ws.map some ++ List.replicate (N - ws.length) none) fun env => (f env S).wp ⟨fun _ S' => P .non S', fun _ _ => False, fun _ _ => False, P, fun c fs _ S' => X c fs S'⟩) : (runF N f ws S).wp P X := wp_run (h _ rfl)
section
variable {env l : Env} {S : Sto} {a : Ev} {ta : Tv} {sa sb : Sv} {av : Av} {P : W → Sto → Prop} {X : XP} {D : Dn}
theorem wp_vE {i : Nat} {w : W} (he : env = l) (h : l[i]? = some (some w)) (q : P w S) : (eV i env S).wp P X := wp_v (by rw [he]; exact h) q
theorem wp_setE {i : Nat} (he : env = l) (h : (a env S).wp (fun w S1 => AllE (l.set i (some w)) fun env => D.nx env S1) (xS D env)) : (sSet i a env S).wp D := by
  subst he
  exact wp_set (h.mono (fun w S1 q => q _ rfl) fun _ _ _ q => q)
theorem wp_gnameE {i : Nat} {w : W} (he : env = l) (h : AllE (l.set i (some w)) fun env => D.nx env S) : (gName i w env S).wp D := by
  subst he
  exact wp_gname (h _ rfl)
theorem wp_gtupE {is : List Nat} {ws : List W} (he : env = l) (hl : ws.length = is.length) (h : AllE (setAll is ws l) fun env => D.nx env S) : (gTup is (.tup ws) env S).wp D := by
  subst he
  exact wp_gtup hl (h _ rfl)
theorem wp_parE {is : List Nat} (he : env = l) (h : (av env S).wp (fun ws S1 => ws.length = is.length ∧ AllE (setAll is ws l) fun env => D.nx env S1) (xS D env)) : (sPar is av env S).wp D := by
  subst he
  exact wp_par (h.mono (fun w S1 q => ⟨q.1, q.2 _ rfl⟩) fun _ _ _ q => q)
theorem wp_lcE {fin : List W → Sto → R W} {vs : List Nat} {i : Iv} {g : Gv} {e : Ev} (he : env = l) (h : (i env S).wp (fun p S1 => AllE (wipeE l vs) fun env => (lcW g ta e p.2 p.1 env p.1 [] S1).wp (fun ws S2 => (fin ws S2).wp P X) X) X) : (eLc0 fin vs i g ta e env S).wp P X := by
  subst he
  exact wp_lc (h.mono (fun w S1 q => q _ rfl) fun _ _ _ q => q)
theorem wp_keepE {hit : Str → Bool} {i j : Nat} (h : (sa env S).wp { D with ex := fun c fs e S1 => hit c = true ∧ i < e.length ∧ AllE ((e.set j (some (.h S1.length))).set i none) fun env => D.nx env (S1 ++ [.exn c fs]) }) : (sKeep hit i j sa env S).wp D := wp_keep (h.mono (fun _ _ q => q) (fun _ _ q => q) (fun _ _ q => q) (fun _ _ q => q) fun c fs e S1 q => ⟨q.1, q.2.1, q.2.2 _ rfl⟩)
end
theorem wp_forRE {i : Nat} {b : Sv} {all : List W} {D : Dn} {n : Nat} (I : Nat → Env → Sto → Prop) {env : Env} {S : Sto} (h0 : I 0 env S)
    (hs : ∀ k env S, k < n → I k env S → ∀ env', env' = env.set i (some (.int (k : Nat))) → (b env' S).wp { D with nx := I (k + 1), ct := I (k + 1), bk := D.nx })
    (hd : ∀ env S, I n env S → D.nx env S) : (forW (gName i) b none all (rangeW 0 n) env S).wp D := wp_forR I h0 (fun k env S hk h => hs k env S hk h _ rfl) hd
theorem tells_wp {m : List W → Sto → R W} {n : Nat} (h : ∀ ns : List Int, ns.length ≤ n → (m [.scr ns] []).wp (fun w _ => w = .bl true) noX) : Tells m n := fun ns hl => by
  obtain ⟨a, S, e, rfl⟩ := (h ns hl).of
  exact ⟨S, e⟩
end Mi

set_option Elab.async false
set_option linter.all false
set_option maxRecDepth 100000
set_option maxHeartbeats 4000000
namespace Mi
open PySem L2
/-! ### written texts are alike only where they are the same -/
theorem ofString_inj {a b : String} : Str.ofString a = Str.ofString b ↔ a = b := by
  constructor
  · intro h
    rw [Str.ofString_eq_toList, Str.ofString_eq_toList] at h
    have h2 : a.toList.map Char.toNat = b.toList.map Char.toNat := by
      have := congrArg (fun s : Str => s.cps.toList) h
      simpa using this
    have h3 : a.toList = b.toList := by
      have inj : ∀ (x y : List Char), x.map Char.toNat = y.map Char.toNat → x = y := by
        intro x
        induction x with
        | nil => intro y e; cases y <;> simp_all
        | cons c x ih =>
          intro y e
          cases y with
          | nil => simp at e
          | cons d y =>
            simp only [List.map_cons, List.cons.injEq] at e
            have : c = d := by
              have := congrArg Char.ofNat e.1
              simpa [Char.ofNat_toNat] using this
            rw [this, ih y e.2]
      exact inj _ _ h2
    have := congrArg String.ofList h3
    simpa using this
  · intro h
    rw [h]
theorem ne_str {a b : String} (h : a ≠ b) : (Sum.inr (Str.ofString a) : Key) ≠ Sum.inr (Str.ofString b) := fun e => h (ofString_inj.mp (Sum.inr.inj e))
theorem look_eq {k : Key} {v : W} {r : List (Key × W)} : lookW ((k, v) :: r) k = some v := by simp [lookW]
theorem look_ne {k k' : Key} {v : W} {r : List (Key × W)} (h : k' ≠ k) : lookW ((k', v) :: r) k = lookW r k := by simp [lookW, List.find?_cons, h]
theorem look_nil {k : Key} : lookW [] k = none := rfl
/-- the entry is there, once: it is put over -/
theorem put_eq {k : Key} {v w : W} {r : List (Key × W)} (h : lookW r k = none) : putW ((k, v) :: r) k w = (k, w) :: r := by
  have h2 : ∀ kv ∈ r, ¬ kv.1 = k := by
    intro kv hm e
    unfold lookW at h
    rw [Option.map_eq_none_iff, List.find?_eq_none] at h
    exact h kv hm (by simp [e])
  have h3 : r.map (fun kv => if kv.1 = k then (kv.1, w) else kv) = r := by
    conv => rhs; rw [← List.map_id r]
    exact List.map_congr_left fun kv hm => if_neg (h2 kv hm)
  unfold putW
  rw [if_pos (by simp), List.map_cons, if_pos rfl, h3]
theorem put_ne {k k' : Key} {v w : W} {r : List (Key × W)} (h : k' ≠ k) (hr : (lookW r k).isSome = true) : putW ((k', v) :: r) k w = (k', v) :: putW r k w := by
  have : (r.any fun kv => decide (kv.1 = k)) = true := by
    unfold lookW at hr
    rw [Option.isSome_map, List.find?_isSome] at hr
    rw [List.any_eq_true]
    exact hr
  unfold putW
  rw [if_pos (by rw [List.any_cons, this, Bool.or_true]), if_pos this, List.map_cons, if_neg h]
theorem put_new {k : Key} {w : W} {r : List (Key × W)} (h : lookW r k = none) : putW r k w = r ++ [(k, w)] := by
  unfold putW
  rw [if_neg]
  intro q
  rw [List.any_eq_true] at q
  obtain ⟨kv, hm, e⟩ := q
  unfold lookW at h
  rw [Option.map_eq_none_iff, List.find?_eq_none] at h
  exact h kv hm e
theorem look_none {k : Key} {r : List (Key × W)} (h : k ∉ r.map (·.1)) : lookW r k = none := by
  unfold lookW
  rw [Option.map_eq_none_iff, List.find?_eq_none]
  intro kv hm e
  exact h (List.mem_map.mpr ⟨kv, hm, of_decide_eq_true e⟩)
theorem merge_app : ∀ {more kvs : List (Key × W)}, ((kvs ++ more).map (·.1)).Nodup → mergeW kvs more = kvs ++ more
  | [], kvs, _ => by rw [List.append_nil]; rfl
  | kv :: more, kvs, h => by
    have h1 : kv.1 ∉ kvs.map (·.1) := by
      rw [List.map_append, List.map_cons] at h
      have := (List.nodup_append.mp h).2.2
      intro hm
      exact this _ hm _ List.mem_cons_self rfl
    show mergeW (putW kvs kv.1 kv.2) more = _
    rw [put_new (look_none h1), merge_app (by rw [List.append_assoc]; exact h), List.append_assoc]
    rfl
theorem merge_new {kvs : List (Key × W)} (h : (kvs.map (·.1)).Nodup) : mergeW [] kvs = kvs := merge_app h
/-! ### the pen -/
abbrev kS (x : String) : Key := Sum.inr (Str.ofString x)
def penKv (cs : List Int) (a l : Int) : List (Key × W) := [(kS "cells", .lst (cs.map W.int)), (kS "at", .int a), (kS "left", .int l)]
def penO (cs : List Int) (a l : Int) : Ob := .dct (penKv cs a l)
/-- a pen that so many draws may still be begun with -/
def IsPen (m : Nat) (o : Ob) : Prop := ∃ cs a l, o = penO cs a l ∧ 0 ≤ a ∧ a + (m : Int) ≤ 2 ^ 60 ∧ 0 ≤ l ∧ cs.length ≤ 63
theorem IsPen.mono {m n : Nat} {o : Ob} (h : IsPen n o) (k : m ≤ n) : IsPen m o := by
  obtain ⟨cs, a, l, e, h1, h2, h3⟩ := h
  exact ⟨cs, a, l, e, h1, by omega, h3⟩
theorem pen_cells {cs : List Int} {a l : Int} : lookW (penKv cs a l) (kS "cells") = some (.lst (cs.map W.int)) := look_eq
theorem pen_at {cs : List Int} {a l : Int} : lookW (penKv cs a l) (kS "at") = some (.int a) := by
  unfold penKv
  rw [look_ne (ne_str (by decide)), look_eq]
theorem pen_left {cs : List Int} {a l : Int} : lookW (penKv cs a l) (kS "left") = some (.int l) := by
  unfold penKv
  rw [look_ne (ne_str (by decide)), look_ne (ne_str (by decide)), look_eq]
theorem pen_setAt {cs : List Int} {a l z : Int} : putW (penKv cs a l) (kS "at") (.int z) = penKv cs z l := by
  unfold penKv
  rw [put_ne (ne_str (by decide)) (by rw [look_eq]; rfl), put_eq (by rw [look_ne (ne_str (by decide)), look_nil])]
theorem pen_setLeft {cs : List Int} {a l z : Int} : putW (penKv cs a l) (kS "left") (.int z) = penKv cs a z := by
  unfold penKv
  rw [put_ne (ne_str (by decide)) (by rw [look_ne (ne_str (by decide)), look_eq]; rfl), put_ne (ne_str (by decide)) (by rw [look_eq]; rfl), put_eq look_nil]
/-! ### stores -/
theorem lt_of_at {S : Sto} {n : Nat} {o : Ob} (h : S[n]? = some o) : n < S.length := (List.getElem?_eq_some_iff.mp h).1
theorem at_set {S : Sto} {n : Nat} {o o' : Ob} (h : S[n]? = some o) : (S.set n o')[n]? = some o' := List.getElem?_set_self (lt_of_at h)
theorem at_set_ne {S : Sto} {n k : Nat} {o : Option Ob} {o' : Ob} (h : S[k]? = o) (hn : n ≠ k) : (S.set n o')[k]? = o := by rw [List.getElem?_set_ne hn]; exact h
theorem set_same {S : Sto} {n : Nat} {o : Ob} (h : S[n]? = some o) : S.set n o = S := by
  obtain ⟨hl, rfl⟩ := List.getElem?_eq_some_iff.mp h
  exact List.set_getElem_self hl
theorem at_app {S T : Sto} {n : Nat} {o : Ob} (h : S[n]? = some o) : (S ++ T)[n]? = some o := by rw [List.getElem?_append_left (lt_of_at h)]; exact h
theorem at_new {S : Sto} {o : Ob} : (S ++ [o])[S.length]? = some o := by simp
/-! ### operations -/
def absI (i : Int) : Int := if i < 0 then -i else i
theorem iteB {b : Bool} {p q : Prop} (h1 : b = true → p) (h0 : b = false → q) : if b = true then p else q := by
  cases b with
  | true => exact h1 rfl
  | false => exact h0 rfl
section
variable {S : Sto} {P : W → Sto → Prop} {X : XP}
theorem wo_add {i j : Int} (h : P (.int (i + j)) S) : (wAdd (.int i) (.int j) S).wp P X := h
theorem wo_sub {i j : Int} (h : P (.int (i - j)) S) : (wSub (.int i) (.int j) S).wp P X := h
theorem wo_mul {i j : Int} (hm : (-(2 ^ 64) < i ∧ i < 2 ^ 64) ∨ (-(2 ^ 64) < j ∧ j < 2 ^ 64)) (h : P (.int (i * j)) S) : (wMul (.int i) (.int j) S).wp P X := by
  unfold wMul mulOk
  dsimp only
  rw [if_pos (decide_eq_true hm)]
  exact h
theorem wo_mod {i j : Int} (hj : j ≠ 0) (h : P (.int (i.fmod j)) S) : (wMod (.int i) (.int j) S).wp P X := by
  unfold wMod
  dsimp only
  rw [if_pos hj]
  exact h
theorem wo_fdiv {i j : Int} (hj : j ≠ 0 ∧ j.natAbs < 1073741824) (h : P (.int (i.fdiv j)) S) : (wFdiv (.int i) (.int j) S).wp P X := by
  unfold wFdiv
  dsimp only
  rw [if_pos hj]
  exact h
theorem wo_pow {i j : Int} (hj : 0 ≤ j ∧ j ≤ 1000000 ∧ i.natAbs < 2 ^ 64) (h : P (.int (i ^ j.toNat)) S) : (wPow (.int i) (.int j) S).wp P X := by
  unfold wPow
  dsimp only
  rw [if_pos hj]
  exact h
theorem wo_eqF {x y : W} (hs : scalW x y = true) (h : P (.bl (eqF x y)) S) : (wEq x y S).wp P X := by
  unfold wEq
  rw [if_pos hs]
  exact h
theorem wo_neF {x y : W} (hs : scalW x y = true) (h : P (.bl (!eqF x y)) S) : (wNe x y S).wp P X := by
  unfold wNe
  rw [if_pos hs]
  exact h
theorem wo_cmpD {x y : W} {f : PyData → PyData → Bool} {d e : PyData} (h1 : dat S x = some d) (h2 : dat S y = some e) (s1 : SeqAt.shaped d = true) (s2 : SeqAt.shaped e = true) (h : P (.bl (f d e)) S) : (cmpD S x y f).wp P X := by
  unfold cmpD
  rw [h1]
  dsimp only
  rw [h2]
  dsimp only
  rw [if_pos ⟨s1, s2⟩]
  exact h
theorem wo_eqNil {x : W} {a : List W} (h : seqL S x = some a) (q : P (.bl a.isEmpty) S) : (wEq x (.lst []) S).wp P X := by
  have hs : scalW x (.lst []) = false := by cases x <;> first | rfl | cases h
  unfold wEq
  rw [if_neg (by rw [hs]; exact Bool.false_ne_true)]
  cases a with
  | cons y ys =>
    rw [if_pos (by unfold lenNe; rw [h]; rfl)]
    exact q
  | nil =>
    rw [if_neg (by unfold lenNe; rw [h]; exact Bool.false_ne_true)]
    refine wo_cmpD (d := .list []) (e := .list []) ?_ rfl rfl rfl q
    cases x <;> first | cases h | skip
    · rename_i n
      show (lstAt S n).bind (fun ws => (datWs (hdat S 3) ws).map PyData.list) = _
      rw [show lstAt S n = some [] from h]
      rfl
    · rfl
theorem wo_neNil {x : W} {a : List W} (h : seqL S x = some a) (q : P (.bl (!a.isEmpty)) S) : (wNe x (.lst []) S).wp P X := by
  have hs : scalW x (.lst []) = false := by cases x <;> first | rfl | cases h
  have hd : dctStr x (.lst []) = false := by cases x <;> first | rfl | cases h
  unfold wNe
  rw [if_neg (by rw [hs]; exact Bool.false_ne_true), if_neg (by rw [hd]; exact Bool.false_ne_true)]
  cases a with
  | cons y ys =>
    rw [if_pos (by unfold lenNe; rw [h]; rfl)]
    exact q
  | nil =>
    rw [if_neg (by unfold lenNe; rw [h]; exact Bool.false_ne_true)]
    refine wo_cmpD (d := .list []) (e := .list []) ?_ rfl rfl rfl q
    cases x <;> first | cases h | skip
    · rename_i n
      show (lstAt S n).bind (fun ws => (datWs (hdat S 3) ws).map PyData.list) = _
      rw [show lstAt S n = some [] from h]
      rfl
    · rfl
theorem wo_lt {i j : Int} (h : P (.bl (decide (i < j))) S) : (wLt (.int i) (.int j) S).wp P X := h
theorem wo_le {i j : Int} (h : P (.bl (decide (i ≤ j))) S) : (wLe (.int i) (.int j) S).wp P X := h
theorem wo_gt {i j : Int} (h : P (.bl (decide (j < i))) S) : (wGt (.int i) (.int j) S).wp P X := h
theorem wo_ge {i j : Int} (h : P (.bl (decide (j ≤ i))) S) : (wGe (.int i) (.int j) S).wp P X := h
theorem wo_ix {x y w : W} (e : ixOf S x y = some w) (h : P w S) : (wIx x y S).wp P X := wp_opR e h
theorem ix_dct {n : Nat} {k : Str} {kvs : List (Key × W)} {w : W} (e : S[n]? = some (.dct kvs)) (h : lookW kvs (.inr k) = some w) : ixOf S (.h n) (.str k) = some w := by
  unfold ixOf
  dsimp only
  rw [e]
  exact h
theorem wo_ixd {n : Nat} {k : Str} {kvs : List (Key × W)} {w : W} (e : S[n]? = some (.dct kvs)) (h : lookW kvs (.inr k) = some w) (q : P w S) : (wIx (.h n) (.str k) S).wp P X := wo_ix (ix_dct e h) q
theorem ix_lst {ws : List W} {i : Int} {w : W} (h0 : 0 ≤ i) (h : ws[i.toNat]? = some w) : atI ws i = some w := by
  obtain ⟨k, rfl⟩ := Int.eq_ofNat_of_zero_le h0
  exact atI_nat h
theorem wo_ixl {ws : List W} {i : Int} {w : W} (h0 : 0 ≤ i) (h : ws[i.toNat]? = some w) (q : P w S) : (wIx (.lst ws) (.int i) S).wp P X := wo_ix (ix_lst h0 h) q
theorem wo_ixt {ws : List W} {i : Int} {w : W} (h0 : 0 ≤ i) (h : ws[i.toNat]? = some w) (q : P w S) : (wIx (.tup ws) (.int i) S).wp P X := wo_ix (ix_lst h0 h) q
theorem wo_ixlM {ws : List W} {i : Int} (h0 : 0 ≤ i) (h1 : i < (ws.length : Nat)) (q : ∀ w ∈ ws, P w S) : (wIx (.lst ws) (.int i) S).wp P X := by
  have h : i.toNat < ws.length := by omega
  exact wo_ixl h0 (List.getElem?_eq_getElem h) (q _ (List.getElem_mem h))
theorem wo_len {w : W} {n : Nat} (e : lenOf S w = some n) (h : P (.int (n : Nat)) S) : (bLen [w] S).wp P X := wp_opR (by rw [e]; rfl) h
theorem wo_neg {i : Int} (h : P (.int (-i)) S) : (opR (negW (.int i)) S).wp P X := h
theorem wo_slT {ws : List W} {lo hi : Option Int} (h : P (.tup (cutW ws lo hi)) S) : (opR (slOf S (.tup ws) lo hi) S).wp P X := h
theorem wo_slL {ws : List W} {lo hi : Option Int} (h : P (.lst (cutW ws lo hi)) S) : (opR (slOf S (.lst ws) lo hi) S).wp P X := h
theorem wo_slS {ns : List Int} {lo hi : Option Int} (h : P (.lst (cutW (ns.map W.int) lo hi)) S) : (opR (slOf S (.scr ns) lo hi) S).wp P X := h
theorem cut_drop {l : List W} {i : Nat} : cutW l (some (i : Nat)) none = l.drop i := by
  unfold cutW
  rw [HT.sIx_nat, HT.sIx_none]
  by_cases h : i ≤ l.length
  · rw [Nat.min_eq_left h, ← List.length_drop, List.take_length]
  · rw [Nat.min_eq_right (by omega), List.drop_eq_nil_of_le (Nat.le_refl _), List.drop_eq_nil_of_le (by omega)]
    simp
theorem cut_take {l : List W} {i : Nat} : cutW l none (some (i : Nat)) = l.take i := by
  unfold cutW
  rw [HT.sIx_nat, HT.sIx_none, List.drop_zero, Nat.sub_zero]
  by_cases h : i ≤ l.length
  · rw [Nat.min_eq_left h]
  · rw [Nat.min_eq_right (by omega), List.take_length, List.take_of_length_le (by omega)]
theorem wo_slTd {ws : List W} {i : Nat} (h : P (.tup (ws.drop i)) S) : (opR (slOf S (.tup ws) (some (i : Nat)) none) S).wp P X := wo_slT (by rw [cut_drop]; exact h)
theorem wo_slLd {ws : List W} {i : Nat} (h : P (.lst (ws.drop i)) S) : (opR (slOf S (.lst ws) (some (i : Nat)) none) S).wp P X := wo_slL (by rw [cut_drop]; exact h)
theorem wo_slTt {ws : List W} {i : Nat} (h : P (.tup (ws.take i)) S) : (opR (slOf S (.tup ws) none (some (i : Nat))) S).wp P X := wo_slT (by rw [cut_take]; exact h)
theorem wo_slLt {ws : List W} {i : Nat} (h : P (.lst (ws.take i)) S) : (opR (slOf S (.lst ws) none (some (i : Nat))) S).wp P X := wo_slL (by rw [cut_take]; exact h)
theorem wo_trB {k : Bool} {PT : Bool → Sto → Prop} (h : PT k S) : (opT (truW S (.bl k)) S).wp PT X := h
theorem wo_list {fin : List W → Sto → R W} {w : W} {ws : List W} (e : seqI S w = some ws) (h : (fin ws S).wp P X) : (bList fin [w] S).wp P X := wp_bind (wp_opR e h)
theorem wo_tuple {w : W} {ws : List W} (e : seqL S w = some ws) (h : P (.tup ws) S) : (bTuple [w] S).wp P X := by
  have q : (opR ((seqL S w).map W.tup) S).wp P X := wp_opR (by rw [e]; rfl) h
  cases w <;> first | (cases e; done) | exact q
theorem wo_tupleT {ws : List W} (h : P (.tup ws) S) : (bTuple [.tup ws] S).wp P X := h
theorem wo_max {i j : Int} (h : P (.int (if j > i then j else i)) S) : (bMax [.int i, .int j] S).wp P X := h
theorem wo_catT {a b : List W} (hl : a.length + b.length ≤ sizeLine) (h : P (.tup (a ++ b)) S) : (wAdd (.tup a) (.tup b) S).wp P X := wp_ite hl h
theorem wo_catS {a b : Str} (hl : a.length + b.length ≤ sizeLine) (h : P (.str (a ++ b)) S) : (wAdd (.str a) (.str b) S).wp P X := wp_ite hl h
theorem wo_catL {x y : W} {a b : List W} (h1 : seqL S x = some a) (h2 : seqL S y = some b) (hl : a.length + b.length ≤ sizeLine) (h : P (.lst (a ++ b)) S) : (wAdd x y S).wp P X := by
  have q : (addL x y S).wp P X := by
    unfold addL
    rw [h1]
    dsimp only
    rw [h2]
    exact wp_ite hl h
  cases x <;> first | exact q | cases h1
theorem wo_append {n : Nat} {xs : List W} {w : W} (e : S[n]? = some (.lst xs)) (hl : xs.length < sizeLine) (h : P .non (S.set n (.lst (xs ++ [w])))) : (mAppend (.h n) [w] S).wp P X := by
  unfold mAppend
  dsimp only
  rw [lstAt_eq.mpr e]
  exact wp_ite hl h
theorem wo_isi {x : W} {a b : String} (e : tyOf S x = some a) (hb : b ∈ tys) (h : P (.bl (subTy a b)) S) : (bIsi [x, .ty b] S).wp P X := by
  unfold bIsi
  dsimp only
  rw [e]
  dsimp only
  rw [if_pos hb]
  exact h
theorem wo_lenO {c : Str} {m : List W → Sto → R W} {x : W} (hi : isIns S c x = true) (h : (m [x] S).wp (fun w S' => ∃ n : Nat, w = .int (n : Nat) ∧ (n : Int) < 2 ^ 63 ∧ P (.int (n : Nat)) S') noX) : (bLenO c m [x] S).wp P X := by
  unfold bLenO
  dsimp only
  rw [if_pos hi]
  cases hm : m [x] S with
  | bad => rw [hm] at h; exact h.elim
  | ex _ _ _ => rw [hm] at h; exact h.elim
  | ok w S' =>
    rw [hm] at h
    obtain ⟨n, ew, hn, q⟩ := (show ∃ n : Nat, w = .int (n : Nat) ∧ (n : Int) < 2 ^ 63 ∧ P (.int (n : Nat)) S' from h)
    rw [ew]
    have e : lenR (.int (n : Nat)) S' = .ok (.int (n : Nat)) S' := by
      unfold lenR
      dsimp only
      rw [if_pos ⟨Int.natCast_nonneg n, hn⟩]
    rw [show (R.ok (W.int (n : Nat)) S').noEx = R.ok (W.int (n : Nat)) S' from rfl, R.bind_ok, e]
    exact q
theorem isIns_of {n : Nat} {c : Str} {fs : List (Str × W)} (h : S[n]? = some (.ins c fs)) : isIns S c (.h n) = true := by
  unfold isIns
  dsimp only
  rw [h]
  exact decide_eq_true rfl
theorem wo_reverse {n : Nat} {xs : List W} (e : S[n]? = some (.lst xs)) (h : P .non (S.set n (.lst xs.reverse))) : (mReverse (.h n) [] S).wp P X := by
  unfold mReverse
  dsimp only
  rw [e]
  exact h
theorem isLst_h {n : Nat} {xs : List W} (e : S[n]? = some (.lst xs)) : isLst S (.h n) = true := by
  unfold isLst
  rw [show seqL S (.h n) = some xs from lstAt_eq.mpr e]
  rfl
theorem wo_abs {i : Int} (h : P (.int (absI i)) S) : (bAbs [.int i] S).wp P X := h
end
theorem set_dct {S : Sto} {n : Nat} {k : Str} {kvs : List (Key × W)} {w : W} (e : S[n]? = some (.dct kvs)) (hl : kvs.length < sizeLine) : setIx (.h n) (.str k) w S = some (S.set n (.dct (putW kvs (.inr k) w))) := by
  unfold setIx
  dsimp only
  rw [e]
  dsimp only [keyOf]
  rw [if_pos hl]
theorem eqv_ints_nil (ns : List Int) : PyData.eqv (.list (ns.map .int)) (.list []) = ns.isEmpty := by
  cases ns <;> rfl
theorem gd_ints : ∀ ns : List Int, PyData.canLayAll0 (ns.map PyData.int) = true ∧ PyData.depthAll (ns.map PyData.int) = 0
  | [] => ⟨rfl, rfl⟩
  | n :: ns => by
    obtain ⟨h1, h2⟩ := gd_ints ns
    refine ⟨?_, ?_⟩
    · rw [List.map_cons]
      simp only [PyData.canLayAll0, PyData.canLay0, h1, Bool.and_self]
    · rw [List.map_cons]
      simp only [PyData.depthAll, PyData.depth, h2]
      rfl
theorem shaped_ints (ns : List Int) : SeqAt.shaped (.list (ns.map PyData.int)) = true := by
  obtain ⟨h1, h2⟩ := gd_ints ns
  unfold SeqAt.shaped
  simp only [PyData.canLay0, PyData.depth, h1, h2]
  rfl
theorem dat_ints {hd : Nat → Option PyData} : ∀ ns : List Int, datWs hd (ns.map W.int) = some (ns.map PyData.int)
  | [] => rfl
  | n :: ns => by
    rw [List.map_cons, datWs, dat_ints ns]
    rfl
end Mi

set_option Elab.async false
set_option linter.all false
set_option maxRecDepth 100000
set_option maxHeartbeats 4000000
namespace Mi
open PySem L2
local macro_rules | `(tactic| walk_at "v1") => `(tactic| first | with_reducible refine wp_seq ?_ | with_reducible refine wp_set ?_ | with_reducible refine wp_ret ?_ | with_reducible refine wp_if ?_ | with_reducible refine wp_expr ?_ | ((with_reducible apply wp_v); · rfl) | with_reducible refine wp_c ?_ | with_reducible refine wp_2 ?_ | with_reducible refine wp_t2 ?_ | with_reducible refine wp_asB ?_ | with_reducible refine wp_acons ?_ | with_reducible refine wp_anil ?_ | with_reducible refine wp_nil ?_ | with_reducible refine wp_call0 ?_ | with_reducible refine wp_call ?_ | with_reducible refine wp_b ?_ | with_reducible refine wp_tvB ?_ | with_reducible refine wp_tand ?_ | with_reducible refine wp_tor ?_ | with_reducible refine wp_tnot ?_ | with_reducible refine wp_and ?_ | with_reducible refine wp_or ?_ | with_reducible refine wp_not ?_ | with_reducible refine wp_ifE ?_ | with_reducible refine wp_neg ?_ | with_reducible refine wp_tup ?_ | with_reducible refine wp_lst ?_ | with_reducible refine wp_lstH ?_ | with_reducible refine wp_sl ?_ | with_reducible refine wp_pn ?_ | with_reducible refine wp_ps ?_ | with_reducible refine wp_asI ?_ | with_reducible refine wp_meth0 ?_ | with_reducible refine wp_meth ?_ | with_reducible refine wp_make0 ?_ | with_reducible refine wp_make ?_ | with_reducible refine wp_m ?_ | with_reducible refine wp_fld ?_ | with_reducible refine wp_exf ?_ | with_reducible refine wp_frz ?_ | with_reducible refine wp_rev ?_ | with_reducible refine wp_rev4 ?_ | with_reducible refine wp_fmt ?_ | with_reducible refine wp_j0 ?_ | with_reducible refine wp_j1 ?_ | with_reducible refine wp_dct0 ?_ | with_reducible refine wp_pairs0 ?_ | with_reducible refine wp_pairs1 ?_ | with_reducible refine wp_dct ?_ | with_reducible refine wp_finDH ?_ | with_reducible refine wp_finD ?_ | with_reducible refine wp_finL ?_ | with_reducible refine wp_finH ?_ | with_reducible refine wp_retN ?_ | with_reducible refine wp_brk ?_ | with_reducible refine wp_cont ?_ | with_reducible refine wp_asg ?_ | with_reducible refine wp_gname ?_ | with_reducible refine wp_gtup rfl ?_ | with_reducible refine wp_par ?_ | with_reducible refine wp_sfld ?_ | with_reducible refine wp_sfldaug ?_ | with_reducible refine wp_ssub ?_ | with_reducible refine wp_raise ?_ | with_reducible refine wp_keep ?_ | with_reducible refine wp_range1 ?_ | with_reducible refine wp_range2 ?_ | with_reducible refine wp_val ?_ | with_reducible refine wp_for ?_ | with_reducible refine wp_lc ?_ | with_reducible refine wp_tyes ?_ | with_reducible refine wp_ch ?_ | with_reducible refine wp_tch ?_ | with_reducible refine wo_add ?_ | with_reducible refine wo_sub ?_ | with_reducible refine wo_lt ?_ | with_reducible refine wo_le ?_ | with_reducible refine wo_gt ?_ | with_reducible refine wo_ge ?_ | with_reducible refine wo_abs ?_ | ((with_reducible refine wo_eqF ?_ ?_); · rfl) | ((with_reducible refine wo_neF ?_ ?_); · rfl) | with_reducible refine wo_neg ?_ | with_reducible refine wo_slTd ?_ | with_reducible refine wo_slLd ?_ | with_reducible refine wo_slTt ?_ | with_reducible refine wo_slLt ?_ | with_reducible refine wo_slT ?_ | with_reducible refine wo_slL ?_ | with_reducible refine wo_slS ?_ | with_reducible refine wo_trB ?_ | ((with_reducible refine And.intro (a := List.length _ = _) ?_ ?_); · rfl) | ((with_reducible refine And.intro (a := List.length _ ≤ _) ?_ ?_); · exact Nat.le_of_ble_eq_true rfl))
local macro_rules | `(tactic| walk_at "vc") => `(tactic| repeat walk_at "v1")
local macro_rules | `(tactic| walk_at "w1") => `(tactic| first | with_reducible refine wp_seq ?_ | with_reducible refine wp_setE (by assumption) ?_ | with_reducible refine wp_ret ?_ | with_reducible refine wp_if ?_ | with_reducible refine wp_expr ?_ | ((with_reducible refine' wp_vE (by assumption) ?hh ?_); case hh => rfl) | with_reducible refine wp_c ?_ | with_reducible refine wp_2 ?_ | with_reducible refine wp_t2 ?_ | with_reducible refine wp_asB ?_ | with_reducible refine wp_acons ?_ | with_reducible refine wp_anil ?_ | with_reducible refine wp_nil ?_ | with_reducible refine wp_call0 ?_ | with_reducible refine wp_call ?_ | with_reducible refine wp_b ?_ | with_reducible refine wp_tvB ?_ | with_reducible refine wp_tand ?_ | with_reducible refine wp_tor ?_ | with_reducible refine wp_tnot ?_ | with_reducible refine wp_and ?_ | with_reducible refine wp_or ?_ | with_reducible refine wp_not ?_ | with_reducible refine wp_ifE ?_ | with_reducible refine wp_neg ?_ | with_reducible refine wp_tup ?_ | with_reducible refine wp_lst ?_ | with_reducible refine wp_lstH ?_ | with_reducible refine wp_sl ?_ | with_reducible refine wp_pn ?_ | with_reducible refine wp_ps ?_ | with_reducible refine wp_asI ?_ | with_reducible refine wp_meth0 ?_ | with_reducible refine wp_meth ?_ | with_reducible refine wp_make0 ?_ | with_reducible refine wp_make ?_ | with_reducible refine wp_m ?_ | with_reducible refine wp_fld ?_ | with_reducible refine wp_exf ?_ | with_reducible refine wp_frz ?_ | with_reducible refine wp_rev ?_ | with_reducible refine wp_rev4 ?_ | with_reducible refine wp_fmt ?_ | with_reducible refine wp_j0 ?_ | with_reducible refine wp_j1 ?_ | with_reducible refine wp_dct0 ?_ | with_reducible refine wp_pairs0 ?_ | with_reducible refine wp_pairs1 ?_ | with_reducible refine wp_dct ?_ | with_reducible refine wp_finDH ?_ | with_reducible refine wp_finD ?_ | with_reducible refine wp_finL ?_ | with_reducible refine wp_finH ?_ | with_reducible refine wp_retN ?_ | with_reducible refine wp_brk ?_ | with_reducible refine wp_cont ?_ | with_reducible refine wp_asg ?_ | with_reducible refine wp_gnameE (by assumption) ?_ | with_reducible refine wp_gtupE (by assumption) rfl ?_ | with_reducible refine wp_parE (by assumption) ?_ | with_reducible refine wp_sfld ?_ | with_reducible refine wp_sfldaug ?_ | with_reducible refine wp_ssub ?_ | with_reducible refine wp_raise ?_ | with_reducible refine wp_keepE ?_ | with_reducible refine wp_range1 ?_ | with_reducible refine wp_range2 ?_ | with_reducible refine wp_val ?_ | with_reducible refine wp_for ?_ | with_reducible refine wp_lcE (by assumption) ?_ | with_reducible refine wp_tyes ?_ | ((with_reducible refine AllE.of ?_); intro env' he'; dsimp only [List.set, setAll, wipeE, List.map, List.replicate, List.length, List.append, HAppend.hAppend, Append.append] at he') | with_reducible refine wp_ch ?_ | with_reducible refine wp_tch ?_ | with_reducible refine wo_add ?_ | with_reducible refine wo_sub ?_ | with_reducible refine wo_lt ?_ | with_reducible refine wo_le ?_ | with_reducible refine wo_gt ?_ | with_reducible refine wo_ge ?_ | with_reducible refine wo_abs ?_ | ((with_reducible refine wo_eqF ?_ ?_); · rfl) | ((with_reducible refine wo_neF ?_ ?_); · rfl) | with_reducible refine wo_neg ?_ | with_reducible refine wo_slTd ?_ | with_reducible refine wo_slLd ?_ | with_reducible refine wo_slTt ?_ | with_reducible refine wo_slLt ?_ | with_reducible refine wo_slT ?_ | with_reducible refine wo_slL ?_ | with_reducible refine wo_slS ?_ | with_reducible refine wo_trB ?_ | ((with_reducible refine And.intro (a := List.length _ = _) ?_ ?_); · rfl) | ((with_reducible refine And.intro (a := List.length _ ≤ _) ?_ ?_); · exact Nat.le_of_ble_eq_true rfl))
local macro_rules | `(tactic| walk_at "wc") => `(tactic| repeat walk_at "w1")
local macro_rules | `(tactic| walk_at "j1") => `(tactic| first | with_reducible refine wp_seq ?_ | with_reducible refine wp_setE (by assumption) ?_ | with_reducible refine wp_ret ?_ | with_reducible refine wp_expr ?_ | ((with_reducible refine' wp_vE (by assumption) ?hh ?_); case hh => rfl) | with_reducible refine wp_c ?_ | with_reducible refine wp_2 ?_ | with_reducible refine wp_t2 ?_ | with_reducible refine wp_asB ?_ | with_reducible refine wp_acons ?_ | with_reducible refine wp_anil ?_ | with_reducible refine wp_nil ?_ | with_reducible refine wp_call0 ?_ | with_reducible refine wp_call ?_ | with_reducible refine wp_b ?_ | with_reducible refine wp_tvB ?_ | with_reducible refine wp_tand ?_ | with_reducible refine wp_tor ?_ | with_reducible refine wp_tnot ?_ | with_reducible refine wp_and ?_ | with_reducible refine wp_or ?_ | with_reducible refine wp_not ?_ | with_reducible refine wp_ifE ?_ | with_reducible refine wp_neg ?_ | with_reducible refine wp_tup ?_ | with_reducible refine wp_lst ?_ | with_reducible refine wp_lstH ?_ | with_reducible refine wp_sl ?_ | with_reducible refine wp_pn ?_ | with_reducible refine wp_ps ?_ | with_reducible refine wp_asI ?_ | with_reducible refine wp_meth0 ?_ | with_reducible refine wp_meth ?_ | with_reducible refine wp_make0 ?_ | with_reducible refine wp_make ?_ | with_reducible refine wp_m ?_ | with_reducible refine wp_fld ?_ | with_reducible refine wp_exf ?_ | with_reducible refine wp_frz ?_ | with_reducible refine wp_rev ?_ | with_reducible refine wp_rev4 ?_ | with_reducible refine wp_fmt ?_ | with_reducible refine wp_j0 ?_ | with_reducible refine wp_j1 ?_ | with_reducible refine wp_dct0 ?_ | with_reducible refine wp_pairs0 ?_ | with_reducible refine wp_pairs1 ?_ | with_reducible refine wp_dct ?_ | with_reducible refine wp_finDH ?_ | with_reducible refine wp_finD ?_ | with_reducible refine wp_finL ?_ | with_reducible refine wp_finH ?_ | with_reducible refine wp_retN ?_ | with_reducible refine wp_brk ?_ | with_reducible refine wp_cont ?_ | with_reducible refine wp_asg ?_ | with_reducible refine wp_gnameE (by assumption) ?_ | with_reducible refine wp_gtupE (by assumption) rfl ?_ | with_reducible refine wp_parE (by assumption) ?_ | with_reducible refine wp_sfld ?_ | with_reducible refine wp_sfldaug ?_ | with_reducible refine wp_ssub ?_ | with_reducible refine wp_raise ?_ | with_reducible refine wp_keepE ?_ | with_reducible refine wp_range1 ?_ | with_reducible refine wp_range2 ?_ | with_reducible refine wp_val ?_ | with_reducible refine wp_for ?_ | with_reducible refine wp_lcE (by assumption) ?_ | with_reducible refine wp_tyes ?_ | ((with_reducible refine AllE.of ?_); intro env' he'; dsimp only [List.set, setAll, wipeE, List.map, List.replicate, List.length, List.append, HAppend.hAppend, Append.append] at he') | with_reducible refine wp_ch ?_ | with_reducible refine wp_tch ?_ | with_reducible refine wo_add ?_ | with_reducible refine wo_sub ?_ | with_reducible refine wo_lt ?_ | with_reducible refine wo_le ?_ | with_reducible refine wo_gt ?_ | with_reducible refine wo_ge ?_ | with_reducible refine wo_abs ?_ | ((with_reducible refine wo_eqF ?_ ?_); · rfl) | ((with_reducible refine wo_neF ?_ ?_); · rfl) | with_reducible refine wo_neg ?_ | with_reducible refine wo_slTd ?_ | with_reducible refine wo_slLd ?_ | with_reducible refine wo_slTt ?_ | with_reducible refine wo_slLt ?_ | with_reducible refine wo_slT ?_ | with_reducible refine wo_slL ?_ | with_reducible refine wo_slS ?_ | with_reducible refine wo_trB ?_ | ((with_reducible refine And.intro (a := List.length _ = _) ?_ ?_); · rfl) | ((with_reducible refine And.intro (a := List.length _ ≤ _) ?_ ?_); · exact Nat.le_of_ble_eq_true rfl))
local macro_rules | `(tactic| walk_at "wj") => `(tactic| repeat walk_at "j1")
noncomputable def b_pen : Sv :=
  (sRet (eDct finDH [((eC (.str "cells")), (eB (bList finL) (aCons (eSl (eV 0) pNone (pSome (eC (.int 63)))) aNil))), ((eC (.str "at")), (eC (.int 0))), ((eC (.str "left")), (eC (.int 0)))]))
noncomputable def b_draw : Sv :=
  (sSeq (sIf (tC2 wGt (e2 wIx (eV 0) (eC (.str "left"))) (eC (.int 0)))
    (sSeq (sSet 2 (e2 wMod (e2 wIx (eV 0) (eC (.str "left"))) (eV 1)))
    (sSeq (sSub (eV 0) (eC (.str "left")) (e2 wFdiv (e2 wIx (eV 0) (eC (.str "left"))) (eV 1)))
    (sRet (eV 2))))
    sNil)
  (sSeq (sSet 3 (e2 wIx (eV 0) (eC (.str "at"))))
  (sSeq (sSub (eV 0) (eC (.str "at")) (e2 wAdd (eV 3) (eC (.int 1))))
  (sSeq (sSet 4 (eC (.int 29)))
  (sSeq (sIf (tC2 wNe (e2 wIx (eV 0) (eC (.str "cells"))) (eLst aNil))
    (sSet 4 (e2 wIx (e2 wIx (eV 0) (eC (.str "cells"))) (e2 wMod (eV 3) (eB bLen (aCons (e2 wIx (eV 0) (eC (.str "cells"))) aNil)))))
    sNil)
  (sSeq (sIf (tAnd (tC2 wLt (eV 3) (eB bLen (aCons (e2 wIx (eV 0) (eC (.str "cells"))) aNil))) (tC2 wGe (eB bAbs (aCons (eV 4) aNil)) (e2 wPow (eC (.int 10)) (eC (.int 18)))))
    (sSeq (sSub (eV 0) (eC (.str "left")) (e2 wFdiv (e2 wSub (eB bAbs (aCons (eV 4) aNil)) (e2 wPow (eC (.int 10)) (eC (.int 18)))) (eV 1)))
    (sRet (e2 wMod (e2 wSub (eB bAbs (aCons (eV 4) aNil)) (e2 wPow (eC (.int 10)) (eC (.int 18)))) (eV 1))))
    sNil)
  (sSeq (sSet 5 (e2 wAdd (e2 wAdd (e2 wAdd (e2 wMod (eV 4) (eC (.int 2147483629))) (e2 wMul (e2 wMul (eC (.int 31337)) (eV 3)) (eV 3))) (e2 wMul (eC (.int 8191)) (eV 3))) (eC (.int 17))))
  (sSeq (sSet 5 (e2 wMod (e2 wMul (eV 5) (eC (.int 48271))) (eC (.int 2147483647))))
  (sSeq (sSet 5 (e2 wMod (e2 wAdd (e2 wAdd (e2 wMul (eV 5) (eV 5)) (e2 wMul (eC (.int 69621)) (eV 5))) (eV 3)) (eC (.int 2147483587))))
  (sRet (e2 wMod (e2 wFdiv (e2 wMod (e2 wMul (eV 5) (e2 wAdd (eV 5) (eC (.int 40692)))) (eC (.int 2147483563))) (eC (.int 64))) (eV 1))))))))))))
theorem wp_draw {S : Sto} {p m : Nat} {o : Ob} {n : Int} {P : W → Sto → Prop} {X : XP} (hS : S[p]? = some o) (hp : IsPen (m + 1) o) (h0 : 0 < n) (h1 : n < 1073741824)
    (h : ∀ (d : Int) (o' : Ob), 0 ≤ d → d < n → IsPen m o' → P (.int d) (S.set p o')) : (runF 6 b_draw [.h p, .int n] S).wp P X := by
  obtain ⟨cs, a, l, rfl, a0, am, l0, cl⟩ := hp
  have n0 : n ≠ 0 := by omega
  have nf : n ≠ 0 ∧ n.natAbs < 1073741824 := ⟨n0, by omega⟩
  have fin : ∀ (x c l' : Int) , 0 ≤ c → c + (m : Int) ≤ 2 ^ 60 → 0 ≤ l' → P (.int (x.fmod n)) (S.set p (penO cs c l')) := fun x c l' hc hm hl =>
    h _ _ (Int.fmod_nonneg_of_pos x h0) (Int.fmod_lt_of_pos x h0) ⟨cs, c, l', rfl, hc, hm, hl, cl⟩
  refine wp_run ?_
  unfold b_draw
  walk_at "vc"
  refine wo_ixd hS pen_left ?_
  walk_at "vc"
  refine iteB (fun hl => ?_) (fun hl => ?_)
  · walk_at "vc"
    refine wo_ixd hS pen_left ?_
    walk_at "vc"
    refine wo_mod n0 ?_
    walk_at "vc"
    refine wo_ixd hS pen_left ?_
    walk_at "vc"
    refine wo_fdiv nf ?_
    walk_at "vc"
    refine wp_opS (set_dct hS (by show 3 < sizeLine; decide)) ?_
    walk_at "vc"
    rw [pen_setLeft]
    refine fin l a _ a0 (by omega) ?_
    exact Int.fdiv_nonneg l0 (by omega)
  · walk_at "vc"
    refine wo_ixd hS pen_at ?_
    walk_at "vc"
    refine wp_opS (set_dct hS (by show 3 < sizeLine; decide)) ?_
    rw [pen_setAt]
    have hS1 : (S.set p (.dct (penKv cs (a + 1) l)))[p]? = some (.dct (penKv cs (a + 1) l)) := at_set hS
    walk_at "vc"
    refine wo_ixd hS1 pen_cells ?_
    walk_at "vc"
    have hne : ∀ {Q : W → Sto → Prop} {Y : XP} {T : Sto}, Q (.bl (!cs.isEmpty)) T → (wNe (.lst (cs.map W.int)) (.lst []) T).wp Q Y := fun {Q Y T} q => wo_neNil (a := cs.map W.int) rfl (by rw [List.isEmpty_map]; exact q)
    refine hne ?_
    walk_at "vc"
    have tail : ∀ cell : Int, (sSeq (sIf (tAnd (tC2 wLt (eV 3) (eB bLen (aCons (e2 wIx (eV 0) (eC (.str "cells"))) aNil))) (tC2 wGe (eB bAbs (aCons (eV 4) aNil)) (e2 wPow (eC (.int 10)) (eC (.int 18)))))
        (sSeq (sSub (eV 0) (eC (.str "left")) (e2 wFdiv (e2 wSub (eB bAbs (aCons (eV 4) aNil)) (e2 wPow (eC (.int 10)) (eC (.int 18)))) (eV 1)))
        (sRet (e2 wMod (e2 wSub (eB bAbs (aCons (eV 4) aNil)) (e2 wPow (eC (.int 10)) (eC (.int 18)))) (eV 1))))
        sNil)
      (sSeq (sSet 5 (e2 wAdd (e2 wAdd (e2 wAdd (e2 wMod (eV 4) (eC (.int 2147483629))) (e2 wMul (e2 wMul (eC (.int 31337)) (eV 3)) (eV 3))) (e2 wMul (eC (.int 8191)) (eV 3))) (eC (.int 17))))
      (sSeq (sSet 5 (e2 wMod (e2 wMul (eV 5) (eC (.int 48271))) (eC (.int 2147483647))))
      (sSeq (sSet 5 (e2 wMod (e2 wAdd (e2 wAdd (e2 wMul (eV 5) (eV 5)) (e2 wMul (eC (.int 69621)) (eV 5))) (eV 3)) (eC (.int 2147483587))))
      (sRet (e2 wMod (e2 wFdiv (e2 wMod (e2 wMul (eV 5) (e2 wAdd (eV 5) (eC (.int 40692)))) (eC (.int 2147483563))) (eC (.int 64))) (eV 1)))))) [some (.h p), some (.int n), none, some (.int a), some (.int cell), none] (S.set p (.dct (penKv cs (a + 1) l)))).wp ⟨fun _ S' => P .non S', fun _ _ => False, fun _ _ => False, P, fun c fs _ S' => X c fs S'⟩ := by
      intro cell
      have lenE : ∀ T : Sto, lenOf T (.lst (cs.map W.int)) = some cs.length := fun T => by
        show some (cs.map W.int).length = _
        rw [List.length_map]
      have md : ∀ (x b : Int), 0 < b → b < 2 ^ 64 → -(2 ^ 64) < x.fmod b ∧ x.fmod b < 2 ^ 64 := fun x b h0 h1 => by
        have h2 := Int.fmod_nonneg_of_pos x h0
        have h3 := Int.fmod_lt_of_pos x h0
        omega
      walk_at "vc"
      refine wo_ixd hS1 pen_cells ?_
      walk_at "vc"
      refine wo_len (lenE _) ?_
      walk_at "vc"
      have rest : (sSeq (sSet 5 (e2 wAdd (e2 wAdd (e2 wAdd (e2 wMod (eV 4) (eC (.int 2147483629))) (e2 wMul (e2 wMul (eC (.int 31337)) (eV 3)) (eV 3))) (e2 wMul (eC (.int 8191)) (eV 3))) (eC (.int 17))))
          (sSeq (sSet 5 (e2 wMod (e2 wMul (eV 5) (eC (.int 48271))) (eC (.int 2147483647))))
          (sSeq (sSet 5 (e2 wMod (e2 wAdd (e2 wAdd (e2 wMul (eV 5) (eV 5)) (e2 wMul (eC (.int 69621)) (eV 5))) (eV 3)) (eC (.int 2147483587))))
          (sRet (e2 wMod (e2 wFdiv (e2 wMod (e2 wMul (eV 5) (e2 wAdd (eV 5) (eC (.int 40692)))) (eC (.int 2147483563))) (eC (.int 64))) (eV 1))))) [some (.h p), some (.int n), none, some (.int a), some (.int cell), none] (S.set p (.dct (penKv cs (a + 1) l)))).wp ⟨fun _ S' => P .non S', fun _ _ => False, fun _ _ => False, P, fun c fs _ S' => X c fs S'⟩ := by
        walk_at "vc"
        refine wo_mod (by decide) ?_
        walk_at "vc"
        refine wo_mul (.inl (by decide)) ?_
        walk_at "vc"
        refine wo_mul (.inr ⟨by omega, by omega⟩) ?_
        walk_at "vc"
        refine wo_mul (.inl (by decide)) ?_
        walk_at "vc"
        refine wo_mul (.inr (by decide)) ?_
        walk_at "vc"
        refine wo_mod (by decide) ?_
        walk_at "vc"
        refine wo_mul (.inl (md _ _ (by decide) (by decide))) ?_
        walk_at "vc"
        refine wo_mul (.inl (by decide)) ?_
        walk_at "vc"
        refine wo_mod (by decide) ?_
        walk_at "vc"
        refine wo_mul (.inl (md _ _ (by decide) (by decide))) ?_
        walk_at "vc"
        refine wo_mod (by decide) ?_
        walk_at "vc"
        refine wo_fdiv (by decide) ?_
        walk_at "vc"
        refine wo_mod n0 ?_
        refine fin _ (a + 1) l (by omega) ?_ l0
        have : ((m + 1 : Nat) : Int) = (m : Int) + 1 := rfl
        omega
      refine iteB (fun hl => ?_) (fun hl => ?_)
      · walk_at "vc"
        refine wo_pow (by decide) ?_
        walk_at "vc"
        refine iteB (fun hge => ?_) (fun hge => ?_)
        · walk_at "vc"
          refine wo_pow (by decide) ?_
          walk_at "vc"
          refine wo_fdiv nf ?_
          walk_at "vc"
          refine wp_opS (set_dct hS1 (by show 3 < sizeLine; decide)) ?_
          rw [pen_setLeft, List.set_set]
          walk_at "vc"
          refine wo_pow (by decide) ?_
          walk_at "vc"
          refine wo_mod n0 ?_
          refine fin _ (a + 1) _ (by omega) ?_ (Int.fdiv_nonneg (by have := of_decide_eq_true hge; omega) (by omega))
          have : ((m + 1 : Nat) : Int) = (m : Int) + 1 := rfl
          omega
        · exact rest
      · exact rest
    refine iteB (fun hne => ?_) (fun hne => ?_)
    · walk_at "vc"
      refine wo_ixd hS1 pen_cells ?_
      walk_at "vc"
      refine wo_ixd hS1 pen_cells ?_
      walk_at "vc"
      refine wo_len (n := cs.length) ?_ ?_
      · show some (cs.map W.int).length = _
        rw [List.length_map]
      walk_at "vc"
      have cpos : 0 < cs.length := by
        cases cs with
        | nil => cases hne
        | cons => exact Nat.succ_pos _
      have c1 : (0 : Int) < (cs.length : Nat) := by omega
      refine wo_mod (by omega) ?_
      have h2 := Int.fmod_nonneg_of_pos a c1
      have h3 := Int.fmod_lt_of_pos a c1
      have h4 : (a.fmod (cs.length : Nat)).toNat < cs.length := by omega
      refine wo_ixl (w := .int (cs[(a.fmod (cs.length : Nat)).toNat])) h2 ?_ ?_
      · rw [List.getElem?_map, List.getElem?_eq_getElem h4]
        rfl
      exact tail _
    · refine wp_nil ?_
      exact tail 29
theorem wp_pen {ns : List Int} {P : W → Sto → Prop} {X : XP} (hl : ns.length ≤ 63) (h : ∀ o, IsPen (2 ^ 59) o → P (.h 0) [o]) : (runF 1 b_pen [.scr ns] []).wp P X := by
  refine wp_run ?_
  unfold b_pen
  walk_at "vc"
  have ecut : cutW (ns.map W.int) none (some 63) = ns.map W.int := by
    unfold cutW
    have e : HT.sIx (ns.map W.int).length (ns.map W.int).length (some 63) = (ns.map W.int).length := by
      rw [show (63 : Int) = ((63 : Nat) : Int) from rfl, HT.sIx_nat, List.length_map]
      omega
    rw [e, HT.sIx_none, List.drop_zero, Nat.sub_zero, List.take_length]
  rw [ecut]
  refine wo_list (ws := ns.map W.int) rfl ?_
  walk_at "vc"
  refine ⟨_, rfl, ?_⟩
  walk_at "vc"
  refine ⟨_, rfl, ?_⟩
  walk_at "vc"
  refine ⟨_, rfl, ?_⟩
  walk_at "vc"
  have e : mergeW [] [(kS "cells", W.lst (ns.map W.int)), (kS "at", W.int 0), (kS "left", W.int 0)] = penKv ns 0 0 := merge_new (by show [kS "cells", kS "at", kS "left"].Nodup; decide +kernel)
  exact h _ ⟨ns, 0, 0, congrArg Ob.dct e, by omega, by decide, by omega, hl⟩
end Mi

set_option Elab.async false
set_option linter.all false
set_option maxRecDepth 100000
set_option maxHeartbeats 4000000
namespace Mi
open PySem L2
/-! ### data that can be shown: so large, so deep -/
theorem log2_lt' {m : Nat} (h : m < 2 ^ 1920) : m.log2 < 1920 := by
  by_cases z : m = 0
  · subst z
    decide
  · exact (Nat.log2_lt z).mpr h
structure Gx (b k : Nat) (d : PyData) : Prop where
  sh : d.showable = true
  ls : d.leavesShort 13 = true
  bk : d.bulk ≤ b
  dp : d.depth ≤ k
structure GxAll (b k : Nat) (ds : List PyData) : Prop where
  sh : PyData.showableAll ds = true
  ls : PyData.leavesShortAll 13 ds = true
  bk : PyData.bulkAll ds ≤ b
  dp : PyData.depthAll ds ≤ k
theorem GxAll.nil {k : Nat} : GxAll 0 k [] := ⟨rfl, rfl, Nat.le_refl _, Nat.zero_le _⟩
theorem GxAll.cons {b b' k : Nat} {d : PyData} {ds : List PyData} (h : Gx b k d) (t : GxAll b' k ds) : GxAll (b + 1 + b') k (d :: ds) :=
  ⟨by simp only [PyData.showableAll, h.sh, t.sh, Bool.and_self], by simp only [PyData.leavesShortAll, h.ls, t.ls, Bool.and_self], by
    simp only [PyData.bulkAll]
    have := h.bk
    have := t.bk
    omega, by
    simp only [PyData.depthAll]
    exact Nat.max_le.mpr ⟨h.dp, t.dp⟩⟩
theorem GxAll.of {b k : Nat} : ∀ {ds : List PyData}, (∀ d ∈ ds, Gx b k d) → GxAll ((b + 1) * ds.length) k ds
  | [], _ => ⟨rfl, rfl, Nat.zero_le _, Nat.zero_le _⟩
  | d :: ds, h => by
    have t := GxAll.of fun e he => h e (List.mem_cons_of_mem _ he)
    have := GxAll.cons (h d List.mem_cons_self) t
    rw [List.length_cons, Nat.mul_add, Nat.mul_one, Nat.add_comm]
    exact this
theorem Gx.tup {b k : Nat} {ds : List PyData} (h : GxAll b k ds) : Gx b (k + 1) (.tuple ds) := ⟨by simp only [PyData.showable, h.sh], by simp only [PyData.leavesShort, h.ls], by simp only [PyData.bulk]; exact h.bk, by simp only [PyData.depth]; exact Nat.succ_le_succ h.dp⟩
theorem Gx.lst {b k : Nat} {ds : List PyData} (h : GxAll b k ds) : Gx b (k + 1) (.list ds) := ⟨by simp only [PyData.showable, h.sh], by simp only [PyData.leavesShort, h.ls], by simp only [PyData.bulk]; exact h.bk, by simp only [PyData.depth]; exact Nat.succ_le_succ h.dp⟩
theorem Gx.mono {b b' k k' : Nat} {d : PyData} (h : Gx b k d) (hb : b ≤ b') (hk : k ≤ k') : Gx b' k' d := ⟨h.sh, h.ls, Nat.le_trans h.bk hb, Nat.le_trans h.dp hk⟩
theorem Gx.int {b k : Nat} {i : Int} (h : i.natAbs < 10 ^ 12) : Gx b k (.int i) := by
  have h1 := PyData.shown_int_le h
  refine ⟨?_, ?_, Nat.zero_le _, Nat.zero_le _⟩
  · simp only [PyData.showable, decide_eq_true_eq]
    exact log2_lt' (Nat.lt_trans h (by decide))
  · simp only [PyData.leavesShort, decide_eq_true_eq]
    exact h1
theorem Gx.gx {b k : Nat} {d : PyData} (h : Gx b k d) (hb : b ≤ 2 ^ 20) (hk : k ≤ 60) : gxB d = true := by
  unfold gxB
  simp only [Bool.and_eq_true, decide_eq_true_eq]
  exact ⟨⟨⟨h.sh, h.ls⟩, Nat.le_trans h.bk hb⟩, Nat.le_trans h.dp hk⟩
/-- a value that is data: shown as d, whatever the store -/
def Rp (b k : Nat) (w : W) : Prop := ∃ d, (∀ hd, shwW hd w = some d) ∧ Gx b k d
def RpAll (b k : Nat) (ws : List W) : Prop := ∃ ds, (∀ hd, shwWs hd ws = some ds) ∧ GxAll b k ds
theorem Rp.mono {b b' k k' : Nat} {w : W} (h : Rp b k w) (hb : b ≤ b') (hk : k ≤ k') : Rp b' k' w := by
  obtain ⟨d, h1, h2⟩ := h
  exact ⟨d, h1, h2.mono hb hk⟩
theorem Rp.int {b k : Nat} {i : Int} (h : i.natAbs < 10 ^ 12) : Rp b k (.int i) := ⟨_, fun _ => rfl, Gx.int h⟩
theorem Rp.non {b k : Nat} : Rp b k .non := ⟨_, fun _ => rfl, ⟨rfl, rfl, Nat.zero_le _, Nat.zero_le _⟩⟩
theorem Rp.bl {b k : Nat} {c : Bool} : Rp b k (.bl c) := ⟨_, fun _ => rfl, ⟨rfl, rfl, Nat.zero_le _, Nat.zero_le _⟩⟩
theorem Rp.str {b k : Nat} {x : Str} (h : x.cps.size ≤ b) (h2 : (x.cps.toList.all fun c => decide (c < 16 ^ 8)) = true) : Rp b k (.str x) := ⟨_, fun _ => rfl, ⟨rfl, by simp only [PyData.leavesShort]; exact h2, h, Nat.zero_le _⟩⟩
theorem RpAll.nil {k : Nat} : RpAll 0 k [] := ⟨[], fun _ => rfl, GxAll.nil⟩
theorem RpAll.cons {b b' k : Nat} {w : W} {ws : List W} (h : Rp b k w) (t : RpAll b' k ws) : RpAll (b + 1 + b') k (w :: ws) := by
  obtain ⟨d, h1, h2⟩ := h
  obtain ⟨ds, t1, t2⟩ := t
  refine ⟨d :: ds, fun hd => ?_, .cons h2 t2⟩
  rw [shwWs, h1, Option.bind_some, t1]
  rfl
theorem RpAll.of {b k : Nat} : ∀ {ws : List W}, (∀ w ∈ ws, Rp b k w) → RpAll ((b + 1) * ws.length) k ws
  | [], _ => ⟨[], fun _ => rfl, ⟨rfl, rfl, Nat.zero_le _, Nat.zero_le _⟩⟩
  | w :: ws, h => by
    have t := RpAll.of fun e he => h e (List.mem_cons_of_mem _ he)
    have := RpAll.cons (h w List.mem_cons_self) t
    rw [List.length_cons, Nat.mul_add, Nat.mul_one, Nat.add_comm]
    exact this
theorem RpAll.tup {b k : Nat} {ws : List W} (h : RpAll b k ws) : Rp b (k + 1) (.tup ws) := by
  obtain ⟨ds, h1, h2⟩ := h
  refine ⟨.tuple ds, fun hd => ?_, .tup h2⟩
  rw [shwW, h1]
  rfl
theorem RpAll.lst {b k : Nat} {ws : List W} (h : RpAll b k ws) : Rp b (k + 1) (.lst ws) := by
  obtain ⟨ds, h1, h2⟩ := h
  refine ⟨.list ds, fun hd => ?_, .lst h2⟩
  rw [shwW, h1]
  rfl
theorem GxAll.append {b b' k : Nat} : ∀ {ds es : List PyData}, GxAll b k ds → GxAll b' k es → GxAll (b + b') k (ds ++ es)
  | [], es, h, t => ⟨t.sh, t.ls, Nat.le_trans t.bk (by omega), t.dp⟩
  | d :: ds, es, ⟨s1, s2, s3, s4⟩, t => by
    simp only [PyData.showableAll, PyData.leavesShortAll, Bool.and_eq_true] at s1 s2
    simp only [PyData.bulkAll] at s3
    simp only [PyData.depthAll] at s4
    have := GxAll.append (b := b - (d.bulk + 1)) ⟨s1.2, s2.2, by omega, by omega⟩ t
    refine ⟨?_, ?_, ?_, ?_⟩
    · simp only [List.cons_append, PyData.showableAll, s1.1, this.sh, Bool.and_self]
    · simp only [List.cons_append, PyData.leavesShortAll, s2.1, this.ls, Bool.and_self]
    · have := this.bk
      simp only [List.cons_append, PyData.bulkAll]
      omega
    · have := this.dp
      simp only [List.cons_append, PyData.depthAll]
      omega
theorem shwWs_append {hd : Nat → Option PyData} : ∀ {ws vs : List W} {ds es : List PyData}, shwWs hd ws = some ds → shwWs hd vs = some es → shwWs hd (ws ++ vs) = some (ds ++ es)
  | [], _, _, _, h, h2 => by cases h; exact h2
  | w :: ws, vs, ds, es, h, h2 => by
    rw [shwWs] at h
    obtain ⟨d, e1, e⟩ := Option.bind_eq_some_iff.mp h
    obtain ⟨ds', e2, rfl⟩ := Option.map_eq_some_iff.mp e
    rw [List.cons_append, shwWs, e1, Option.bind_some, shwWs_append e2 h2]
    rfl
theorem RpAll.append {b b' k : Nat} {ws vs : List W} (h : RpAll b k ws) (t : RpAll b' k vs) : RpAll (b + b') k (ws ++ vs) := by
  obtain ⟨ds, h1, h2⟩ := h
  obtain ⟨es, t1, t2⟩ := t
  exact ⟨ds ++ es, fun hd => shwWs_append (h1 hd) (t1 hd), h2.append t2⟩
theorem RpAll.mono {b b' k k' : Nat} {ws : List W} (h : RpAll b k ws) (hb : b ≤ b') (hk : k ≤ k') : RpAll b' k' ws := by
  obtain ⟨ds, h1, h2⟩ := h
  exact ⟨ds, h1, h2.sh, h2.ls, Nat.le_trans h2.bk hb, Nat.le_trans h2.dp hk⟩
/-- what repr tells of data -/
def reprW (w : W) : Str := match shwW (fun _ => none) w with
  | some d => d.shown
  | none => Str.empty
theorem wo_repr {b k : Nat} {S : Sto} {w : W} {P : W → Sto → Prop} {X : XP} (h : Rp b k w) (hb : b ≤ 2 ^ 20) (hk : k ≤ 60) (q : P (.str (reprW w)) S) : (bRepr [w] S).wp P X := by
  obtain ⟨d, h1, h2⟩ := h
  have e : reprW w = d.shown := by
    unfold reprW
    rw [h1]
  unfold bRepr
  dsimp only
  rw [show shw S w = some d from h1 _]
  dsimp only
  rw [if_pos (h2.gx hb hk), ← e]
  exact q
theorem wo_reprH {b k n : Nat} {S : Sto} {ws : List W} {P : W → Sto → Prop} {X : XP} (e : S[n]? = some (.lst ws)) (h : RpAll b k ws) (hb : b ≤ 2 ^ 20) (hk : k ≤ 59) (q : P (.str (reprW (.lst ws))) S) : (bRepr [.h n] S).wp P X := by
  obtain ⟨ds, h1, h2⟩ := h
  have e1 : reprW (.lst ws) = (PyData.list ds).shown := by
    unfold reprW
    rw [shwW, h1]
    rfl
  unfold bRepr
  dsimp only
  have e2 : shw S (.h n) = some (.list ds) := by
    show shwH S 4 n = _
    rw [shwH]
    dsimp only
    rw [e]
    dsimp only
    rw [h1]
    rfl
  rw [e2]
  dsimp only
  rw [if_pos ((Gx.lst h2).gx hb (by omega)), ← e1]
  exact q
/-! ### the built-in type of data -/
def tyD : W → Option String
  | .non => some "NoneType"
  | .bl _ => some "bool"
  | .int _ => some "int"
  | .str _ => some "str"
  | .tup _ => some "tuple"
  | .lst _ => some "list"
  | .dct _ _ => some "dict"
  | _ => none
theorem tyOf_tyD {S : Sto} {w : W} {t : String} (h : tyD w = some t) : tyOf S w = some t := by
  cases w <;> first | exact h | cases h
theorem Rp.ty {b k : Nat} {w : W} (h : Rp b k w) : ∃ t, tyD w = some t := by
  obtain ⟨d, h1, _⟩ := h
  have := h1 (fun _ => none)
  cases w <;> first | exact ⟨_, rfl⟩ | cases this
/-- kinds of data, as isinstance tells them -/
def isInt : W → Bool
  | .int _ => true
  | .bl _ => true
  | _ => false
def isBl : W → Bool
  | .bl _ => true
  | _ => false
def isTup : W → Bool
  | .tup _ => true
  | _ => false
def isTxt : W → Bool
  | .str _ => true
  | _ => false
def isLs : W → Bool
  | .lst _ => true
  | _ => false
def isDc : W → Bool
  | .dct _ _ => true
  | _ => false
section
variable {S : Sto} {w : W} {t : String} {P : W → Sto → Prop} {X : XP}
theorem ofX {kx : KxT} {b : String} (h : tyD w = some t) (q : (bIsi [w, .ty b] S).wp P X) : (bIsX kx [w, .ty b] S).wp P X := by
  cases w <;> first | exact q | cases h
theorem isi_int (h : tyD w = some t) (q : P (.bl (isInt w)) S) : (bIsi [w, .ty "int"] S).wp P X := by
  refine wo_isi (tyOf_tyD h) (by decide) ?_
  cases w <;> cases h <;> exact q
theorem isi_bool (h : tyD w = some t) (q : P (.bl (isBl w)) S) : (bIsi [w, .ty "bool"] S).wp P X := by
  refine wo_isi (tyOf_tyD h) (by decide) ?_
  cases w <;> cases h <;> exact q
theorem isi_tuple (h : tyD w = some t) (q : P (.bl (isTup w)) S) : (bIsi [w, .ty "tuple"] S).wp P X := by
  refine wo_isi (tyOf_tyD h) (by decide) ?_
  cases w <;> cases h <;> exact q
theorem isi_str (h : tyD w = some t) (q : P (.bl (isTxt w)) S) : (bIsi [w, .ty "str"] S).wp P X := by
  refine wo_isi (tyOf_tyD h) (by decide) ?_
  cases w <;> cases h <;> exact q
theorem isi_list (h : tyD w = some t) (q : P (.bl (isLs w)) S) : (bIsi [w, .ty "list"] S).wp P X := by
  refine wo_isi (tyOf_tyD h) (by decide) ?_
  cases w <;> cases h <;> exact q
theorem isi_dict (h : tyD w = some t) (q : P (.bl (isDc w)) S) : (bIsi [w, .ty "dict"] S).wp P X := by
  refine wo_isi (tyOf_tyD h) (by decide) ?_
  cases w <;> cases h <;> exact q
end
/-- values that are data, kind for kind, all the way down -/
theorem ty_of_shw {hd : Nat → Option PyData} {w : W} {d : PyData} (h : shwW (fun _ => none) w = some d) : ∃ t, tyD w = some t := by
  cases w <;> first | exact ⟨_, rfl⟩ | cases h
theorem ty_mem : ∀ {ws : List W} {ds : List PyData} {w : W}, shwWs (fun _ => none) ws = some ds → w ∈ ws → ∃ t, tyD w = some t
  | [], _, _, _, h => absurd h List.not_mem_nil
  | x :: ws, ds, w, e, h => by
    rw [shwWs] at e
    obtain ⟨d, e1, e2⟩ := Option.bind_eq_some_iff.mp e
    obtain ⟨es, e3, _⟩ := Option.map_eq_some_iff.mp e2
    rcases List.mem_cons.mp h with rfl | h
    · exact ty_of_shw (hd := fun _ => none) e1
    · exact ty_mem e3 h
/-- the parts of a tuple, of a list, are data -/
theorem RpAll.uncons {b k : Nat} {w : W} {ws : List W} (h : RpAll b k (w :: ws)) : Rp b k w ∧ RpAll b k ws := by
  obtain ⟨ds, h1, h2⟩ := h
  match ds, h1, h2 with
  | [], h1, _ =>
    have := h1 (fun _ => none)
    rw [shwWs] at this
    obtain ⟨d, _, e⟩ := Option.bind_eq_some_iff.mp this
    obtain ⟨_, _, e⟩ := Option.map_eq_some_iff.mp e
    cases e
  | d :: ds, h1, h2 =>
    have e : ∀ hd, shwW hd w = some d ∧ shwWs hd ws = some ds := fun hd => by
      have := h1 hd
      rw [shwWs] at this
      obtain ⟨d', e1, e⟩ := Option.bind_eq_some_iff.mp this
      obtain ⟨ds', e2, e⟩ := Option.map_eq_some_iff.mp e
      cases e
      exact ⟨e1, e2⟩
    obtain ⟨s1, s2, s3, s4⟩ := h2
    simp only [PyData.showableAll, PyData.leavesShortAll, Bool.and_eq_true] at s1 s2
    simp only [PyData.bulkAll] at s3
    simp only [PyData.depthAll] at s4
    exact ⟨⟨d, fun hd => (e hd).1, s1.1, s2.1, by omega, by omega⟩, ds, fun hd => (e hd).2, s1.2, s2.2, by omega, by omega⟩
theorem RpAll.mem {b k : Nat} : ∀ {ws : List W} {w : W}, RpAll b k ws → w ∈ ws → Rp b k w
  | [], _, _, h => absurd h List.not_mem_nil
  | x :: ws, w, h, hm => by
    rcases List.mem_cons.mp hm with rfl | hm
    · exact h.uncons.1
    · exact h.uncons.2.mem hm
theorem RpAll.len {b k : Nat} {ws : List W} (h : RpAll b k ws) : ws.length ≤ b := by
  obtain ⟨ds, h1, h2⟩ := h
  have e := shwWs_len (h1 (fun _ => none))
  have go : ∀ ds : List PyData, ds.length ≤ PyData.bulkAll ds := by
    intro ds
    induction ds with
    | nil => exact Nat.le_refl _
    | cons d ds ih =>
      simp only [PyData.bulkAll, List.length_cons]
      omega
  have := go ds
  have := h2.bk
  omega
theorem Rp.all {b k : Nat} {ws : List W} (h : Rp b k (.tup ws)) : RpAll b k ws := by
  obtain ⟨d, h1, h2⟩ := h
  have e : ∀ hd, ∃ ds, shwWs hd ws = some ds ∧ .tuple ds = d := fun hd => by
    have := h1 hd
    rw [shwW] at this
    exact Option.map_eq_some_iff.mp this
  obtain ⟨ds, _, rfl⟩ := e (fun _ => none)
  obtain ⟨s1, s2, s3, s4⟩ := h2
  simp only [PyData.showable, PyData.leavesShort, PyData.bulk, PyData.depth] at s1 s2 s3 s4
  refine ⟨ds, fun hd => ?_, s1, s2, s3, by omega⟩
  obtain ⟨ds', e1, e2⟩ := e hd
  cases e2
  exact e1
theorem Rp.allL {b k : Nat} {ws : List W} (h : Rp b k (.lst ws)) : RpAll b k ws := by
  obtain ⟨d, h1, h2⟩ := h
  have e : ∀ hd, ∃ ds, shwWs hd ws = some ds ∧ .list ds = d := fun hd => by
    have := h1 hd
    rw [shwW] at this
    exact Option.map_eq_some_iff.mp this
  obtain ⟨ds, _, rfl⟩ := e (fun _ => none)
  obtain ⟨s1, s2, s3, s4⟩ := h2
  simp only [PyData.showable, PyData.leavesShort, PyData.bulk, PyData.depth] at s1 s2 s3 s4
  refine ⟨ds, fun hd => ?_, s1, s2, s3, by omega⟩
  obtain ⟨ds', e1, e2⟩ := e hd
  cases e2
  exact e1
theorem Rp.part {b k : Nat} {ws : List W} {w : W} (h : Rp b k (.tup ws)) (hm : w ∈ ws) : ∃ t, tyD w = some t := (h.all.mem hm).ty
/-- a comprehension over data that changes nothing -/
theorem wp_lcPure {S : Sto} {X : XP} {i : Nat} {tt : Tv} {e : Ev} {env l : Env} {all : List W} {f : W → Option W} {P : List W → Sto → Prop} (hel : env = l)
    (he : ∀ w ∈ all, AllE (l.set i (some w)) fun env => (tt env S).wp (fun k S2 => if k = true then (e env S2).wp (fun x S3 => S3 = S ∧ f w = some x) noX else S2 = S ∧ f w = none) noX)
    (hl : all.length ≤ 100000) (h : P (all.filterMap f) S) : (lcW (gName i) tt e none all env all [] S).wp P X := by
  refine wp_lcW (fun ws acc S' => S' = S ∧ ∃ pre, all = pre ++ ws ∧ acc = pre.filterMap f) (fun _ _ _ _ => by simp) ?_ ?_ _ _ _ ⟨rfl, [], rfl, rfl⟩
  · rintro w ws acc S' ⟨rfl, pre, e1, rfl⟩
    refine wp_gname ?_
    dsimp only
    have hm : w ∈ all := by rw [e1]; simp
    have hacc : (pre.filterMap f).length < sizeLine := by
      have h1 : (pre.filterMap f).length ≤ pre.length := List.length_filterMap_le _ _
      have h2 : all.length = pre.length + (ws.length + 1) := by rw [e1]; simp
      have h3 : (100000 : Nat) < sizeLine := by decide
      omega
    refine (he w hm _ (by rw [hel])).mono (fun k S2 q => ?_) fun _ _ _ z => z
    revert q
    cases k with
    | true =>
      intro q
      rw [if_pos rfl] at q ⊢
      refine q.mono (fun x S3 q2 => ?_) fun _ _ _ z => z
      obtain ⟨rfl, q3⟩ := q2
      exact ⟨hacc, rfl, pre ++ [w], by rw [e1]; simp, by rw [List.filterMap_append]; simp [q3]⟩
    | false =>
      intro q
      rw [if_neg Bool.false_ne_true] at q ⊢
      obtain ⟨rfl, q3⟩ := q
      exact ⟨rfl, pre ++ [w], by rw [e1]; simp, by rw [List.filterMap_append]; simp [q3]⟩
  · rintro acc S' ⟨rfl, pre, e1, rfl⟩
    rw [List.append_nil] at e1
    subst e1
    exact h
/-! ### what is drawn of a comprehension: data, by draws alone -/
theorem wp_lcDraw {i p c n : Nat} {e : Ev} {all : List W} {env l : Env} {S : Sto} {o : Ob} {m : Nat} {Q : W → Prop} {P : List W → Sto → Prop} {X : XP} (hel : env = l) (hS : S[p]? = some o) (hp : IsPen (m + n * c) o) (hn : n ≤ 1000)
    (he : ∀ (k : Nat) (S : Sto) (o : Ob) (m : Nat) (P : W → Sto → Prop), k < n → S[p]? = some o → IsPen (m + c) o → (∀ w o', Q w → IsPen m o' → P w (S.set p o')) → AllE (l.set i (some (.int (k : Nat)))) fun env => (e env S).wp P noX)
    (h : ∀ ws o', ws.length = n → (∀ w ∈ ws, Q w) → IsPen m o' → P ws (S.set p o')) : (lcW (gName i) tYes e none all env (rangeW 0 n) [] S).wp P X := by
  refine wp_lcW (fun ws acc S' => ∃ (k : Nat) (o' : Ob), k ≤ n ∧ ws = rangeW (k : Nat) (n - k) ∧ acc.length = k ∧ (∀ w ∈ acc, Q w) ∧ S' = S.set p o' ∧ IsPen (m + (n - k) * c) o') (fun _ _ _ _ => by simp) ?_ ?_ _ _ _ ⟨0, o, Nat.zero_le _, rfl, rfl, fun _ h => absurd h List.not_mem_nil, (set_same hS).symm, hp⟩
  · rintro w ws acc S' ⟨k, o', hk, e1, hl, hq, rfl, hp'⟩
    cases hn' : n - k with
    | zero =>
      rw [hn'] at e1
      cases e1
    | succ j =>
      rw [hn', rangeW_succ] at e1
      cases e1
      refine wp_gname ?_
      dsimp only
      refine wp_tyes (iteB (fun _ => ?_) (fun z => by cases z))
      refine he k _ o' (m + j * c) _ (by omega) (at_set hS) (by rw [hn', Nat.succ_mul, ← Nat.add_assoc] at hp'; exact hp') (fun w o2 hw hp2 => ?_) _ (by rw [hel])
      refine ⟨by rw [hl]; exact Nat.lt_of_lt_of_le (by omega) (by decide : 1001 ≤ sizeLine), k + 1, o2, by omega, by rw [show n - (k + 1) = j from by omega]; rfl, by simp [hl], ?_, by rw [List.set_set], by rw [show n - (k + 1) = j from by omega]; exact hp2⟩
      intro x hx
      rcases List.mem_append.mp hx with hx | hx
      · exact hq x hx
      · rw [List.mem_singleton.mp hx]
        exact hw
  · rintro acc S' ⟨k, o', hk, e1, hl, hq, rfl, hp'⟩
    have : n - k = 0 := by
      cases hn' : n - k with
      | zero => rfl
      | succ j =>
        rw [hn', rangeW_succ] at e1
        cases e1
    have : k = n := by omega
    subst this
    exact h acc o' hl hq (hp'.mono (by omega))
end Mi

set_option Elab.async false
set_option linter.all false
set_option maxRecDepth 100000
set_option maxHeartbeats 16000000
namespace Mi.L26
open PySem L2 Mi
def top (i : Nat) : Stmt := PySem.Challenge.pw_farcalls_k26_letters_refused.main.body.getD i (.Pass ⟨0, 0, 0, 0⟩)
abbrev s_BadPlan_init : Stmt := inClass (top 2) 0
abbrev N_BadPlan_init : List Str := ["self", "at", "word"]
theorem sc_BadPlan_init : FnScope N_BadPlan_init ["self", "at", "word"] (defScope s_BadPlan_init) := ⟨rfl, rfl, rfl, by decide +kernel, rfl, by decide +kernel, by decide +kernel⟩
abbrev s_BadArgs_init : Stmt := inClass (top 3) 0
abbrev N_BadArgs_init : List Str := ["self", "asked"]
theorem sc_BadArgs_init : FnScope N_BadArgs_init ["self", "asked"] (defScope s_BadArgs_init) := ⟨rfl, rfl, rfl, by decide +kernel, rfl, by decide +kernel, by decide +kernel⟩
abbrev s_BadText_init : Stmt := inClass (top 4) 0
abbrev N_BadText_init : List Str := ["self", "row"]
theorem sc_BadText_init : FnScope N_BadText_init ["self", "row"] (defScope s_BadText_init) := ⟨rfl, rfl, rfl, by decide +kernel, rfl, by decide +kernel, by decide +kernel⟩
abbrev s_NoLetter_init : Stmt := inClass (top 5) 0
abbrev N_NoLetter_init : List Str := ["self", "asked"]
theorem sc_NoLetter_init : FnScope N_NoLetter_init ["self", "asked"] (defScope s_NoLetter_init) := ⟨rfl, rfl, rfl, by decide +kernel, rfl, by decide +kernel, by decide +kernel⟩
abbrev s_is_whole : Stmt := top 7
abbrev N_is_whole : List Str := ["thing"]
theorem sc_is_whole : FnScope N_is_whole ["thing"] (defScope s_is_whole) := ⟨rfl, rfl, rfl, by decide +kernel, rfl, by decide +kernel, by decide +kernel⟩
abbrev s_is_count : Stmt := top 10
abbrev N_is_count : List Str := ["thing"]
theorem sc_is_count : FnScope N_is_count ["thing"] (defScope s_is_count) := ⟨rfl, rfl, rfl, by decide +kernel, rfl, by decide +kernel, by decide +kernel⟩
abbrev s_is_letter : Stmt := top 11
abbrev N_is_letter : List Str := ["thing", "word", "first", "rows", "heard", "row"]
theorem sc_is_letter : FnScope N_is_letter ["thing"] (defScope s_is_letter) := ⟨rfl, rfl, rfl, by decide +kernel, rfl, by decide +kernel, by decide +kernel⟩
abbrev s_Wire_init : Stmt := inClass (top 12) 0
abbrev N_Wire_init : List Str := ["self"]
theorem sc_Wire_init : FnScope N_Wire_init ["self"] (defScope s_Wire_init) := ⟨rfl, rfl, rfl, by decide +kernel, rfl, by decide +kernel, by decide +kernel⟩
abbrev s_Wire_eq : Stmt := inClass (top 12) 1
abbrev N_Wire_eq : List Str := ["self", "other"]
theorem sc_Wire_eq : FnScope N_Wire_eq ["self", "other"] (defScope s_Wire_eq) := ⟨rfl, rfl, rfl, by decide +kernel, rfl, by decide +kernel, by decide +kernel⟩
abbrev s_Wire_len : Stmt := inClass (top 12) 2
abbrev N_Wire_len : List Str := ["self"]
theorem sc_Wire_len : FnScope N_Wire_len ["self"] (defScope s_Wire_len) := ⟨rfl, rfl, rfl, by decide +kernel, rfl, by decide +kernel, by decide +kernel⟩
abbrev s_Wire_put : Stmt := inClass (top 12) 3
abbrev N_Wire_put : List Str := ["self", "row"]
theorem sc_Wire_put : FnScope N_Wire_put ["self", "row"] (defScope s_Wire_put) := ⟨rfl, rfl, rfl, by decide +kernel, rfl, by decide +kernel, by decide +kernel⟩
abbrev s_Wire_letter : Stmt := inClass (top 12) 4
abbrev N_Wire_letter : List Str := ["self"]
theorem sc_Wire_letter : FnScope N_Wire_letter ["self"] (defScope s_Wire_letter) := ⟨rfl, rfl, rfl, by decide +kernel, rfl, by decide +kernel, by decide +kernel⟩
abbrev s_Wire_take : Stmt := inClass (top 12) 5
abbrev N_Wire_take : List Str := ["self", "letter", "word", "first", "rows", "heard", "found"]
theorem sc_Wire_take : FnScope N_Wire_take ["self", "letter"] (defScope s_Wire_take) := ⟨rfl, rfl, rfl, by decide +kernel, rfl, by decide +kernel, by decide +kernel⟩
abbrev s_Wire_heard : Stmt := inClass (top 12) 7
abbrev N_Wire_heard : List Str := ["self"]
theorem sc_Wire_heard : FnScope N_Wire_heard ["self"] (defScope s_Wire_heard) := ⟨rfl, rfl, rfl, by decide +kernel, rfl, by decide +kernel, by decide +kernel⟩
abbrev s_Wire_unheard : Stmt := inClass (top 12) 8
abbrev N_Wire_unheard : List Str := ["self"]
theorem sc_Wire_unheard : FnScope N_Wire_unheard ["self"] (defScope s_Wire_unheard) := ⟨rfl, rfl, rfl, by decide +kernel, rfl, by decide +kernel, by decide +kernel⟩
abbrev s_l_pen : Stmt := top 14
abbrev N_l_pen : List Str := ["_law_script"]
theorem sc_l_pen : FnScope N_l_pen ["_law_script"] (defScope s_l_pen) := ⟨rfl, rfl, rfl, by decide +kernel, rfl, by decide +kernel, by decide +kernel⟩
abbrev s_l_draw : Stmt := top 15
abbrev N_l_draw : List Str := ["_law_pen_here", "_law_many", "_law_digit", "_law_at", "_law_cell", "_law_number"]
theorem sc_l_draw : FnScope N_l_draw ["_law_pen_here", "_law_many"] (defScope s_l_draw) := ⟨rfl, rfl, rfl, by decide +kernel, rfl, by decide +kernel, by decide +kernel⟩
abbrev s_l_pick : Stmt := top 16
abbrev N_l_pick : List Str := ["_law_pen_here", "_law_some"]
theorem sc_l_pick : FnScope N_l_pick ["_law_pen_here", "_law_some"] (defScope s_l_pick) := ⟨rfl, rfl, rfl, by decide +kernel, rfl, by decide +kernel, by decide +kernel⟩
abbrev s_l_plain : Stmt := top 17
abbrev N_l_plain : List Str := ["_law_pen_here", "_law_some"]
theorem sc_l_plain : FnScope N_l_plain ["_law_pen_here"] (defScope s_l_plain) := ⟨rfl, rfl, rfl, by decide +kernel, rfl, by decide +kernel, by decide +kernel⟩
abbrev s_l_row_of : Stmt := top 18
abbrev N_l_row_of : List Str := ["_law_pen_here", "_law_k"]
theorem sc_l_row_of : FnScope N_l_row_of ["_law_pen_here"] (defScope s_l_row_of) := ⟨rfl, rfl, rfl, by decide +kernel, rfl, by decide +kernel, by decide +kernel⟩
abbrev s_l_end : Stmt := top 19
abbrev N_l_end : List Str := []
theorem sc_l_end : FnScope N_l_end [] (defScope s_l_end) := ⟨rfl, rfl, rfl, by decide +kernel, rfl, by decide +kernel, by decide +kernel⟩
abbrev s_l_letter_of : Stmt := top 20
abbrev N_l_letter_of : List Str := ["_law_end_here"]
theorem sc_l_letter_of : FnScope N_l_letter_of ["_law_end_here"] (defScope s_l_letter_of) := ⟨rfl, rfl, rfl, by decide +kernel, rfl, by decide +kernel, by decide +kernel⟩
abbrev s_l_fresh_by : Stmt := top 21
abbrev N_l_fresh_by : List Str := ["_law_end_here", "_law_letter", "_law_fresh"]
theorem sc_l_fresh_by : FnScope N_l_fresh_by ["_law_end_here", "_law_letter"] (defScope s_l_fresh_by) := ⟨rfl, rfl, rfl, by decide +kernel, rfl, by decide +kernel, by decide +kernel⟩
abbrev s_l_end_right : Stmt := top 22
abbrev N_l_end_right : List Str := ["_law_wire", "_law_end_here", "_law_told", "_law_good"]
theorem sc_l_end_right : FnScope N_l_end_right ["_law_wire", "_law_end_here"] (defScope s_l_end_right) := ⟨rfl, rfl, rfl, by decide +kernel, rfl, by decide +kernel, by decide +kernel⟩
abbrev s_l_odd : Stmt := top 23
abbrev N_l_odd : List Str := ["_law_pen_here", "_law_some"]
theorem sc_l_odd : FnScope N_l_odd ["_law_pen_here"] (defScope s_l_odd) := ⟨rfl, rfl, rfl, by decide +kernel, rfl, by decide +kernel, by decide +kernel⟩
abbrev s_l_is_count : Stmt := top 24
abbrev N_l_is_count : List Str := ["_law_thing"]
theorem sc_l_is_count : FnScope N_l_is_count ["_law_thing"] (defScope s_l_is_count) := ⟨rfl, rfl, rfl, by decide +kernel, rfl, by decide +kernel, by decide +kernel⟩
abbrev s_l_is_letter : Stmt := top 25
abbrev N_l_is_letter : List Str := ["_law_end_here", "_law_thing", "_law_row"]
theorem sc_l_is_letter : FnScope N_l_is_letter ["_law_end_here", "_law_thing"] (defScope s_l_is_letter) := ⟨rfl, rfl, rfl, by decide +kernel, rfl, by decide +kernel, by decide +kernel⟩
abbrev s_l_bent : Stmt := top 26
abbrev N_l_bent : List Str := ["_law_pen_here", "_law_end_here", "_law_letter", "_law_term", "_law_first", "_law_rows", "_law_heard", "_law_odd_here", "_law_number", "_law_some"]
theorem sc_l_bent : FnScope N_l_bent ["_law_pen_here", "_law_end_here", "_law_letter"] (defScope s_l_bent) := ⟨rfl, rfl, rfl, by decide +kernel, rfl, by decide +kernel, by decide +kernel⟩
abbrev s_l_refused : Stmt := top 27
abbrev N_l_refused : List Str := ["_law_wire", "_law_thing", "_law_caught", "e"]
theorem sc_l_refused : FnScope N_l_refused ["_law_wire", "_law_thing"] (defScope s_l_refused) := ⟨rfl, rfl, rfl, by decide +kernel, rfl, by decide +kernel, by decide +kernel⟩
abbrev s_law : Stmt := top 28
abbrev N_law : List Str := ["_law_script", "_law_pen_here", "_law_bout", "_law_wire", "_law_end_here", "_law_k", "_law_rows", "_law_letter", "_law_more", "_law_first", "_law_turn", "_law_thing"]
theorem sc_law : FnScope N_law ["_law_script"] (defScope s_law) := ⟨rfl, rfl, rfl, by decide +kernel, rfl, by decide +kernel, by decide +kernel⟩
end Mi.L26

set_option Elab.async false
set_option linter.all false
set_option maxRecDepth 100000
set_option maxHeartbeats 16000000
namespace Mi.L26
open PySem L2 Mi

def hit_NoLetter : Str → Bool := fun c => decide (c = "NoLetter")
def kx : KxT := fun c w => match w with
  | .fn x => if c = "NoLetter" ∧ x = "BadText" then some false else if c = "NoLetter" ∧ x = "BadPlan" then some false else if c = "NoLetter" ∧ x = "BadArgs" then some false else none
  | .ty x => if c = "NoLetter" ∧ x = "ValueError" then some true else none
  | _ => none
noncomputable def b_l_pen : Sv :=
  (sRet (eDct finDH [((eC (.str "cells")), (eB (bList finL) (aCons (eSl (eV 0) pNone (pSome (eC (.int 63)))) aNil))), ((eC (.str "at")), (eC (.int 0))), ((eC (.str "left")), (eC (.int 0)))]))
noncomputable def m_l_pen : List W → Sto → R W := runF 1 b_l_pen
noncomputable def b_Wire_init : Sv :=
  (sSeq (sFld "Wire" "known" (eV 0) (eC (.int 0)))
  (sSeq (sFld "Wire" "waiting" (eV 0) (eLstH aNil))
  (sFld "Wire" "came" (eV 0) (eC (.int 0)))))
noncomputable def m_Wire_init : List W → Sto → R W := runF 1 b_Wire_init
noncomputable def b_l_end : Sv :=
  (sRet (eDct finDH [((eC (.str "put")), (eLstH aNil)), ((eC (.str "known")), (eC (.int 0))), ((eC (.str "taken")), (eC (.int 0)))]))
noncomputable def m_l_end : List W → Sto → R W := runF 0 b_l_end
noncomputable def b_l_draw : Sv :=
  (sSeq (sIf (tC2 wGt (e2 wIx (eV 0) (eC (.str "left"))) (eC (.int 0)))
    (sSeq (sSet 2 (e2 wMod (e2 wIx (eV 0) (eC (.str "left"))) (eV 1)))
    (sSeq (sSub (eV 0) (eC (.str "left")) (e2 wFdiv (e2 wIx (eV 0) (eC (.str "left"))) (eV 1)))
    (sRet (eV 2))))
    sNil)
  (sSeq (sSet 3 (e2 wIx (eV 0) (eC (.str "at"))))
  (sSeq (sSub (eV 0) (eC (.str "at")) (e2 wAdd (eV 3) (eC (.int 1))))
  (sSeq (sSet 4 (eC (.int 29)))
  (sSeq (sIf (tC2 wNe (e2 wIx (eV 0) (eC (.str "cells"))) (eLst aNil))
    (sSet 4 (e2 wIx (e2 wIx (eV 0) (eC (.str "cells"))) (e2 wMod (eV 3) (eB bLen (aCons (e2 wIx (eV 0) (eC (.str "cells"))) aNil)))))
    sNil)
  (sSeq (sIf (tAnd (tC2 wLt (eV 3) (eB bLen (aCons (e2 wIx (eV 0) (eC (.str "cells"))) aNil))) (tC2 wGe (eB bAbs (aCons (eV 4) aNil)) (e2 wPow (eC (.int 10)) (eC (.int 18)))))
    (sSeq (sSub (eV 0) (eC (.str "left")) (e2 wFdiv (e2 wSub (eB bAbs (aCons (eV 4) aNil)) (e2 wPow (eC (.int 10)) (eC (.int 18)))) (eV 1)))
    (sRet (e2 wMod (e2 wSub (eB bAbs (aCons (eV 4) aNil)) (e2 wPow (eC (.int 10)) (eC (.int 18)))) (eV 1))))
    sNil)
  (sSeq (sSet 5 (e2 wAdd (e2 wAdd (e2 wAdd (e2 wMod (eV 4) (eC (.int 2147483629))) (e2 wMul (e2 wMul (eC (.int 31337)) (eV 3)) (eV 3))) (e2 wMul (eC (.int 8191)) (eV 3))) (eC (.int 17))))
  (sSeq (sSet 5 (e2 wMod (e2 wMul (eV 5) (eC (.int 48271))) (eC (.int 2147483647))))
  (sSeq (sSet 5 (e2 wMod (e2 wAdd (e2 wAdd (e2 wMul (eV 5) (eV 5)) (e2 wMul (eC (.int 69621)) (eV 5))) (eV 3)) (eC (.int 2147483587))))
  (sRet (e2 wMod (e2 wFdiv (e2 wMod (e2 wMul (eV 5) (e2 wAdd (eV 5) (eC (.int 40692)))) (eC (.int 2147483563))) (eC (.int 64))) (eV 1))))))))))))
noncomputable def m_l_draw : List W → Sto → R W := runF 6 b_l_draw
noncomputable def b_l_pick : Sv :=
  (sRet (e2 wIx (eV 1) (eCall 2 m_l_draw [] (aCons (eV 0) (aCons (eB bLen (aCons (eV 1) aNil)) aNil)))))
noncomputable def m_l_pick : List W → Sto → R W := runF 2 b_l_pick
noncomputable def b_l_plain : Sv :=
  (sSeq (sSet 1 (eLst (aCons (eC .non) (aCons (eC (.int 0)) (aCons (eC (.int 1)) (aCons (eCall 2 m_l_draw [] (aCons (eV 0) (aCons (eC (.int 12)) aNil))) (aCons (eCall 2 m_l_pick [] (aCons (eV 0) (aCons (eLst (aCons (eNeg (eC (.int 9))) (aCons (eC (.int 10)) (aCons (eC (.int 99)) (aCons (eC (.int 100)) (aCons (eC (.int 999999999)) (aCons (eNeg (eC (.int 999999999))) aNil))))))) aNil))) aNil)))))))
  (sSeq (sSet 1 (e2 wAdd (eV 1) (eLst (aCons (eCall 2 m_l_pick [] (aCons (eV 0) (aCons (eLst (aCons (eC (.str "a")) (aCons (eC (.str "ab")) (aCons (eC (.str "b")) (aCons (eC (.str "to")) (aCons (eC (.str "zzzzzzzz")) (aCons (eC (.str "odd")) aNil))))))) aNil))) (aCons (eTup (aCons (eC (.int 1)) (aCons (eC (.str "a")) aNil))) (aCons (eTup (aCons (eC (.str "to")) (aCons (eC (.str "a")) aNil))) (aCons (eTup aNil) aNil)))))))
  (sRet (e2 wIx (eV 1) (eCall 2 m_l_draw [] (aCons (eV 0) (aCons (eC (.int 9)) aNil)))))))
noncomputable def m_l_plain : List W → Sto → R W := runF 2 b_l_plain
noncomputable def b_l_row_of : Sv :=
  (sRet (eB bTuple (aCons (eLc0 finL [1] (iRange1 (aCons (eCall 2 m_l_draw [] (aCons (eV 0) (aCons (eC (.int 4)) aNil))) aNil)) (gName 1) tYes (eCall 1 m_l_plain [] (aCons (eV 0) aNil))) aNil)))
noncomputable def m_l_row_of : List W → Sto → R W := runF 2 b_l_row_of
noncomputable def b_Wire_put : Sv :=
  (sSeq (sExpr (eM isLst mAppend (eFld "Wire" "waiting" (eV 0)) (aCons (eV 1) aNil)))
  (sRet (e2 wSub (e2 wAdd (eFld "Wire" "known" (eV 0)) (eB bLen (aCons (eFld "Wire" "waiting" (eV 0)) aNil))) (eC (.int 1)))))
noncomputable def m_Wire_put : List W → Sto → R W := runF 2 b_Wire_put
noncomputable def b_is_whole : Sv :=
  (sRet (eAnd (eB (bIsX kx) (aCons (eV 0) (aCons (eC (.ty "int")) aNil))) (eNot (eB (bIsX kx) (aCons (eV 0) (aCons (eC (.ty "bool")) aNil))))))
noncomputable def m_is_whole : List W → Sto → R W := runF 1 b_is_whole
noncomputable def b_is_count : Sv :=
  (sRet (eAnd (eCall 1 m_is_whole [] (aCons (eV 0) aNil)) (e2 wGe (eV 0) (eC (.int 0)))))
noncomputable def m_is_count : List W → Sto → R W := runF 1 b_is_count
noncomputable def b_is_letter : Sv :=
  (sSeq (sIf (tOr (tNot (tV (eB (bIsX kx) (aCons (eV 0) (aCons (eC (.ty "tuple")) aNil))))) (tOr (tC2 wNe (eB bLen (aCons (eV 0) aNil)) (eC (.int 4))) (tOr (tNot (tV (eB (bIsX kx) (aCons (e2 wIx (eV 0) (eC (.int 0))) (aCons (eC (.ty "str")) aNil))))) (tC2 wNe (e2 wIx (eV 0) (eC (.int 0))) (eC (.str "rows"))))))
    (sRet (eC (.bl false)))
    sNil)
  (sSeq (sAsg (gTup [1, 2, 3, 4]) (eV 0))
  (sSeq (sIf (tOr (tNot (tV (eCall 1 m_is_count [] (aCons (eV 2) aNil)))) (tOr (tNot (tV (eCall 1 m_is_count [] (aCons (eV 4) aNil)))) (tNot (tV (eB (bIsX kx) (aCons (eV 3) (aCons (eC (.ty "tuple")) aNil)))))))
    (sRet (eC (.bl false)))
    sNil)
  (sRet (eB bAll (aCons (eLc0 finL [5] (iVal (eV 3)) (gName 5) tYes (eB (bIsX kx) (aCons (eV 5) (aCons (eC (.ty "tuple")) aNil)))) aNil))))))
noncomputable def m_is_letter : List W → Sto → R W := runF 6 b_is_letter
noncomputable def b_Wire_take : Sv :=
  (sSeq (sIf (tNot (tV (eCall 1 m_is_letter [] (aCons (eV 1) aNil))))
    (sRaise "NoLetter" ["asked"] (aCons (eV 1) aNil))
    sNil)
  (sSeq (sAsg (gTup [2, 3, 4, 5]) (eV 1))
  (sSeq (sIf (tOr (tC2 wGt (eV 3) (eFld "Wire" "came" (eV 0))) (tC2 wGt (eV 5) (e2 wAdd (eFld "Wire" "known" (eV 0)) (eB bLen (aCons (eFld "Wire" "waiting" (eV 0)) aNil)))))
    (sRaise "NoLetter" ["asked"] (aCons (eV 1) aNil))
    sNil)
  (sSeq (sSet 6 (eB (bList finL) (aCons (eSl (eV 4) (pSome (e2 wSub (eFld "Wire" "came" (eV 0)) (eV 3))) pNone) aNil)))
  (sSeq (sFldAug "Wire" "came" wAddI (eV 0) (eB bLen (aCons (eV 6) aNil)))
  (sSeq (sIf (tC2 wGt (eV 5) (eFld "Wire" "known" (eV 0)))
    (sSeq (sFld "Wire" "waiting" (eV 0) (eSl (eFld "Wire" "waiting" (eV 0)) (pSome (e2 wSub (eV 5) (eFld "Wire" "known" (eV 0)))) pNone))
    (sFld "Wire" "known" (eV 0) (eV 5)))
    sNil)
  (sRet (eV 6))))))))
noncomputable def m_Wire_take : List W → Sto → R W := runF 7 b_Wire_take
noncomputable def b_l_fresh_by : Sv :=
  (sSeq (sSet 2 (eSl (eB (bList finL) (aCons (e2 wIx (eV 1) (eC (.int 2))) aNil)) (pSome (eB bMax (aCons (eC (.int 0)) (aCons (e2 wSub (e2 wIx (eV 0) (eC (.str "taken"))) (e2 wIx (eV 1) (eC (.int 1)))) aNil)))) pNone))
  (sSeq (sSub (eV 0) (eC (.str "taken")) (e2 wAdd (e2 wIx (eV 0) (eC (.str "taken"))) (eB bLen (aCons (eV 2) aNil))))
  (sSeq (sSub (eV 0) (eC (.str "known")) (eB bMax (aCons (e2 wIx (eV 0) (eC (.str "known"))) (aCons (e2 wIx (eV 1) (eC (.int 3))) aNil))))
  (sRet (eV 2)))))
noncomputable def m_l_fresh_by : List W → Sto → R W := runF 3 b_l_fresh_by
noncomputable def b_l_odd : Sv :=
  (sSeq (sSet 1 (eLst (aCons (eC .non) (aCons (eC (.bl true)) (aCons (eC (.bl false)) (aCons (eC (.int 0)) (aCons (eNeg (eC (.int 1))) (aCons (eC (.int 7)) (aCons (eC (.int 6)) (aCons (eC (.str "")) (aCons (eC (.str "A")) (aCons (eC (.str "a")) (aCons (eC (.str "0#0")) (aCons (eC (.str "9:0")) (aCons (eTup aNil) (aCons (eLst aNil) (aCons (eDct0 finD) (aCons (eTup (aCons (eC (.str "to")) aNil)) (aCons (eTup (aCons (eC (.str "to")) (aCons (eC (.str "a")) aNil))) (aCons (eC (.str "1:00")) aNil))))))))))))))))))))
  (sSeq (sSet 1 (e2 wAdd (eV 1) (eLst (aCons (eLst (aCons (eTup (aCons (eC (.str "to")) (aCons (eC (.str "0#0")) aNil))) aNil)) (aCons (eDct finD [((eC (.str "a")), (eC (.int 1)))]) (aCons (eTup (aCons (eC (.str "rows")) (aCons (eC (.int 0)) (aCons (eTup aNil) (aCons (eC (.int 0)) aNil))))) (aCons (eC (.str "abcdefghi")) (aCons (e2 wPow (eC (.int 10)) (eC (.int 12))) (aCons (eTup (aCons (eTup aNil) (aCons (eTup aNil) aNil))) (aCons (eLst (aCons (eC (.str "a")) aNil)) aNil))))))))))
  (sRet (eCall 2 m_l_pick [] (aCons (eV 0) (aCons (eV 1) aNil))))))
noncomputable def m_l_odd : List W → Sto → R W := runF 2 b_l_odd
noncomputable def b_l_bent : Sv :=
  (sSeq (sAsg (gTup [3, 4, 5, 6]) (eV 2))
  (sSeq (sSet 7 (eCall 1 m_l_odd [] (aCons (eV 0) aNil)))
  (sSeq (sSet 8 (e2 wIx (eLst (aCons (eC (.bl true)) (aCons (eC (.bl false)) (aCons (eNeg (eC (.int 1))) (aCons (eC (.str "0")) (aCons (eC .non) (aCons (e2 wAdd (e2 wIx (eV 1) (eC (.str "taken"))) (eC (.int 1))) (aCons (e2 wAdd (eB bLen (aCons (e2 wIx (eV 1) (eC (.str "put"))) aNil)) (eC (.int 1))) (aCons (eV 7) aNil))))))))) (eCall 2 m_l_draw [] (aCons (eV 0) (aCons (eC (.int 8)) aNil)))))
  (sSeq (sSet 9 (eLstH (aCons (eTup (aCons (eV 3) (aCons (eV 8) (aCons (eV 5) (aCons (eV 6) aNil))))) (aCons (eTup (aCons (eV 3) (aCons (eV 4) (aCons (eV 5) (aCons (eV 8) aNil))))) (aCons (eTup (aCons (eV 3) (aCons (eV 4) (aCons (eB (bList finL) (aCons (eV 5) aNil)) (aCons (eV 6) aNil))))) aNil)))))
  (sSeq (sExpr (eM isLst mAppend (eV 9) (aCons (eTup (aCons (eCall 2 m_l_pick [] (aCons (eV 0) (aCons (eLst (aCons (eC (.str "row")) (aCons (eC (.str "")) (aCons (eC .non) (aCons (eC (.str "Rows")) (aCons (eC (.int 0)) aNil)))))) aNil))) (aCons (eV 4) (aCons (eV 5) (aCons (eV 6) aNil))))) aNil)))
  (sSeq (sExpr (eM isLst mAppend (eV 9) (aCons (eTup (aCons (eV 3) (aCons (eV 4) (aCons (e2 wAdd (eV 5) (eTup (aCons (eV 7) aNil))) (aCons (eV 6) aNil))))) aNil)))
  (sSeq (sSet 9 (e2 wAdd (eV 9) (eLst (aCons (eSl (eV 2) pNone (pSome (eC (.int 3)))) (aCons (e2 wAdd (eV 2) (eTup (aCons (eC (.int 0)) aNil))) (aCons (eB (bList finL) (aCons (eV 2) aNil)) (aCons (eRev4 (eV 2)) (aCons (eTup (aCons (eV 3) (aCons (eV 4) (aCons (eV 7) (aCons (eV 6) aNil))))) (aCons (eV 7) aNil)))))))))
  (sRet (eCall 2 m_l_pick [] (aCons (eV 0) (aCons (eV 9) aNil)))))))))))
noncomputable def m_l_bent : List W → Sto → R W := runF 10 b_l_bent
noncomputable def b_l_is_count : Sv :=
  (sRet (eAnd (eB (bIsX kx) (aCons (eV 0) (aCons (eC (.ty "int")) aNil))) (eAnd (eNot (eB (bIsX kx) (aCons (eV 0) (aCons (eC (.ty "bool")) aNil)))) (e2 wGe (eV 0) (eC (.int 0))))))
noncomputable def m_l_is_count : List W → Sto → R W := runF 1 b_l_is_count
noncomputable def b_l_is_letter : Sv :=
  (sSeq (sIf (tOr (tNot (tV (eB (bIsX kx) (aCons (eV 1) (aCons (eC (.ty "tuple")) aNil))))) (tOr (tC2 wNe (eB bLen (aCons (eV 1) aNil)) (eC (.int 4))) (tOr (tC2 wNe (e2 wIx (eV 1) (eC (.int 0))) (eC (.str "rows"))) (tNot (tV (eB (bIsX kx) (aCons (e2 wIx (eV 1) (eC (.int 2))) (aCons (eC (.ty "tuple")) aNil))))))))
    (sRet (eC (.bl false)))
    sNil)
  (sSeq (sIf (tOr (tNot (tV (eCall 1 m_l_is_count [] (aCons (e2 wIx (eV 1) (eC (.int 1))) aNil)))) (tOr (tNot (tV (eCall 1 m_l_is_count [] (aCons (e2 wIx (eV 1) (eC (.int 3))) aNil)))) (tC2 wGt (e2 wIx (eV 1) (eC (.int 1))) (e2 wIx (eV 0) (eC (.str "taken"))))))
    (sRet (eC (.bl false)))
    sNil)
  (sRet (eAnd (e2 wLe (e2 wIx (eV 1) (eC (.int 3))) (eB bLen (aCons (e2 wIx (eV 0) (eC (.str "put"))) aNil))) (e2 wEq (eLc0 finL [2] (iVal (e2 wIx (eV 1) (eC (.int 2)))) (gName 2) (tNot (tV (eB (bIsX kx) (aCons (eV 2) (aCons (eC (.ty "tuple")) aNil))))) (eV 2)) (eLst aNil))))))
noncomputable def m_l_is_letter : List W → Sto → R W := runF 3 b_l_is_letter
noncomputable def b_l_refused : Sv :=
  (sSeq (sSet 2 (eC .non))
  (sSeq (sKeep hit_NoLetter 3 2 (sExpr (eMeth "Wire" "take" 2 m_Wire_take [] (eV 0) (aCons (eV 1) aNil))))
  (sSeq (sIf (tOr (tC2 wIs (eV 2) (eC .non)) (tOr (tV (eB (bIsX kx) (aCons (eV 2) (aCons (eTup (aCons (eC (.fn "BadArgs")) (aCons (eC (.fn "BadPlan")) (aCons (eC (.fn "BadText")) aNil)))) aNil)))) (tNot (tV (eB (bIsX kx) (aCons (eV 2) (aCons (eC (.ty "ValueError")) aNil)))))))
    (sRet (eC (.bl false)))
    sNil)
  (sRet (e2 wEq (eB bRepr (aCons (eExf ["NoLetter"] "asked" (eV 2)) aNil)) (eB bRepr (aCons (eV 1) aNil)))))))
noncomputable def m_l_refused : List W → Sto → R W := runF 4 b_l_refused
noncomputable def b_Wire_letter : Sv :=
  (sRet (eTup (aCons (eC (.str "rows")) (aCons (eFld "Wire" "known" (eV 0)) (aCons (eB bTuple (aCons (eFld "Wire" "waiting" (eV 0)) aNil)) (aCons (eFld "Wire" "came" (eV 0)) aNil))))))
noncomputable def m_Wire_letter : List W → Sto → R W := runF 1 b_Wire_letter
noncomputable def b_l_letter_of : Sv :=
  (sRet (eTup (aCons (eC (.str "rows")) (aCons (e2 wIx (eV 0) (eC (.str "known"))) (aCons (eB bTuple (aCons (eSl (e2 wIx (eV 0) (eC (.str "put"))) (pSome (e2 wIx (eV 0) (eC (.str "known")))) pNone) aNil)) (aCons (e2 wIx (eV 0) (eC (.str "taken"))) aNil))))))
noncomputable def m_l_letter_of : List W → Sto → R W := runF 1 b_l_letter_of
noncomputable def b_Wire_heard : Sv :=
  (sRet (eFld "Wire" "came" (eV 0)))
noncomputable def m_Wire_heard : List W → Sto → R W := runF 1 b_Wire_heard
noncomputable def b_Wire_unheard : Sv :=
  (sRet (eB (bList finH) (aCons (eFld "Wire" "waiting" (eV 0)) aNil)))
noncomputable def m_Wire_unheard : List W → Sto → R W := runF 1 b_Wire_unheard
noncomputable def b_Wire_len : Sv :=
  (sRet (eB bLen (aCons (eFld "Wire" "waiting" (eV 0)) aNil)))
noncomputable def m_Wire_len : List W → Sto → R W := runF 1 b_Wire_len
noncomputable def b_l_end_right : Sv :=
  (sSeq (sIf (tOr (tC2 wNe (eB bRepr (aCons (eMeth "Wire" "letter" 1 m_Wire_letter [] (eV 0) aNil) aNil)) (eB bRepr (aCons (eCall 1 m_l_letter_of [] (aCons (eV 1) aNil)) aNil))) (tC2 wNe (eMeth "Wire" "heard" 1 m_Wire_heard [] (eV 0) aNil) (e2 wIx (eV 1) (eC (.str "taken")))))
    (sRet (eC (.bl false)))
    sNil)
  (sSeq (sSet 2 (eMeth "Wire" "unheard" 1 m_Wire_unheard [] (eV 0) aNil))
  (sSeq (sSet 3 (eAnd (e2 wEq (eB bRepr (aCons (eV 2) aNil)) (eB bRepr (aCons (eSl (e2 wIx (eV 1) (eC (.str "put"))) (pSome (e2 wIx (eV 1) (eC (.str "known")))) pNone) aNil))) (e2 wEq (eB (bLenO "Wire" m_Wire_len) (aCons (eV 0) aNil)) (eB bLen (aCons (eV 2) aNil)))))
  (sSeq (sExpr (eM isLst mAppend (eV 2) (aCons (eTup (aCons (eC (.str "more")) aNil)) aNil)))
  (sSeq (sExpr (eM isLst mReverse (eV 2) aNil))
  (sRet (eAnd (eV 3) (e2 wEq (eB bRepr (aCons (eMeth "Wire" "letter" 1 m_Wire_letter [] (eV 0) aNil) aNil)) (eB bRepr (aCons (eCall 1 m_l_letter_of [] (aCons (eV 1) aNil)) aNil))))))))))
noncomputable def m_l_end_right : List W → Sto → R W := runF 4 b_l_end_right
noncomputable def b_law : Sv :=
  (sSeq (sSet 1 (eCall 1 m_l_pen [] (aCons (eV 0) aNil)))
  (sSeq (sFor (iRange1 (aCons (eC (.int 4)) aNil)) (gName 2)
    (sSeq (sPar [3, 4] (aCons (eMake "Wire" 1 m_Wire_init [] aNil) (aCons (eCall 0 m_l_end [] aNil) aNil)))
    (sSeq (sFor (iRange1 (aCons (eCall 2 m_l_draw [] (aCons (eV 1) (aCons (eC (.int 6)) aNil))) aNil)) (gName 5)
      (sSeq (sExpr (eM isLst mAppend (e2 wIx (eV 4) (eC (.str "put"))) (aCons (eCall 1 m_l_row_of [] (aCons (eV 1) aNil)) aNil)))
      (sExpr (eMeth "Wire" "put" 2 m_Wire_put [] (eV 3) (aCons (e2 wIx (e2 wIx (eV 4) (eC (.str "put"))) (eNeg (eC (.int 1)))) aNil)))))
    (sSeq (sSet 6 (eB bTuple (aCons (eLc0 finL [5] (iRange1 (aCons (eCall 2 m_l_draw [] (aCons (eV 1) (aCons (eC (.int 5)) aNil))) aNil)) (gName 5) tYes (eCall 1 m_l_row_of [] (aCons (eV 1) aNil))) aNil)))
    (sSeq (sSet 7 (eTup (aCons (eC (.str "rows")) (aCons (eC (.int 0)) (aCons (eV 6) (aCons (eCall 2 m_l_draw [] (aCons (eV 1) (aCons (e2 wAdd (eB bLen (aCons (e2 wIx (eV 4) (eC (.str "put"))) aNil)) (eC (.int 1))) aNil))) aNil))))))
    (sSeq (sIf (tAnd (tC2 wEq (eCall 2 m_l_draw [] (aCons (eV 1) (aCons (eC (.int 2)) aNil))) (eC (.int 0))) (tC2 wNe (eB bRepr (aCons (eMeth "Wire" "take" 2 m_Wire_take [] (eV 3) (aCons (eV 7) aNil)) aNil)) (eB bRepr (aCons (eCall 2 m_l_fresh_by [] (aCons (eV 4) (aCons (eV 7) aNil))) aNil))))
      (sRet (eC (.bl false)))
      sNil)
    (sSeq (sSet 8 (e2 wAdd (eV 6) (eB bTuple (aCons (eLc0 finL [5] (iRange1 (aCons (eCall 2 m_l_draw [] (aCons (eV 1) (aCons (eC (.int 3)) aNil))) aNil)) (gName 5) tYes (eCall 1 m_l_row_of [] (aCons (eV 1) aNil))) aNil))))
    (sSeq (sSet 9 (eCall 2 m_l_draw [] (aCons (eV 1) (aCons (e2 wAdd (e2 wIx (eV 4) (eC (.str "taken"))) (eC (.int 1))) aNil))))
    (sSeq (sSet 7 (eTup (aCons (eC (.str "rows")) (aCons (eV 9) (aCons (eSl (eV 8) (pSome (eV 9)) pNone) (aCons (e2 wAdd (e2 wIx (eV 4) (eC (.str "known"))) (eCall 2 m_l_draw [] (aCons (eV 1) (aCons (e2 wAdd (e2 wSub (eB bLen (aCons (e2 wIx (eV 4) (eC (.str "put"))) aNil)) (e2 wIx (eV 4) (eC (.str "known")))) (eC (.int 1))) aNil)))) aNil))))))
    (sSeq (sFor (iRange1 (aCons (eC (.int 10)) aNil)) (gName 10)
      (sSeq (sSet 11 (eCall 3 m_l_bent [] (aCons (eV 1) (aCons (eV 4) (aCons (eV 7) aNil)))))
      (sSeq (sIf (tAnd (tV (eB (bIsX kx) (aCons (eV 11) (aCons (eC (.ty "tuple")) aNil)))) (tAnd (tC2 wEq (eB bLen (aCons (eV 11) aNil)) (eC (.int 4))) (tAnd (tV (eB (bIsX kx) (aCons (e2 wIx (eV 11) (eC (.int 2))) (aCons (eC (.ty "tuple")) aNil)))) (tC2 wEq (eCall 2 m_l_draw [] (aCons (eV 1) (aCons (eC (.int 3)) aNil))) (eC (.int 0))))))
        (sSet 11 (eCall 3 m_l_bent [] (aCons (eV 1) (aCons (eV 4) (aCons (eV 11) aNil)))))
        sNil)
      (sIf (tAnd (tNot (tV (eCall 2 m_l_is_letter [] (aCons (eV 4) (aCons (eV 11) aNil))))) (tOr (tNot (tV (eCall 2 m_l_refused [] (aCons (eV 3) (aCons (eV 11) aNil))))) (tNot (tV (eCall 2 m_l_end_right [] (aCons (eV 3) (aCons (eV 4) aNil)))))))
        (sRet (eC (.bl false)))
        sNil))))
    (sIf (tOr (tC2 wNe (eB bRepr (aCons (eMeth "Wire" "take" 2 m_Wire_take [] (eV 3) (aCons (eV 7) aNil)) aNil)) (eB bRepr (aCons (eCall 2 m_l_fresh_by [] (aCons (eV 4) (aCons (eV 7) aNil))) aNil))) (tNot (tV (eCall 2 m_l_end_right [] (aCons (eV 3) (aCons (eV 4) aNil))))))
      (sRet (eC (.bl false)))
      sNil)))))))))))
  (sRet (eC (.bl true)))))
noncomputable def m_law : List W → Sto → R W := runF 12 b_law
end Mi.L26

set_option Elab.async false
set_option linter.all false
set_option maxRecDepth 100000
set_option maxHeartbeats 4000000
namespace Mi.L26
open PySem L2 Mi
local macro_rules | `(tactic| walk_at "v1") => `(tactic| first | with_reducible refine wp_seq ?_ | with_reducible refine wp_set ?_ | with_reducible refine wp_ret ?_ | with_reducible refine wp_if ?_ | with_reducible refine wp_expr ?_ | ((with_reducible apply wp_v); · rfl) | with_reducible refine wp_c ?_ | with_reducible refine wp_2 ?_ | with_reducible refine wp_t2 ?_ | with_reducible refine wp_asB ?_ | with_reducible refine wp_acons ?_ | with_reducible refine wp_anil ?_ | with_reducible refine wp_nil ?_ | with_reducible refine wp_call0 ?_ | with_reducible refine wp_call ?_ | with_reducible refine wp_b ?_ | with_reducible refine wp_tvB ?_ | with_reducible refine wp_tand ?_ | with_reducible refine wp_tor ?_ | with_reducible refine wp_tnot ?_ | with_reducible refine wp_and ?_ | with_reducible refine wp_or ?_ | with_reducible refine wp_not ?_ | with_reducible refine wp_ifE ?_ | with_reducible refine wp_neg ?_ | with_reducible refine wp_tup ?_ | with_reducible refine wp_lst ?_ | with_reducible refine wp_lstH ?_ | with_reducible refine wp_sl ?_ | with_reducible refine wp_pn ?_ | with_reducible refine wp_ps ?_ | with_reducible refine wp_asI ?_ | with_reducible refine wp_meth0 ?_ | with_reducible refine wp_meth ?_ | with_reducible refine wp_make0 ?_ | with_reducible refine wp_make ?_ | with_reducible refine wp_m ?_ | with_reducible refine wp_fld ?_ | with_reducible refine wp_exf ?_ | with_reducible refine wp_frz ?_ | with_reducible refine wp_rev ?_ | with_reducible refine wp_rev4 ?_ | with_reducible refine wp_fmt ?_ | with_reducible refine wp_j0 ?_ | with_reducible refine wp_j1 ?_ | with_reducible refine wp_dct0 ?_ | with_reducible refine wp_pairs0 ?_ | with_reducible refine wp_pairs1 ?_ | with_reducible refine wp_dct ?_ | with_reducible refine wp_finDH ?_ | with_reducible refine wp_finD ?_ | with_reducible refine wp_finL ?_ | with_reducible refine wp_finH ?_ | with_reducible refine wp_retN ?_ | with_reducible refine wp_brk ?_ | with_reducible refine wp_cont ?_ | with_reducible refine wp_asg ?_ | with_reducible refine wp_gname ?_ | with_reducible refine wp_gtup rfl ?_ | with_reducible refine wp_par ?_ | with_reducible refine wp_sfld ?_ | with_reducible refine wp_sfldaug ?_ | with_reducible refine wp_ssub ?_ | with_reducible refine wp_raise ?_ | with_reducible refine wp_keep ?_ | with_reducible refine wp_range1 ?_ | with_reducible refine wp_range2 ?_ | with_reducible refine wp_val ?_ | with_reducible refine wp_for ?_ | with_reducible refine wp_lc ?_ | with_reducible refine wp_tyes ?_ | with_reducible refine wp_ch ?_ | with_reducible refine wp_tch ?_ | with_reducible refine wo_add ?_ | with_reducible refine wo_sub ?_ | with_reducible refine wo_lt ?_ | with_reducible refine wo_le ?_ | with_reducible refine wo_gt ?_ | with_reducible refine wo_ge ?_ | with_reducible refine wo_abs ?_ | ((with_reducible refine wo_eqF ?_ ?_); · rfl) | ((with_reducible refine wo_neF ?_ ?_); · rfl) | with_reducible refine wo_neg ?_ | with_reducible refine wo_slTd ?_ | with_reducible refine wo_slLd ?_ | with_reducible refine wo_slTt ?_ | with_reducible refine wo_slLt ?_ | with_reducible refine wo_slT ?_ | with_reducible refine wo_slL ?_ | with_reducible refine wo_slS ?_ | with_reducible refine wo_trB ?_ | ((with_reducible refine And.intro (a := List.length _ = _) ?_ ?_); · rfl) | ((with_reducible refine And.intro (a := List.length _ ≤ _) ?_ ?_); · exact Nat.le_of_ble_eq_true rfl))
local macro_rules | `(tactic| walk_at "vc") => `(tactic| repeat walk_at "v1")
local macro_rules | `(tactic| walk_at "w1") => `(tactic| first | with_reducible refine wp_seq ?_ | with_reducible refine wp_setE (by assumption) ?_ | with_reducible refine wp_ret ?_ | with_reducible refine wp_if ?_ | with_reducible refine wp_expr ?_ | ((with_reducible refine' wp_vE (by assumption) ?hh ?_); case hh => rfl) | with_reducible refine wp_c ?_ | with_reducible refine wp_2 ?_ | with_reducible refine wp_t2 ?_ | with_reducible refine wp_asB ?_ | with_reducible refine wp_acons ?_ | with_reducible refine wp_anil ?_ | with_reducible refine wp_nil ?_ | with_reducible refine wp_call0 ?_ | with_reducible refine wp_call ?_ | with_reducible refine wp_b ?_ | with_reducible refine wp_tvB ?_ | with_reducible refine wp_tand ?_ | with_reducible refine wp_tor ?_ | with_reducible refine wp_tnot ?_ | with_reducible refine wp_and ?_ | with_reducible refine wp_or ?_ | with_reducible refine wp_not ?_ | with_reducible refine wp_ifE ?_ | with_reducible refine wp_neg ?_ | with_reducible refine wp_tup ?_ | with_reducible refine wp_lst ?_ | with_reducible refine wp_lstH ?_ | with_reducible refine wp_sl ?_ | with_reducible refine wp_pn ?_ | with_reducible refine wp_ps ?_ | with_reducible refine wp_asI ?_ | with_reducible refine wp_meth0 ?_ | with_reducible refine wp_meth ?_ | with_reducible refine wp_make0 ?_ | with_reducible refine wp_make ?_ | with_reducible refine wp_m ?_ | with_reducible refine wp_fld ?_ | with_reducible refine wp_exf ?_ | with_reducible refine wp_frz ?_ | with_reducible refine wp_rev ?_ | with_reducible refine wp_rev4 ?_ | with_reducible refine wp_fmt ?_ | with_reducible refine wp_j0 ?_ | with_reducible refine wp_j1 ?_ | with_reducible refine wp_dct0 ?_ | with_reducible refine wp_pairs0 ?_ | with_reducible refine wp_pairs1 ?_ | with_reducible refine wp_dct ?_ | with_reducible refine wp_finDH ?_ | with_reducible refine wp_finD ?_ | with_reducible refine wp_finL ?_ | with_reducible refine wp_finH ?_ | with_reducible refine wp_retN ?_ | with_reducible refine wp_brk ?_ | with_reducible refine wp_cont ?_ | with_reducible refine wp_asg ?_ | with_reducible refine wp_gnameE (by assumption) ?_ | with_reducible refine wp_gtupE (by assumption) rfl ?_ | with_reducible refine wp_parE (by assumption) ?_ | with_reducible refine wp_sfld ?_ | with_reducible refine wp_sfldaug ?_ | with_reducible refine wp_ssub ?_ | with_reducible refine wp_raise ?_ | with_reducible refine wp_keepE ?_ | with_reducible refine wp_range1 ?_ | with_reducible refine wp_range2 ?_ | with_reducible refine wp_val ?_ | with_reducible refine wp_for ?_ | with_reducible refine wp_lcE (by assumption) ?_ | with_reducible refine wp_tyes ?_ | ((with_reducible refine AllE.of ?_); intro env' he'; dsimp only [List.set, setAll, wipeE, List.map, List.replicate, List.length, List.append, HAppend.hAppend, Append.append] at he') | with_reducible refine wp_ch ?_ | with_reducible refine wp_tch ?_ | with_reducible refine wo_add ?_ | with_reducible refine wo_sub ?_ | with_reducible refine wo_lt ?_ | with_reducible refine wo_le ?_ | with_reducible refine wo_gt ?_ | with_reducible refine wo_ge ?_ | with_reducible refine wo_abs ?_ | ((with_reducible refine wo_eqF ?_ ?_); · rfl) | ((with_reducible refine wo_neF ?_ ?_); · rfl) | with_reducible refine wo_neg ?_ | with_reducible refine wo_slTd ?_ | with_reducible refine wo_slLd ?_ | with_reducible refine wo_slTt ?_ | with_reducible refine wo_slLt ?_ | with_reducible refine wo_slT ?_ | with_reducible refine wo_slL ?_ | with_reducible refine wo_slS ?_ | with_reducible refine wo_trB ?_ | ((with_reducible refine And.intro (a := List.length _ = _) ?_ ?_); · rfl) | ((with_reducible refine And.intro (a := List.length _ ≤ _) ?_ ?_); · exact Nat.le_of_ble_eq_true rfl))
local macro_rules | `(tactic| walk_at "wc") => `(tactic| repeat walk_at "w1")
local macro_rules | `(tactic| walk_at "j1") => `(tactic| first | with_reducible refine wp_seq ?_ | with_reducible refine wp_setE (by assumption) ?_ | with_reducible refine wp_ret ?_ | with_reducible refine wp_expr ?_ | ((with_reducible refine' wp_vE (by assumption) ?hh ?_); case hh => rfl) | with_reducible refine wp_c ?_ | with_reducible refine wp_2 ?_ | with_reducible refine wp_t2 ?_ | with_reducible refine wp_asB ?_ | with_reducible refine wp_acons ?_ | with_reducible refine wp_anil ?_ | with_reducible refine wp_nil ?_ | with_reducible refine wp_call0 ?_ | with_reducible refine wp_call ?_ | with_reducible refine wp_b ?_ | with_reducible refine wp_tvB ?_ | with_reducible refine wp_tand ?_ | with_reducible refine wp_tor ?_ | with_reducible refine wp_tnot ?_ | with_reducible refine wp_and ?_ | with_reducible refine wp_or ?_ | with_reducible refine wp_not ?_ | with_reducible refine wp_ifE ?_ | with_reducible refine wp_neg ?_ | with_reducible refine wp_tup ?_ | with_reducible refine wp_lst ?_ | with_reducible refine wp_lstH ?_ | with_reducible refine wp_sl ?_ | with_reducible refine wp_pn ?_ | with_reducible refine wp_ps ?_ | with_reducible refine wp_asI ?_ | with_reducible refine wp_meth0 ?_ | with_reducible refine wp_meth ?_ | with_reducible refine wp_make0 ?_ | with_reducible refine wp_make ?_ | with_reducible refine wp_m ?_ | with_reducible refine wp_fld ?_ | with_reducible refine wp_exf ?_ | with_reducible refine wp_frz ?_ | with_reducible refine wp_rev ?_ | with_reducible refine wp_rev4 ?_ | with_reducible refine wp_fmt ?_ | with_reducible refine wp_j0 ?_ | with_reducible refine wp_j1 ?_ | with_reducible refine wp_dct0 ?_ | with_reducible refine wp_pairs0 ?_ | with_reducible refine wp_pairs1 ?_ | with_reducible refine wp_dct ?_ | with_reducible refine wp_finDH ?_ | with_reducible refine wp_finD ?_ | with_reducible refine wp_finL ?_ | with_reducible refine wp_finH ?_ | with_reducible refine wp_retN ?_ | with_reducible refine wp_brk ?_ | with_reducible refine wp_cont ?_ | with_reducible refine wp_asg ?_ | with_reducible refine wp_gnameE (by assumption) ?_ | with_reducible refine wp_gtupE (by assumption) rfl ?_ | with_reducible refine wp_parE (by assumption) ?_ | with_reducible refine wp_sfld ?_ | with_reducible refine wp_sfldaug ?_ | with_reducible refine wp_ssub ?_ | with_reducible refine wp_raise ?_ | with_reducible refine wp_keepE ?_ | with_reducible refine wp_range1 ?_ | with_reducible refine wp_range2 ?_ | with_reducible refine wp_val ?_ | with_reducible refine wp_for ?_ | with_reducible refine wp_lcE (by assumption) ?_ | with_reducible refine wp_tyes ?_ | ((with_reducible refine AllE.of ?_); intro env' he'; dsimp only [List.set, setAll, wipeE, List.map, List.replicate, List.length, List.append, HAppend.hAppend, Append.append] at he') | with_reducible refine wp_ch ?_ | with_reducible refine wp_tch ?_ | with_reducible refine wo_add ?_ | with_reducible refine wo_sub ?_ | with_reducible refine wo_lt ?_ | with_reducible refine wo_le ?_ | with_reducible refine wo_gt ?_ | with_reducible refine wo_ge ?_ | with_reducible refine wo_abs ?_ | ((with_reducible refine wo_eqF ?_ ?_); · rfl) | ((with_reducible refine wo_neF ?_ ?_); · rfl) | with_reducible refine wo_neg ?_ | with_reducible refine wo_slTd ?_ | with_reducible refine wo_slLd ?_ | with_reducible refine wo_slTt ?_ | with_reducible refine wo_slLt ?_ | with_reducible refine wo_slT ?_ | with_reducible refine wo_slL ?_ | with_reducible refine wo_slS ?_ | with_reducible refine wo_trB ?_ | ((with_reducible refine And.intro (a := List.length _ = _) ?_ ?_); · rfl) | ((with_reducible refine And.intro (a := List.length _ ≤ _) ?_ ?_); · exact Nat.le_of_ble_eq_true rfl))
local macro_rules | `(tactic| walk_at "wj") => `(tactic| repeat walk_at "j1")
section
variable {S : Sto} {p m : Nat} {o : Ob} {P : W → Sto → Prop} {X : XP}
theorem draw {n : Int} (hS : S[p]? = some o) (hp : IsPen (m + 1) o) (h0 : 0 < n) (h1 : n < 1073741824)
    (h : ∀ (d : Int) (o' : Ob), 0 ≤ d → d < n → IsPen m o' → P (.int d) (S.set p o')) : (m_l_draw [.h p, .int n] S).wp P X := wp_draw hS hp h0 h1 h
theorem pick {ws : List W} (hS : S[p]? = some o) (hp : IsPen (m + 1) o) (h0 : 0 < ws.length) (h1 : ws.length < 1000)
    (h : ∀ (w : W) (o' : Ob), w ∈ ws → IsPen m o' → P w (S.set p o')) : (m_l_pick [.h p, .lst ws] S).wp P X := by
  refine wp_runE ?_
  unfold b_l_pick
  walk_at "wc"
  refine wo_len (n := ws.length) (by rfl) ?_
  walk_at "wc"
  refine draw hS hp (by omega) (by omega) fun d o' d0 d1 hp' => ?_
  have hd : d.toNat < ws.length := by omega
  refine wo_ixl (w := ws[d.toNat]) d0 (List.getElem?_eq_getElem hd) ?_
  exact h _ _ (List.getElem_mem hd) hp'
/-- small data without dicts -/
def Sm (w : W) : Prop := Rp 10 1 w
theorem plain (hS : S[p]? = some o) (hp : IsPen (m + 4) o) (h : ∀ (w : W) (o' : Ob), Sm w → IsPen m o' → P w (S.set p o')) : (m_l_plain [.h p] S).wp P X := by
  refine wp_runE ?_
  unfold b_l_plain
  walk_at "wc"
  refine draw hS hp (by decide) (by decide) fun d o1 d0 d1 hp1 => ?_
  have hS1 := at_set (o' := o1) hS
  walk_at "wc"
  refine pick hS1 hp1 (by decide) (by decide) fun w1 o2 hw1 hp2 => ?_
  have hS2 := at_set (o' := o2) hS1
  walk_at "wc"
  refine pick hS2 hp2 (by decide) (by decide) fun w2 o3 hw2 hp3 => ?_
  have hS3 := at_set (o' := o3) hS2
  walk_at "wc"
  refine wo_catL rfl rfl (by show 9 ≤ sizeLine; decide) ?_
  walk_at "wc"
  refine draw hS3 hp3 (by decide) (by decide) fun e o4 e0 e1 hp4 => ?_
  refine wo_ixlM e0 e1 fun w hw => ?_
  rw [List.set_set, List.set_set, List.set_set]
  refine h w o4 ?_ hp4
  have i1 : ∀ i : Int, i.natAbs < 10 ^ 12 → Sm (.int i) := fun i hi => Rp.int hi
  have s1 : ∀ x : Str, x.cps.size ≤ 10 → (x.cps.toList.all fun c => decide (c < 16 ^ 8)) = true → Sm (.str x) := fun x h1 h2 => Rp.str h1 h2
  have hi : w1 = .int (-9) ∨ w1 = .int 10 ∨ w1 = .int 99 ∨ w1 = .int 100 ∨ w1 = .int 999999999 ∨ w1 = .int (-999999999) := by simpa using hw1
  have hs : w2 = .str "a" ∨ w2 = .str "ab" ∨ w2 = .str "b" ∨ w2 = .str "to" ∨ w2 = .str "zzzzzzzz" ∨ w2 = .str "odd" := by simpa using hw2
  have h1 : Sm w1 := by rcases hi with rfl | rfl | rfl | rfl | rfl | rfl <;> exact i1 _ (by decide)
  have h2 : Sm w2 := by rcases hs with rfl | rfl | rfl | rfl | rfl | rfl <;> exact s1 _ (by decide +kernel) (by decide +kernel)
  simp only [List.cons_append, List.nil_append, List.mem_cons, List.not_mem_nil, or_false] at hw
  rcases hw with rfl | rfl | rfl | rfl | rfl | rfl | rfl | rfl | rfl
  · exact Rp.non
  · exact i1 _ (by decide)
  · exact i1 _ (by decide)
  · exact i1 _ (by omega)
  · exact h1
  · exact h2
  · exact ⟨_, fun _ => rfl, by decide +kernel, by decide +kernel, by decide +kernel, by decide +kernel⟩
  · exact ⟨_, fun _ => rfl, by decide +kernel, by decide +kernel, by decide +kernel, by decide +kernel⟩
  · exact ⟨_, fun _ => rfl, by decide +kernel, by decide +kernel, by decide +kernel, by decide +kernel⟩
/-- a row: a tuple of at most three small worths -/
def RowOk (w : W) : Prop := ∃ ws, w = .tup ws ∧ Rp 33 2 w
theorem row_of (hS : S[p]? = some o) (hp : IsPen (m + 17) o) (h : ∀ (w : W) (o' : Ob), RowOk w → IsPen m o' → P w (S.set p o')) : (m_l_row_of [.h p] S).wp P X := by
  refine wp_runE ?_
  unfold b_l_row_of
  walk_at "wc"
  refine draw hS hp (by decide) (by decide) fun d o1 d0 d1 hp1 => ?_
  walk_at "wc"
  refine ⟨d, rfl, by omega, ?_⟩
  have hS1 := at_set (o' := o1) hS
  have hd : d.toNat * 4 ≤ 16 := by omega
  walk_at "wc"
  refine wp_lcDraw (c := 4) (m := m) (Q := Sm) (by assumption) hS1 (hp1.mono (by omega)) (by omega) (fun k T o m P hk hT hp hP => ?_) fun ws o2 hl hq hp2 => ?_
  · walk_at "wc"
    exact plain hT hp hP
  · walk_at "wc"
    refine wo_tuple (by rfl) ?_
    rw [List.set_set]
    refine h _ o2 ⟨ws, rfl, ?_⟩ hp2
    exact (RpAll.tup (RpAll.of hq)).mono (by rw [hl]; omega) (by decide)
end
end Mi.L26

set_option Elab.async false
set_option linter.all false
set_option maxRecDepth 100000
set_option maxHeartbeats 4000000
namespace Mi.L26
open PySem L2 Mi
local macro_rules | `(tactic| walk_at "v1") => `(tactic| first | with_reducible refine wp_seq ?_ | with_reducible refine wp_set ?_ | with_reducible refine wp_ret ?_ | with_reducible refine wp_if ?_ | with_reducible refine wp_expr ?_ | ((with_reducible apply wp_v); · rfl) | with_reducible refine wp_c ?_ | with_reducible refine wp_2 ?_ | with_reducible refine wp_t2 ?_ | with_reducible refine wp_asB ?_ | with_reducible refine wp_acons ?_ | with_reducible refine wp_anil ?_ | with_reducible refine wp_nil ?_ | with_reducible refine wp_call0 ?_ | with_reducible refine wp_call ?_ | with_reducible refine wp_b ?_ | with_reducible refine wp_tvB ?_ | with_reducible refine wp_tand ?_ | with_reducible refine wp_tor ?_ | with_reducible refine wp_tnot ?_ | with_reducible refine wp_and ?_ | with_reducible refine wp_or ?_ | with_reducible refine wp_not ?_ | with_reducible refine wp_ifE ?_ | with_reducible refine wp_neg ?_ | with_reducible refine wp_tup ?_ | with_reducible refine wp_lst ?_ | with_reducible refine wp_lstH ?_ | with_reducible refine wp_sl ?_ | with_reducible refine wp_pn ?_ | with_reducible refine wp_ps ?_ | with_reducible refine wp_asI ?_ | with_reducible refine wp_meth0 ?_ | with_reducible refine wp_meth ?_ | with_reducible refine wp_make0 ?_ | with_reducible refine wp_make ?_ | with_reducible refine wp_m ?_ | with_reducible refine wp_fld ?_ | with_reducible refine wp_exf ?_ | with_reducible refine wp_frz ?_ | with_reducible refine wp_rev ?_ | with_reducible refine wp_rev4 ?_ | with_reducible refine wp_fmt ?_ | with_reducible refine wp_j0 ?_ | with_reducible refine wp_j1 ?_ | with_reducible refine wp_dct0 ?_ | with_reducible refine wp_pairs0 ?_ | with_reducible refine wp_pairs1 ?_ | with_reducible refine wp_dct ?_ | with_reducible refine wp_finDH ?_ | with_reducible refine wp_finD ?_ | with_reducible refine wp_finL ?_ | with_reducible refine wp_finH ?_ | with_reducible refine wp_retN ?_ | with_reducible refine wp_brk ?_ | with_reducible refine wp_cont ?_ | with_reducible refine wp_asg ?_ | with_reducible refine wp_gname ?_ | with_reducible refine wp_gtup rfl ?_ | with_reducible refine wp_par ?_ | with_reducible refine wp_sfld ?_ | with_reducible refine wp_sfldaug ?_ | with_reducible refine wp_ssub ?_ | with_reducible refine wp_raise ?_ | with_reducible refine wp_keep ?_ | with_reducible refine wp_range1 ?_ | with_reducible refine wp_range2 ?_ | with_reducible refine wp_val ?_ | with_reducible refine wp_for ?_ | with_reducible refine wp_lc ?_ | with_reducible refine wp_tyes ?_ | with_reducible refine wp_ch ?_ | with_reducible refine wp_tch ?_ | with_reducible refine wo_add ?_ | with_reducible refine wo_sub ?_ | with_reducible refine wo_lt ?_ | with_reducible refine wo_le ?_ | with_reducible refine wo_gt ?_ | with_reducible refine wo_ge ?_ | with_reducible refine wo_abs ?_ | ((with_reducible refine wo_eqF ?_ ?_); · rfl) | ((with_reducible refine wo_neF ?_ ?_); · rfl) | with_reducible refine wo_neg ?_ | with_reducible refine wo_slTd ?_ | with_reducible refine wo_slLd ?_ | with_reducible refine wo_slTt ?_ | with_reducible refine wo_slLt ?_ | with_reducible refine wo_slT ?_ | with_reducible refine wo_slL ?_ | with_reducible refine wo_slS ?_ | with_reducible refine wo_trB ?_ | ((with_reducible refine And.intro (a := List.length _ = _) ?_ ?_); · rfl) | ((with_reducible refine And.intro (a := List.length _ ≤ _) ?_ ?_); · exact Nat.le_of_ble_eq_true rfl))
local macro_rules | `(tactic| walk_at "vc") => `(tactic| repeat walk_at "v1")
local macro_rules | `(tactic| walk_at "w1") => `(tactic| first | with_reducible refine wp_seq ?_ | with_reducible refine wp_setE (by assumption) ?_ | with_reducible refine wp_ret ?_ | with_reducible refine wp_if ?_ | with_reducible refine wp_expr ?_ | ((with_reducible refine' wp_vE (by assumption) ?hh ?_); case hh => rfl) | with_reducible refine wp_c ?_ | with_reducible refine wp_2 ?_ | with_reducible refine wp_t2 ?_ | with_reducible refine wp_asB ?_ | with_reducible refine wp_acons ?_ | with_reducible refine wp_anil ?_ | with_reducible refine wp_nil ?_ | with_reducible refine wp_call0 ?_ | with_reducible refine wp_call ?_ | with_reducible refine wp_b ?_ | with_reducible refine wp_tvB ?_ | with_reducible refine wp_tand ?_ | with_reducible refine wp_tor ?_ | with_reducible refine wp_tnot ?_ | with_reducible refine wp_and ?_ | with_reducible refine wp_or ?_ | with_reducible refine wp_not ?_ | with_reducible refine wp_ifE ?_ | with_reducible refine wp_neg ?_ | with_reducible refine wp_tup ?_ | with_reducible refine wp_lst ?_ | with_reducible refine wp_lstH ?_ | with_reducible refine wp_sl ?_ | with_reducible refine wp_pn ?_ | with_reducible refine wp_ps ?_ | with_reducible refine wp_asI ?_ | with_reducible refine wp_meth0 ?_ | with_reducible refine wp_meth ?_ | with_reducible refine wp_make0 ?_ | with_reducible refine wp_make ?_ | with_reducible refine wp_m ?_ | with_reducible refine wp_fld ?_ | with_reducible refine wp_exf ?_ | with_reducible refine wp_frz ?_ | with_reducible refine wp_rev ?_ | with_reducible refine wp_rev4 ?_ | with_reducible refine wp_fmt ?_ | with_reducible refine wp_j0 ?_ | with_reducible refine wp_j1 ?_ | with_reducible refine wp_dct0 ?_ | with_reducible refine wp_pairs0 ?_ | with_reducible refine wp_pairs1 ?_ | with_reducible refine wp_dct ?_ | with_reducible refine wp_finDH ?_ | with_reducible refine wp_finD ?_ | with_reducible refine wp_finL ?_ | with_reducible refine wp_finH ?_ | with_reducible refine wp_retN ?_ | with_reducible refine wp_brk ?_ | with_reducible refine wp_cont ?_ | with_reducible refine wp_asg ?_ | with_reducible refine wp_gnameE (by assumption) ?_ | with_reducible refine wp_gtupE (by assumption) rfl ?_ | with_reducible refine wp_parE (by assumption) ?_ | with_reducible refine wp_sfld ?_ | with_reducible refine wp_sfldaug ?_ | with_reducible refine wp_ssub ?_ | with_reducible refine wp_raise ?_ | with_reducible refine wp_keepE ?_ | with_reducible refine wp_range1 ?_ | with_reducible refine wp_range2 ?_ | with_reducible refine wp_val ?_ | with_reducible refine wp_for ?_ | with_reducible refine wp_lcE (by assumption) ?_ | with_reducible refine wp_tyes ?_ | ((with_reducible refine AllE.of ?_); intro env' he'; dsimp only [List.set, setAll, wipeE, List.map, List.replicate, List.length, List.append, HAppend.hAppend, Append.append] at he') | with_reducible refine wp_ch ?_ | with_reducible refine wp_tch ?_ | with_reducible refine wo_add ?_ | with_reducible refine wo_sub ?_ | with_reducible refine wo_lt ?_ | with_reducible refine wo_le ?_ | with_reducible refine wo_gt ?_ | with_reducible refine wo_ge ?_ | with_reducible refine wo_abs ?_ | ((with_reducible refine wo_eqF ?_ ?_); · rfl) | ((with_reducible refine wo_neF ?_ ?_); · rfl) | with_reducible refine wo_neg ?_ | with_reducible refine wo_slTd ?_ | with_reducible refine wo_slLd ?_ | with_reducible refine wo_slTt ?_ | with_reducible refine wo_slLt ?_ | with_reducible refine wo_slT ?_ | with_reducible refine wo_slL ?_ | with_reducible refine wo_slS ?_ | with_reducible refine wo_trB ?_ | ((with_reducible refine And.intro (a := List.length _ = _) ?_ ?_); · rfl) | ((with_reducible refine And.intro (a := List.length _ ≤ _) ?_ ?_); · exact Nat.le_of_ble_eq_true rfl))
local macro_rules | `(tactic| walk_at "wc") => `(tactic| repeat walk_at "w1")
local macro_rules | `(tactic| walk_at "j1") => `(tactic| first | with_reducible refine wp_seq ?_ | with_reducible refine wp_setE (by assumption) ?_ | with_reducible refine wp_ret ?_ | with_reducible refine wp_expr ?_ | ((with_reducible refine' wp_vE (by assumption) ?hh ?_); case hh => rfl) | with_reducible refine wp_c ?_ | with_reducible refine wp_2 ?_ | with_reducible refine wp_t2 ?_ | with_reducible refine wp_asB ?_ | with_reducible refine wp_acons ?_ | with_reducible refine wp_anil ?_ | with_reducible refine wp_nil ?_ | with_reducible refine wp_call0 ?_ | with_reducible refine wp_call ?_ | with_reducible refine wp_b ?_ | with_reducible refine wp_tvB ?_ | with_reducible refine wp_tand ?_ | with_reducible refine wp_tor ?_ | with_reducible refine wp_tnot ?_ | with_reducible refine wp_and ?_ | with_reducible refine wp_or ?_ | with_reducible refine wp_not ?_ | with_reducible refine wp_ifE ?_ | with_reducible refine wp_neg ?_ | with_reducible refine wp_tup ?_ | with_reducible refine wp_lst ?_ | with_reducible refine wp_lstH ?_ | with_reducible refine wp_sl ?_ | with_reducible refine wp_pn ?_ | with_reducible refine wp_ps ?_ | with_reducible refine wp_asI ?_ | with_reducible refine wp_meth0 ?_ | with_reducible refine wp_meth ?_ | with_reducible refine wp_make0 ?_ | with_reducible refine wp_make ?_ | with_reducible refine wp_m ?_ | with_reducible refine wp_fld ?_ | with_reducible refine wp_exf ?_ | with_reducible refine wp_frz ?_ | with_reducible refine wp_rev ?_ | with_reducible refine wp_rev4 ?_ | with_reducible refine wp_fmt ?_ | with_reducible refine wp_j0 ?_ | with_reducible refine wp_j1 ?_ | with_reducible refine wp_dct0 ?_ | with_reducible refine wp_pairs0 ?_ | with_reducible refine wp_pairs1 ?_ | with_reducible refine wp_dct ?_ | with_reducible refine wp_finDH ?_ | with_reducible refine wp_finD ?_ | with_reducible refine wp_finL ?_ | with_reducible refine wp_finH ?_ | with_reducible refine wp_retN ?_ | with_reducible refine wp_brk ?_ | with_reducible refine wp_cont ?_ | with_reducible refine wp_asg ?_ | with_reducible refine wp_gnameE (by assumption) ?_ | with_reducible refine wp_gtupE (by assumption) rfl ?_ | with_reducible refine wp_parE (by assumption) ?_ | with_reducible refine wp_sfld ?_ | with_reducible refine wp_sfldaug ?_ | with_reducible refine wp_ssub ?_ | with_reducible refine wp_raise ?_ | with_reducible refine wp_keepE ?_ | with_reducible refine wp_range1 ?_ | with_reducible refine wp_range2 ?_ | with_reducible refine wp_val ?_ | with_reducible refine wp_for ?_ | with_reducible refine wp_lcE (by assumption) ?_ | with_reducible refine wp_tyes ?_ | ((with_reducible refine AllE.of ?_); intro env' he'; dsimp only [List.set, setAll, wipeE, List.map, List.replicate, List.length, List.append, HAppend.hAppend, Append.append] at he') | with_reducible refine wp_ch ?_ | with_reducible refine wp_tch ?_ | with_reducible refine wo_add ?_ | with_reducible refine wo_sub ?_ | with_reducible refine wo_lt ?_ | with_reducible refine wo_le ?_ | with_reducible refine wo_gt ?_ | with_reducible refine wo_ge ?_ | with_reducible refine wo_abs ?_ | ((with_reducible refine wo_eqF ?_ ?_); · rfl) | ((with_reducible refine wo_neF ?_ ?_); · rfl) | with_reducible refine wo_neg ?_ | with_reducible refine wo_slTd ?_ | with_reducible refine wo_slLd ?_ | with_reducible refine wo_slTt ?_ | with_reducible refine wo_slLt ?_ | with_reducible refine wo_slT ?_ | with_reducible refine wo_slL ?_ | with_reducible refine wo_slS ?_ | with_reducible refine wo_trB ?_ | ((with_reducible refine And.intro (a := List.length _ = _) ?_ ?_); · rfl) | ((with_reducible refine And.intro (a := List.length _ ≤ _) ?_ ?_); · exact Nat.le_of_ble_eq_true rfl))
local macro_rules | `(tactic| walk_at "wj") => `(tactic| repeat walk_at "j1")
def isWh : W → Bool
  | .int _ => true
  | _ => false
def isCnt : W → Bool
  | .int i => decide (0 ≤ i)
  | _ => false
def isRows : W → Bool
  | .str s => decide (s = "rows")
  | _ => false
def allTup : W → Bool
  | .tup rs => rs.all isTup
  | _ => false
def letB : W → Bool
  | .tup [a, b, c, d] => isRows a && isCnt b && isCnt d && allTup c
  | _ => false
section
variable {S : Sto} {w : W} {t : String} {P : W → Sto → Prop} {X : XP}
theorem is_whole (h : tyD w = some t) (q : P (.bl (isWh w)) S) : (m_is_whole [w] S).wp P X := by
  refine wp_run ?_
  unfold b_is_whole
  walk_at "vc"
  refine ofX h (isi_int h ?_)
  walk_at "vc"
  refine iteB (fun hb => ?_) (fun hb => ?_)
  · walk_at "vc"
    refine ofX h (isi_bool h ?_)
    walk_at "vc"
    cases w <;> first | exact q | cases hb
  · cases w <;> first | exact q | cases hb
theorem is_count (h : tyD w = some t) (q : P (.bl (isCnt w)) S) : (m_is_count [w] S).wp P X := by
  refine wp_run ?_
  unfold b_is_count
  walk_at "vc"
  refine is_whole h ?_
  walk_at "vc"
  refine iteB (fun hb => ?_) (fun hb => ?_)
  · walk_at "vc"
    cases w <;> first | cases hb | skip
    walk_at "vc"
    exact q
  · cases w <;> first | exact q | cases hb
theorem l_is_count (h : tyD w = some t) (q : P (.bl (isCnt w)) S) : (m_l_is_count [w] S).wp P X := by
  refine wp_run ?_
  unfold b_l_is_count
  walk_at "vc"
  refine ofX h (isi_int h ?_)
  walk_at "vc"
  refine iteB (fun hb => ?_) (fun hb => ?_)
  · walk_at "vc"
    refine ofX h (isi_bool h ?_)
    walk_at "vc"
    refine iteB (fun hc => ?_) (fun hc => ?_)
    · walk_at "vc"
      cases w <;> first | cases hb | skip
      · cases hc
      · walk_at "vc"
        exact q
    · cases w <;> first | cases hb | skip
      · exact q
      · cases hc
  · cases w <;> first | exact q | cases hb
theorem blsOf_isTup (rs : List W) : blsOf (rs.filterMap fun w => some (W.bl (isTup w))) = some (rs.map isTup) := by
  rw [show (rs.filterMap fun w => some (W.bl (isTup w))) = (rs.map isTup).map W.bl from by simp [List.filterMap_eq_map]]
  exact blsOf_map _
theorem four {ws : List W} (h : ws.length = 4) : ∃ a b c d, ws = [a, b, c, d] := by
  match ws, h with
  | [a, b, c, d], _ => exact ⟨a, b, c, d, rfl⟩
theorem letB_len {ws : List W} (h : ws.length ≠ 4) : letB (.tup ws) = false := by
  unfold letB
  split
  · rename_i e
    cases e
    exact absurd rfl h
  · rfl
theorem len4 {ws : List W} : (!eqF (.int (ws.length : Nat)) (.int 4)) = true ↔ ws.length ≠ 4 := by
  show (!((ws.length : Int) == 4)) = true ↔ _
  simp
  omega
theorem is_letter {b k : Nat} (h : Rp b k w) (hl : b ≤ 100000) (q : P (.bl (letB w)) S) : (m_is_letter [w] S).wp P X := by
  obtain ⟨t, ht⟩ := h.ty
  refine wp_run ?_
  unfold b_is_letter
  walk_at "vc"
  refine ofX ht (isi_tuple ht ?_)
  walk_at "vc"
  refine iteB (fun hb => ?_) (fun hb => ?_)
  · refine iteB (fun _ => ?_) (fun z => by cases z)
    walk_at "vc"
    cases w <;> first | exact q | cases hb
  cases w <;> first | cases hb | skip
  rename_i ws
  walk_at "vc"
  refine wo_len (n := ws.length) (by rfl) ?_
  walk_at "vc"
  refine iteB (fun hb => ?_) (fun hb => ?_)
  · refine iteB (fun _ => ?_) (fun z => by cases z)
    walk_at "vc"
    rw [letB_len (len4.mp hb)] at q
    exact q
  have h4 : ws.length = 4 := Classical.byContradiction fun z => by rw [len4.mpr z] at hb; cases hb
  obtain ⟨a, b', c, d, rfl⟩ := four h4
  obtain ⟨ta, hta⟩ := h.part (w := a) (by simp)
  obtain ⟨tb, htb⟩ := h.part (w := b') (by simp)
  obtain ⟨tc, htc⟩ := h.part (w := c) (by simp)
  obtain ⟨td, htd⟩ := h.part (w := d) (by simp)
  have q' : P (.bl (isRows a && isCnt b' && isCnt d && allTup c)) S := q
  walk_at "vc"
  refine wo_ixt (w := a) (by decide) rfl ?_
  walk_at "vc"
  refine ofX hta (isi_str hta ?_)
  walk_at "vc"
  refine iteB (fun hb => ?_) (fun hb => ?_)
  · refine iteB (fun _ => ?_) (fun z => by cases z)
    walk_at "vc"
    cases a <;> first | exact q' | cases hb
  walk_at "vc"
  refine wo_ixt (w := a) (by decide) rfl ?_
  cases a <;> first | cases hb | skip
  rename_i s
  walk_at "vc"
  refine iteB (fun hb => ?_) (fun hb => ?_)
  · walk_at "vc"
    have : isRows (.str s) = false := by
      show decide (s = "rows") = false
      rw [decide_eq_false_iff_not]
      rintro rfl
      cases hb
    rw [this] at q'
    exact q'
  have hs : isRows (.str s) = true := by
    show decide (s = "rows") = true
    rw [decide_eq_true_iff]
    have : (s == ("rows" : Str)) = true := by
      cases e : (s == ("rows" : Str)) with
      | true => rfl
      | false => 
        have hb' : (!(s == ("rows" : Str))) = false := hb
        rw [e] at hb'
        cases hb'
    exact eq_of_beq this
  rw [hs, Bool.true_and] at q'
  walk_at "vc"
  refine is_count htb ?_
  walk_at "vc"
  refine iteB (fun hb => ?_) (fun hb => ?_)
  · refine iteB (fun _ => ?_) (fun z => by cases z)
    walk_at "vc"
    rw [Bool.not_eq_true'] at hb
    rw [hb] at q'
    exact q'
  rw [Bool.not_eq_false'] at hb
  rw [hb, Bool.true_and] at q'
  walk_at "vc"
  refine is_count htd ?_
  walk_at "vc"
  refine iteB (fun hb => ?_) (fun hb => ?_)
  · refine iteB (fun _ => ?_) (fun z => by cases z)
    walk_at "vc"
    rw [Bool.not_eq_true'] at hb
    rw [hb] at q'
    exact q'
  rw [Bool.not_eq_false'] at hb
  rw [hb, Bool.true_and] at q'
  walk_at "vc"
  refine ofX htc (isi_tuple htc ?_)
  walk_at "vc"
  refine iteB (fun hb => ?_) (fun hb => ?_)
  · walk_at "vc"
    cases c <;> first | exact q' | cases hb
  cases c <;> first | cases hb | skip
  rename_i rs
  walk_at "vc"
  refine wp_ok ?_
  walk_at "vc"
  have hrs : Rp b k (.tup rs) := h.all.mem (by simp)
  have hr : rs.length ≤ 100000 := Nat.le_trans hrs.all.len hl
  refine wp_lcPure rfl (f := fun w => some (.bl (isTup w))) (fun w hw => ?_) hr ?_
  · obtain ⟨tw, htw⟩ := hrs.part hw
    intro env' he'
    subst he'
    walk_at "vc"
    refine iteB (fun _ => ?_) (fun z => by cases z)
    walk_at "vc"
    refine ofX htw (isi_tuple htw ?_)
    exact ⟨rfl, rfl⟩
  · walk_at "vc"
    refine wp_opR (k := .bl (rs.all isTup)) ?_ q'
    show ((blsOf (rs.filterMap fun w => some (W.bl (isTup w)))).map fun bs => W.bl (bs.all id)) = _
    rw [blsOf_isTup, Option.map_some, List.all_map]
    rfl
end
/-! ### the ends: a wire, and what this law knows of it -/
/-- what a wire and an end are: put, known, taken -/
structure St2 (S : Sto) (hw he hp : Nat) (put : List W) (k c : Nat) : Prop where
  le : k ≤ put.length
  w : ∃ ww, S[hw]? = some (.ins "Wire" [("known", .int (k : Nat)), ("waiting", ww), ("came", .int (c : Nat))]) ∧ (ww = .lst (put.drop k) ∨ ∃ hl, ww = .h hl ∧ S[hl]? = some (.lst (put.drop k)))
  e : S[he]? = some (.dct [(kS "put", .h hp), (kS "known", .int (k : Nat)), (kS "taken", .int (c : Nat))])
  p : S[hp]? = some (.lst put)
end Mi.L26

set_option Elab.async false
set_option linter.all false
set_option maxRecDepth 100000
set_option maxHeartbeats 4000000
namespace Mi.L26
open PySem L2 Mi
local macro_rules | `(tactic| walk_at "v1") => `(tactic| first | with_reducible refine wp_seq ?_ | with_reducible refine wp_set ?_ | with_reducible refine wp_ret ?_ | with_reducible refine wp_if ?_ | with_reducible refine wp_expr ?_ | ((with_reducible apply wp_v); · rfl) | with_reducible refine wp_c ?_ | with_reducible refine wp_2 ?_ | with_reducible refine wp_t2 ?_ | with_reducible refine wp_asB ?_ | with_reducible refine wp_acons ?_ | with_reducible refine wp_anil ?_ | with_reducible refine wp_nil ?_ | with_reducible refine wp_call0 ?_ | with_reducible refine wp_call ?_ | with_reducible refine wp_b ?_ | with_reducible refine wp_tvB ?_ | with_reducible refine wp_tand ?_ | with_reducible refine wp_tor ?_ | with_reducible refine wp_tnot ?_ | with_reducible refine wp_and ?_ | with_reducible refine wp_or ?_ | with_reducible refine wp_not ?_ | with_reducible refine wp_ifE ?_ | with_reducible refine wp_neg ?_ | with_reducible refine wp_tup ?_ | with_reducible refine wp_lst ?_ | with_reducible refine wp_lstH ?_ | with_reducible refine wp_sl ?_ | with_reducible refine wp_pn ?_ | with_reducible refine wp_ps ?_ | with_reducible refine wp_asI ?_ | with_reducible refine wp_meth0 ?_ | with_reducible refine wp_meth ?_ | with_reducible refine wp_make0 ?_ | with_reducible refine wp_make ?_ | with_reducible refine wp_m ?_ | with_reducible refine wp_fld ?_ | with_reducible refine wp_exf ?_ | with_reducible refine wp_frz ?_ | with_reducible refine wp_rev ?_ | with_reducible refine wp_rev4 ?_ | with_reducible refine wp_fmt ?_ | with_reducible refine wp_j0 ?_ | with_reducible refine wp_j1 ?_ | with_reducible refine wp_dct0 ?_ | with_reducible refine wp_pairs0 ?_ | with_reducible refine wp_pairs1 ?_ | with_reducible refine wp_dct ?_ | with_reducible refine wp_finDH ?_ | with_reducible refine wp_finD ?_ | with_reducible refine wp_finL ?_ | with_reducible refine wp_finH ?_ | with_reducible refine wp_retN ?_ | with_reducible refine wp_brk ?_ | with_reducible refine wp_cont ?_ | with_reducible refine wp_asg ?_ | with_reducible refine wp_gname ?_ | with_reducible refine wp_gtup rfl ?_ | with_reducible refine wp_par ?_ | with_reducible refine wp_sfld ?_ | with_reducible refine wp_sfldaug ?_ | with_reducible refine wp_ssub ?_ | with_reducible refine wp_raise ?_ | with_reducible refine wp_keep ?_ | with_reducible refine wp_range1 ?_ | with_reducible refine wp_range2 ?_ | with_reducible refine wp_val ?_ | with_reducible refine wp_for ?_ | with_reducible refine wp_lc ?_ | with_reducible refine wp_tyes ?_ | with_reducible refine wp_ch ?_ | with_reducible refine wp_tch ?_ | with_reducible refine wo_add ?_ | with_reducible refine wo_sub ?_ | with_reducible refine wo_lt ?_ | with_reducible refine wo_le ?_ | with_reducible refine wo_gt ?_ | with_reducible refine wo_ge ?_ | with_reducible refine wo_abs ?_ | ((with_reducible refine wo_eqF ?_ ?_); · rfl) | ((with_reducible refine wo_neF ?_ ?_); · rfl) | with_reducible refine wo_neg ?_ | with_reducible refine wo_slTd ?_ | with_reducible refine wo_slLd ?_ | with_reducible refine wo_slTt ?_ | with_reducible refine wo_slLt ?_ | with_reducible refine wo_slT ?_ | with_reducible refine wo_slL ?_ | with_reducible refine wo_slS ?_ | with_reducible refine wo_trB ?_ | ((with_reducible refine And.intro (a := List.length _ = _) ?_ ?_); · rfl) | ((with_reducible refine And.intro (a := List.length _ ≤ _) ?_ ?_); · exact Nat.le_of_ble_eq_true rfl))
local macro_rules | `(tactic| walk_at "vc") => `(tactic| repeat walk_at "v1")
local macro_rules | `(tactic| walk_at "w1") => `(tactic| first | with_reducible refine wp_seq ?_ | with_reducible refine wp_setE (by assumption) ?_ | with_reducible refine wp_ret ?_ | with_reducible refine wp_if ?_ | with_reducible refine wp_expr ?_ | ((with_reducible refine' wp_vE (by assumption) ?hh ?_); case hh => rfl) | with_reducible refine wp_c ?_ | with_reducible refine wp_2 ?_ | with_reducible refine wp_t2 ?_ | with_reducible refine wp_asB ?_ | with_reducible refine wp_acons ?_ | with_reducible refine wp_anil ?_ | with_reducible refine wp_nil ?_ | with_reducible refine wp_call0 ?_ | with_reducible refine wp_call ?_ | with_reducible refine wp_b ?_ | with_reducible refine wp_tvB ?_ | with_reducible refine wp_tand ?_ | with_reducible refine wp_tor ?_ | with_reducible refine wp_tnot ?_ | with_reducible refine wp_and ?_ | with_reducible refine wp_or ?_ | with_reducible refine wp_not ?_ | with_reducible refine wp_ifE ?_ | with_reducible refine wp_neg ?_ | with_reducible refine wp_tup ?_ | with_reducible refine wp_lst ?_ | with_reducible refine wp_lstH ?_ | with_reducible refine wp_sl ?_ | with_reducible refine wp_pn ?_ | with_reducible refine wp_ps ?_ | with_reducible refine wp_asI ?_ | with_reducible refine wp_meth0 ?_ | with_reducible refine wp_meth ?_ | with_reducible refine wp_make0 ?_ | with_reducible refine wp_make ?_ | with_reducible refine wp_m ?_ | with_reducible refine wp_fld ?_ | with_reducible refine wp_exf ?_ | with_reducible refine wp_frz ?_ | with_reducible refine wp_rev ?_ | with_reducible refine wp_rev4 ?_ | with_reducible refine wp_fmt ?_ | with_reducible refine wp_j0 ?_ | with_reducible refine wp_j1 ?_ | with_reducible refine wp_dct0 ?_ | with_reducible refine wp_pairs0 ?_ | with_reducible refine wp_pairs1 ?_ | with_reducible refine wp_dct ?_ | with_reducible refine wp_finDH ?_ | with_reducible refine wp_finD ?_ | with_reducible refine wp_finL ?_ | with_reducible refine wp_finH ?_ | with_reducible refine wp_retN ?_ | with_reducible refine wp_brk ?_ | with_reducible refine wp_cont ?_ | with_reducible refine wp_asg ?_ | with_reducible refine wp_gnameE (by assumption) ?_ | with_reducible refine wp_gtupE (by assumption) rfl ?_ | with_reducible refine wp_parE (by assumption) ?_ | with_reducible refine wp_sfld ?_ | with_reducible refine wp_sfldaug ?_ | with_reducible refine wp_ssub ?_ | with_reducible refine wp_raise ?_ | with_reducible refine wp_keepE ?_ | with_reducible refine wp_range1 ?_ | with_reducible refine wp_range2 ?_ | with_reducible refine wp_val ?_ | with_reducible refine wp_for ?_ | with_reducible refine wp_lcE (by assumption) ?_ | with_reducible refine wp_tyes ?_ | ((with_reducible refine AllE.of ?_); intro env' he'; dsimp only [List.set, setAll, wipeE, List.map, List.replicate, List.length, List.append, HAppend.hAppend, Append.append] at he') | with_reducible refine wp_ch ?_ | with_reducible refine wp_tch ?_ | with_reducible refine wo_add ?_ | with_reducible refine wo_sub ?_ | with_reducible refine wo_lt ?_ | with_reducible refine wo_le ?_ | with_reducible refine wo_gt ?_ | with_reducible refine wo_ge ?_ | with_reducible refine wo_abs ?_ | ((with_reducible refine wo_eqF ?_ ?_); · rfl) | ((with_reducible refine wo_neF ?_ ?_); · rfl) | with_reducible refine wo_neg ?_ | with_reducible refine wo_slTd ?_ | with_reducible refine wo_slLd ?_ | with_reducible refine wo_slTt ?_ | with_reducible refine wo_slLt ?_ | with_reducible refine wo_slT ?_ | with_reducible refine wo_slL ?_ | with_reducible refine wo_slS ?_ | with_reducible refine wo_trB ?_ | ((with_reducible refine And.intro (a := List.length _ = _) ?_ ?_); · rfl) | ((with_reducible refine And.intro (a := List.length _ ≤ _) ?_ ?_); · exact Nat.le_of_ble_eq_true rfl))
local macro_rules | `(tactic| walk_at "wc") => `(tactic| repeat walk_at "w1")
local macro_rules | `(tactic| walk_at "j1") => `(tactic| first | with_reducible refine wp_seq ?_ | with_reducible refine wp_setE (by assumption) ?_ | with_reducible refine wp_ret ?_ | with_reducible refine wp_expr ?_ | ((with_reducible refine' wp_vE (by assumption) ?hh ?_); case hh => rfl) | with_reducible refine wp_c ?_ | with_reducible refine wp_2 ?_ | with_reducible refine wp_t2 ?_ | with_reducible refine wp_asB ?_ | with_reducible refine wp_acons ?_ | with_reducible refine wp_anil ?_ | with_reducible refine wp_nil ?_ | with_reducible refine wp_call0 ?_ | with_reducible refine wp_call ?_ | with_reducible refine wp_b ?_ | with_reducible refine wp_tvB ?_ | with_reducible refine wp_tand ?_ | with_reducible refine wp_tor ?_ | with_reducible refine wp_tnot ?_ | with_reducible refine wp_and ?_ | with_reducible refine wp_or ?_ | with_reducible refine wp_not ?_ | with_reducible refine wp_ifE ?_ | with_reducible refine wp_neg ?_ | with_reducible refine wp_tup ?_ | with_reducible refine wp_lst ?_ | with_reducible refine wp_lstH ?_ | with_reducible refine wp_sl ?_ | with_reducible refine wp_pn ?_ | with_reducible refine wp_ps ?_ | with_reducible refine wp_asI ?_ | with_reducible refine wp_meth0 ?_ | with_reducible refine wp_meth ?_ | with_reducible refine wp_make0 ?_ | with_reducible refine wp_make ?_ | with_reducible refine wp_m ?_ | with_reducible refine wp_fld ?_ | with_reducible refine wp_exf ?_ | with_reducible refine wp_frz ?_ | with_reducible refine wp_rev ?_ | with_reducible refine wp_rev4 ?_ | with_reducible refine wp_fmt ?_ | with_reducible refine wp_j0 ?_ | with_reducible refine wp_j1 ?_ | with_reducible refine wp_dct0 ?_ | with_reducible refine wp_pairs0 ?_ | with_reducible refine wp_pairs1 ?_ | with_reducible refine wp_dct ?_ | with_reducible refine wp_finDH ?_ | with_reducible refine wp_finD ?_ | with_reducible refine wp_finL ?_ | with_reducible refine wp_finH ?_ | with_reducible refine wp_retN ?_ | with_reducible refine wp_brk ?_ | with_reducible refine wp_cont ?_ | with_reducible refine wp_asg ?_ | with_reducible refine wp_gnameE (by assumption) ?_ | with_reducible refine wp_gtupE (by assumption) rfl ?_ | with_reducible refine wp_parE (by assumption) ?_ | with_reducible refine wp_sfld ?_ | with_reducible refine wp_sfldaug ?_ | with_reducible refine wp_ssub ?_ | with_reducible refine wp_raise ?_ | with_reducible refine wp_keepE ?_ | with_reducible refine wp_range1 ?_ | with_reducible refine wp_range2 ?_ | with_reducible refine wp_val ?_ | with_reducible refine wp_for ?_ | with_reducible refine wp_lcE (by assumption) ?_ | with_reducible refine wp_tyes ?_ | ((with_reducible refine AllE.of ?_); intro env' he'; dsimp only [List.set, setAll, wipeE, List.map, List.replicate, List.length, List.append, HAppend.hAppend, Append.append] at he') | with_reducible refine wp_ch ?_ | with_reducible refine wp_tch ?_ | with_reducible refine wo_add ?_ | with_reducible refine wo_sub ?_ | with_reducible refine wo_lt ?_ | with_reducible refine wo_le ?_ | with_reducible refine wo_gt ?_ | with_reducible refine wo_ge ?_ | with_reducible refine wo_abs ?_ | ((with_reducible refine wo_eqF ?_ ?_); · rfl) | ((with_reducible refine wo_neF ?_ ?_); · rfl) | with_reducible refine wo_neg ?_ | with_reducible refine wo_slTd ?_ | with_reducible refine wo_slLd ?_ | with_reducible refine wo_slTt ?_ | with_reducible refine wo_slLt ?_ | with_reducible refine wo_slT ?_ | with_reducible refine wo_slL ?_ | with_reducible refine wo_slS ?_ | with_reducible refine wo_trB ?_ | ((with_reducible refine And.intro (a := List.length _ = _) ?_ ?_); · rfl) | ((with_reducible refine And.intro (a := List.length _ ≤ _) ?_ ?_); · exact Nat.le_of_ble_eq_true rfl))
local macro_rules | `(tactic| walk_at "wj") => `(tactic| repeat walk_at "j1")
def wireF (k : Nat) (ww : W) (c : Nat) : List (Str × W) := [("known", .int (k : Nat)), ("waiting", ww), ("came", .int (c : Nat))]
theorem beq_str {a b : String} : (Str.ofString a == Str.ofString b) = decide (a = b) := by
  by_cases h : a = b
  · subst h
    simp
  · rw [decide_eq_false h]
    rw [beq_eq_false_iff_ne]
    exact fun e => h (ofString_inj.mp e)
section
variable {k c k' c' : Nat} {ww w' : W} {S : Sto} {n : Nat}
theorem f_known : (wireF k ww c).lookup (Str.ofString "known") = some (W.int (k : Nat)) := by simp [wireF, List.lookup]
theorem f_waiting : (wireF k ww c).lookup (Str.ofString "waiting") = some ww := by simp [wireF, List.lookup, beq_str]
theorem f_came : (wireF k ww c).lookup (Str.ofString "came") = some (W.int (c : Nat)) := by simp [wireF, List.lookup, beq_str]
theorem s_known : putFW "known" (.int (k' : Nat)) (wireF k ww c) = wireF k' ww c := by simp [wireF, putFW]
theorem s_waiting : putFW "waiting" w' (wireF k ww c) = wireF k w' c := by simp [wireF, putFW, ofString_inj]
theorem s_came : putFW "came" (.int (c' : Nat)) (wireF k ww c) = wireF k ww c' := by simp [wireF, putFW, ofString_inj]
theorem fld {f : Str} {fs : List (Str × W)} {x : W} (h : S[n]? = some (.ins "Wire" fs)) (hf : fs.lookup f = some x) : fldOf S "Wire" f (.h n) = some x := by
  unfold fldOf
  dsimp only
  rw [h]
  dsimp only
  rw [if_pos rfl, hf]
theorem sfld {f : Str} {fs : List (Str × W)} {y : W} (h : S[n]? = some (.ins "Wire" fs)) (hl : fs.length < 1000) : setFld "Wire" f (.h n) y S = some (S.set n (.ins "Wire" (putFW f y fs))) := by
  unfold setFld
  dsimp only
  rw [h]
  dsimp only
  rw [if_pos ⟨rfl, hl⟩]
theorem wl : (wireF k ww c).length < 1000 := (by decide : 3 < 1000)
end
/-- whether a wire takes a thing -/
def takes (p c : Nat) (w : W) : Bool := match w with
  | .tup [_, .int f, _, .int h] => letB w && decide (f ≤ (c : Nat)) && decide (h ≤ (p : Nat))
  | _ => false
theorem letB_inv {w : W} (h : letB w = true) : ∃ (f h : Nat) (rs : List W), w = .tup [.str "rows", .int (f : Nat), .tup rs, .int (h : Nat)] ∧ rs.all isTup = true := by
  unfold letB at h
  split at h
  · rename_i a b c d
    simp only [Bool.and_eq_true] at h
    obtain ⟨⟨⟨h1, h2⟩, h3⟩, h4⟩ := h
    cases a <;> first | cases h1 | skip
    cases b <;> first | cases h2 | skip
    cases c <;> first | cases h4 | skip
    cases d <;> first | cases h3 | skip
    rename_i s i rs j
    have e1 : s = "rows" := of_decide_eq_true h1
    obtain ⟨f, rfl⟩ := Int.eq_ofNat_of_zero_le (of_decide_eq_true h2 : 0 ≤ i)
    obtain ⟨g, rfl⟩ := Int.eq_ofNat_of_zero_le (of_decide_eq_true h3 : 0 ≤ j)
    exact ⟨f, g, rs, by rw [e1], h4⟩
  · cases h
theorem takes_no {p c : Nat} {w : W} (h : letB w = false) : takes p c w = false := by
  unfold takes
  split
  · rw [h]
    rfl
  · rfl
theorem takes_at {p c f h : Nat} {rs : List W} (hr : rs.all isTup = true) : takes p c (.tup [.str "rows", .int (f : Nat), .tup rs, .int (h : Nat)]) = (decide (f ≤ c) && decide (h ≤ p)) := by
  have e : letB (.tup [.str "rows", .int (f : Nat), .tup rs, .int (h : Nat)]) = true := by
    show (decide ((Str.ofString "rows") = Str.ofString "rows") && decide ((0 : Int) ≤ (f : Nat)) && decide ((0 : Int) ≤ (h : Nat)) && rs.all isTup) = true
    rw [hr, decide_eq_true rfl, decide_eq_true (by omega), decide_eq_true (by omega)]
    rfl
  show (letB _ && decide ((f : Int) ≤ (c : Nat)) && decide ((h : Int) ≤ (p : Nat))) = _
  rw [e, Bool.true_and]
  congr 1 <;> exact decide_eq_decide.mpr (by omega)
section
variable {S : Sto} {n k c : Nat} {ww w : W} {q : List W} {P : W → Sto → Prop} {X : XP} {b kk : Nat}
theorem lenL {x : W} {l : List W} (h : seqL S x = some l) : lenOf S x = some l.length := by
  cases x <;> first | cases h | skip
  · rename_i m
    have := lstAt_eq.mp h
    unfold lenOf
    dsimp only
    rw [this]
  · rfl
theorem slL {x : W} {l : List W} {lo hi : Option Int} (h : seqL S x = some l) : slOf S x lo hi = some (.lst (cutW l lo hi)) := by
  cases x <;> first | cases h | skip
  · rename_i m
    have h' : lstAt S m = some l := h
    unfold slOf
    dsimp only
    rw [h']
    rfl
  · rfl
theorem take_no (hw : S[n]? = some (.ins "Wire" (wireF k ww c))) (hq : seqL S ww = some q) (h : Rp b kk w) (hb : b ≤ 100000) (hno : takes (k + q.length) c w = false)
    (x : X "NoLetter" [("asked", w)] S) : (m_Wire_take [.h n, w] S).wp P X := by
  refine wp_run ?_
  unfold b_Wire_take
  walk_at "vc"
  refine is_letter h hb ?_
  walk_at "vc"
  refine iteB (fun hl => ?_) (fun hl => ?_)
  · walk_at "vc"
    exact x
  · rw [Bool.not_eq_false'] at hl
    obtain ⟨f, g, rs, rfl, hr⟩ := letB_inv hl
    rw [takes_at hr] at hno
    walk_at "vc"
    refine wp_opR (fld hw f_came) ?_
    walk_at "vc"
    refine iteB (fun hf => ?_) (fun hf => ?_)
    · refine iteB (fun _ => ?_) (fun z => by cases z)
      walk_at "vc"
      exact x
    · have hf' : f ≤ c := by
        have := of_decide_eq_false hf
        omega
      rw [decide_eq_true hf', Bool.true_and, decide_eq_false_iff_not] at hno
      walk_at "vc"
      refine wp_opR (fld hw f_known) ?_
      walk_at "vc"
      refine wp_opR (fld hw f_waiting) ?_
      walk_at "vc"
      refine wo_len (lenL hq) ?_
      walk_at "vc"
      refine iteB (fun _ => ?_) (fun z => ?_)
      · walk_at "vc"
        exact x
      · have := of_decide_eq_false z
        omega
theorem take_ok {f g : Nat} {rs : List W} (hw : S[n]? = some (.ins "Wire" (wireF k ww c))) (hq : seqL S ww = some q) (hr : rs.all isTup = true) (h : Rp b kk (.tup [.str "rows", .int (f : Nat), .tup rs, .int (g : Nat)])) (hb : b ≤ 100000) (hf : f ≤ c) (hg : g ≤ k + q.length)
    (x : P (.lst (rs.drop (c - f))) (S.set n (.ins "Wire" (if k < g then wireF g (.lst (q.drop (g - k))) (c + (rs.length - (c - f))) else wireF k ww (c + (rs.length - (c - f))))))) : (m_Wire_take [.h n, .tup [.str "rows", .int (f : Nat), .tup rs, .int (g : Nat)]] S).wp P X := by
  refine wp_run ?_
  unfold b_Wire_take
  walk_at "vc"
  refine is_letter h hb ?_
  walk_at "vc"
  have e : letB (.tup [.str "rows", .int (f : Nat), .tup rs, .int (g : Nat)]) = true := by
    show (decide ((Str.ofString "rows") = Str.ofString "rows") && decide ((0 : Int) ≤ (f : Nat)) && decide ((0 : Int) ≤ (g : Nat)) && rs.all isTup) = true
    rw [hr, decide_eq_true rfl, decide_eq_true (by omega), decide_eq_true (by omega)]
    rfl
  rw [e]
  refine iteB (fun z => by cases z) (fun _ => ?_)
  walk_at "vc"
  refine wp_opR (fld hw f_came) ?_
  walk_at "vc"
  refine iteB (fun z => ?_) (fun _ => ?_)
  · have := of_decide_eq_true z
    omega
  walk_at "vc"
  refine wp_opR (fld hw f_known) ?_
  walk_at "vc"
  refine wp_opR (fld hw f_waiting) ?_
  walk_at "vc"
  refine wo_len (lenL hq) ?_
  walk_at "vc"
  refine iteB (fun z => ?_) (fun _ => ?_)
  · have := of_decide_eq_true z
    omega
  walk_at "vc"
  refine wp_opR (fld hw f_came) ?_
  walk_at "vc"
  have e2 : ((c : Nat) : Int) - (f : Nat) = ((c - f : Nat) : Int) := by omega
  rw [e2, cut_drop]
  refine wo_list (ws := rs.drop (c - f)) rfl ?_
  walk_at "vc"
  refine wp_opR (fld hw f_came) ?_
  walk_at "vc"
  refine wo_len (n := (rs.drop (c - f)).length) rfl ?_
  refine wp_ok ?_
  rw [List.length_drop, show ((c : Nat) : Int) + ((rs.length - (c - f) : Nat) : Int) = ((c + (rs.length - (c - f)) : Nat) : Int) from by omega]
  refine wp_opS (sfld hw wl) ?_
  rw [s_came]
  have hw1 := at_set (o' := .ins "Wire" (wireF k ww (c + (rs.length - (c - f))))) hw
  walk_at "vc"
  refine wp_opR (fld hw1 f_known) ?_
  walk_at "vc"
  refine iteB (fun z => ?_) (fun z => ?_)
  · have z' : k < g := by
      have := of_decide_eq_true z
      omega
    rw [if_pos z'] at x
    walk_at "vc"
    refine wp_opR (fld hw1 f_waiting) ?_
    walk_at "vc"
    refine wp_opR (fld hw1 f_known) ?_
    walk_at "vc"
    have hq1 : seqL (S.set n (.ins "Wire" (wireF k ww (c + (rs.length - (c - f)))))) ww = some q := by
      cases ww <;> first | exact hq | skip
      rename_i m
      have h1 := lstAt_eq.mp hq
      refine lstAt_eq.mpr ?_
      rw [List.getElem?_set_ne]
      · exact h1
      · rintro rfl
        rw [hw] at h1
        cases h1
    rw [show ((g : Nat) : Int) - (k : Nat) = ((g - k : Nat) : Int) from by omega]
    refine wp_opR (slL hq1) ?_
    rw [cut_drop]
    walk_at "vc"
    refine wp_opS (sfld hw1 wl) ?_
    rw [s_waiting, List.set_set]
    have hw2 := at_set (o' := .ins "Wire" (wireF k (.lst (q.drop (g - k))) (c + (rs.length - (c - f))))) hw
    walk_at "vc"
    refine wp_opS (sfld hw2 wl) ?_
    rw [s_known, List.set_set]
    walk_at "vc"
    exact x
  · have z' : ¬ k < g := by
      have := of_decide_eq_false z
      omega
    rw [if_neg z'] at x
    walk_at "vc"
    exact x
end
end Mi.L26

set_option Elab.async false
set_option linter.all false
set_option maxRecDepth 100000
set_option maxHeartbeats 4000000
namespace Mi.L26
open PySem L2 Mi
local macro_rules | `(tactic| walk_at "v1") => `(tactic| first | with_reducible refine wp_seq ?_ | with_reducible refine wp_set ?_ | with_reducible refine wp_ret ?_ | with_reducible refine wp_if ?_ | with_reducible refine wp_expr ?_ | ((with_reducible apply wp_v); · rfl) | with_reducible refine wp_c ?_ | with_reducible refine wp_2 ?_ | with_reducible refine wp_t2 ?_ | with_reducible refine wp_asB ?_ | with_reducible refine wp_acons ?_ | with_reducible refine wp_anil ?_ | with_reducible refine wp_nil ?_ | with_reducible refine wp_call0 ?_ | with_reducible refine wp_call ?_ | with_reducible refine wp_b ?_ | with_reducible refine wp_tvB ?_ | with_reducible refine wp_tand ?_ | with_reducible refine wp_tor ?_ | with_reducible refine wp_tnot ?_ | with_reducible refine wp_and ?_ | with_reducible refine wp_or ?_ | with_reducible refine wp_not ?_ | with_reducible refine wp_ifE ?_ | with_reducible refine wp_neg ?_ | with_reducible refine wp_tup ?_ | with_reducible refine wp_lst ?_ | with_reducible refine wp_lstH ?_ | with_reducible refine wp_sl ?_ | with_reducible refine wp_pn ?_ | with_reducible refine wp_ps ?_ | with_reducible refine wp_asI ?_ | with_reducible refine wp_meth0 ?_ | with_reducible refine wp_meth ?_ | with_reducible refine wp_make0 ?_ | with_reducible refine wp_make ?_ | with_reducible refine wp_m ?_ | with_reducible refine wp_fld ?_ | with_reducible refine wp_exf ?_ | with_reducible refine wp_frz ?_ | with_reducible refine wp_rev ?_ | with_reducible refine wp_rev4 ?_ | with_reducible refine wp_fmt ?_ | with_reducible refine wp_j0 ?_ | with_reducible refine wp_j1 ?_ | with_reducible refine wp_dct0 ?_ | with_reducible refine wp_pairs0 ?_ | with_reducible refine wp_pairs1 ?_ | with_reducible refine wp_dct ?_ | with_reducible refine wp_finDH ?_ | with_reducible refine wp_finD ?_ | with_reducible refine wp_finL ?_ | with_reducible refine wp_finH ?_ | with_reducible refine wp_retN ?_ | with_reducible refine wp_brk ?_ | with_reducible refine wp_cont ?_ | with_reducible refine wp_asg ?_ | with_reducible refine wp_gname ?_ | with_reducible refine wp_gtup rfl ?_ | with_reducible refine wp_par ?_ | with_reducible refine wp_sfld ?_ | with_reducible refine wp_sfldaug ?_ | with_reducible refine wp_ssub ?_ | with_reducible refine wp_raise ?_ | with_reducible refine wp_keep ?_ | with_reducible refine wp_range1 ?_ | with_reducible refine wp_range2 ?_ | with_reducible refine wp_val ?_ | with_reducible refine wp_for ?_ | with_reducible refine wp_lc ?_ | with_reducible refine wp_tyes ?_ | with_reducible refine wp_ch ?_ | with_reducible refine wp_tch ?_ | with_reducible refine wo_add ?_ | with_reducible refine wo_sub ?_ | with_reducible refine wo_lt ?_ | with_reducible refine wo_le ?_ | with_reducible refine wo_gt ?_ | with_reducible refine wo_ge ?_ | with_reducible refine wo_abs ?_ | ((with_reducible refine wo_eqF ?_ ?_); · rfl) | ((with_reducible refine wo_neF ?_ ?_); · rfl) | with_reducible refine wo_neg ?_ | with_reducible refine wo_slTd ?_ | with_reducible refine wo_slLd ?_ | with_reducible refine wo_slTt ?_ | with_reducible refine wo_slLt ?_ | with_reducible refine wo_slT ?_ | with_reducible refine wo_slL ?_ | with_reducible refine wo_slS ?_ | with_reducible refine wo_trB ?_ | ((with_reducible refine And.intro (a := List.length _ = _) ?_ ?_); · rfl) | ((with_reducible refine And.intro (a := List.length _ ≤ _) ?_ ?_); · exact Nat.le_of_ble_eq_true rfl))
local macro_rules | `(tactic| walk_at "vc") => `(tactic| repeat walk_at "v1")
local macro_rules | `(tactic| walk_at "w1") => `(tactic| first | with_reducible refine wp_seq ?_ | with_reducible refine wp_setE (by assumption) ?_ | with_reducible refine wp_ret ?_ | with_reducible refine wp_if ?_ | with_reducible refine wp_expr ?_ | ((with_reducible refine' wp_vE (by assumption) ?hh ?_); case hh => rfl) | with_reducible refine wp_c ?_ | with_reducible refine wp_2 ?_ | with_reducible refine wp_t2 ?_ | with_reducible refine wp_asB ?_ | with_reducible refine wp_acons ?_ | with_reducible refine wp_anil ?_ | with_reducible refine wp_nil ?_ | with_reducible refine wp_call0 ?_ | with_reducible refine wp_call ?_ | with_reducible refine wp_b ?_ | with_reducible refine wp_tvB ?_ | with_reducible refine wp_tand ?_ | with_reducible refine wp_tor ?_ | with_reducible refine wp_tnot ?_ | with_reducible refine wp_and ?_ | with_reducible refine wp_or ?_ | with_reducible refine wp_not ?_ | with_reducible refine wp_ifE ?_ | with_reducible refine wp_neg ?_ | with_reducible refine wp_tup ?_ | with_reducible refine wp_lst ?_ | with_reducible refine wp_lstH ?_ | with_reducible refine wp_sl ?_ | with_reducible refine wp_pn ?_ | with_reducible refine wp_ps ?_ | with_reducible refine wp_asI ?_ | with_reducible refine wp_meth0 ?_ | with_reducible refine wp_meth ?_ | with_reducible refine wp_make0 ?_ | with_reducible refine wp_make ?_ | with_reducible refine wp_m ?_ | with_reducible refine wp_fld ?_ | with_reducible refine wp_exf ?_ | with_reducible refine wp_frz ?_ | with_reducible refine wp_rev ?_ | with_reducible refine wp_rev4 ?_ | with_reducible refine wp_fmt ?_ | with_reducible refine wp_j0 ?_ | with_reducible refine wp_j1 ?_ | with_reducible refine wp_dct0 ?_ | with_reducible refine wp_pairs0 ?_ | with_reducible refine wp_pairs1 ?_ | with_reducible refine wp_dct ?_ | with_reducible refine wp_finDH ?_ | with_reducible refine wp_finD ?_ | with_reducible refine wp_finL ?_ | with_reducible refine wp_finH ?_ | with_reducible refine wp_retN ?_ | with_reducible refine wp_brk ?_ | with_reducible refine wp_cont ?_ | with_reducible refine wp_asg ?_ | with_reducible refine wp_gnameE (by assumption) ?_ | with_reducible refine wp_gtupE (by assumption) rfl ?_ | with_reducible refine wp_parE (by assumption) ?_ | with_reducible refine wp_sfld ?_ | with_reducible refine wp_sfldaug ?_ | with_reducible refine wp_ssub ?_ | with_reducible refine wp_raise ?_ | with_reducible refine wp_keepE ?_ | with_reducible refine wp_range1 ?_ | with_reducible refine wp_range2 ?_ | with_reducible refine wp_val ?_ | with_reducible refine wp_for ?_ | with_reducible refine wp_lcE (by assumption) ?_ | with_reducible refine wp_tyes ?_ | ((with_reducible refine AllE.of ?_); intro env' he'; dsimp only [List.set, setAll, wipeE, List.map, List.replicate, List.length, List.append, HAppend.hAppend, Append.append] at he') | with_reducible refine wp_ch ?_ | with_reducible refine wp_tch ?_ | with_reducible refine wo_add ?_ | with_reducible refine wo_sub ?_ | with_reducible refine wo_lt ?_ | with_reducible refine wo_le ?_ | with_reducible refine wo_gt ?_ | with_reducible refine wo_ge ?_ | with_reducible refine wo_abs ?_ | ((with_reducible refine wo_eqF ?_ ?_); · rfl) | ((with_reducible refine wo_neF ?_ ?_); · rfl) | with_reducible refine wo_neg ?_ | with_reducible refine wo_slTd ?_ | with_reducible refine wo_slLd ?_ | with_reducible refine wo_slTt ?_ | with_reducible refine wo_slLt ?_ | with_reducible refine wo_slT ?_ | with_reducible refine wo_slL ?_ | with_reducible refine wo_slS ?_ | with_reducible refine wo_trB ?_ | ((with_reducible refine And.intro (a := List.length _ = _) ?_ ?_); · rfl) | ((with_reducible refine And.intro (a := List.length _ ≤ _) ?_ ?_); · exact Nat.le_of_ble_eq_true rfl))
local macro_rules | `(tactic| walk_at "wc") => `(tactic| repeat walk_at "w1")
local macro_rules | `(tactic| walk_at "j1") => `(tactic| first | with_reducible refine wp_seq ?_ | with_reducible refine wp_setE (by assumption) ?_ | with_reducible refine wp_ret ?_ | with_reducible refine wp_expr ?_ | ((with_reducible refine' wp_vE (by assumption) ?hh ?_); case hh => rfl) | with_reducible refine wp_c ?_ | with_reducible refine wp_2 ?_ | with_reducible refine wp_t2 ?_ | with_reducible refine wp_asB ?_ | with_reducible refine wp_acons ?_ | with_reducible refine wp_anil ?_ | with_reducible refine wp_nil ?_ | with_reducible refine wp_call0 ?_ | with_reducible refine wp_call ?_ | with_reducible refine wp_b ?_ | with_reducible refine wp_tvB ?_ | with_reducible refine wp_tand ?_ | with_reducible refine wp_tor ?_ | with_reducible refine wp_tnot ?_ | with_reducible refine wp_and ?_ | with_reducible refine wp_or ?_ | with_reducible refine wp_not ?_ | with_reducible refine wp_ifE ?_ | with_reducible refine wp_neg ?_ | with_reducible refine wp_tup ?_ | with_reducible refine wp_lst ?_ | with_reducible refine wp_lstH ?_ | with_reducible refine wp_sl ?_ | with_reducible refine wp_pn ?_ | with_reducible refine wp_ps ?_ | with_reducible refine wp_asI ?_ | with_reducible refine wp_meth0 ?_ | with_reducible refine wp_meth ?_ | with_reducible refine wp_make0 ?_ | with_reducible refine wp_make ?_ | with_reducible refine wp_m ?_ | with_reducible refine wp_fld ?_ | with_reducible refine wp_exf ?_ | with_reducible refine wp_frz ?_ | with_reducible refine wp_rev ?_ | with_reducible refine wp_rev4 ?_ | with_reducible refine wp_fmt ?_ | with_reducible refine wp_j0 ?_ | with_reducible refine wp_j1 ?_ | with_reducible refine wp_dct0 ?_ | with_reducible refine wp_pairs0 ?_ | with_reducible refine wp_pairs1 ?_ | with_reducible refine wp_dct ?_ | with_reducible refine wp_finDH ?_ | with_reducible refine wp_finD ?_ | with_reducible refine wp_finL ?_ | with_reducible refine wp_finH ?_ | with_reducible refine wp_retN ?_ | with_reducible refine wp_brk ?_ | with_reducible refine wp_cont ?_ | with_reducible refine wp_asg ?_ | with_reducible refine wp_gnameE (by assumption) ?_ | with_reducible refine wp_gtupE (by assumption) rfl ?_ | with_reducible refine wp_parE (by assumption) ?_ | with_reducible refine wp_sfld ?_ | with_reducible refine wp_sfldaug ?_ | with_reducible refine wp_ssub ?_ | with_reducible refine wp_raise ?_ | with_reducible refine wp_keepE ?_ | with_reducible refine wp_range1 ?_ | with_reducible refine wp_range2 ?_ | with_reducible refine wp_val ?_ | with_reducible refine wp_for ?_ | with_reducible refine wp_lcE (by assumption) ?_ | with_reducible refine wp_tyes ?_ | ((with_reducible refine AllE.of ?_); intro env' he'; dsimp only [List.set, setAll, wipeE, List.map, List.replicate, List.length, List.append, HAppend.hAppend, Append.append] at he') | with_reducible refine wp_ch ?_ | with_reducible refine wp_tch ?_ | with_reducible refine wo_add ?_ | with_reducible refine wo_sub ?_ | with_reducible refine wo_lt ?_ | with_reducible refine wo_le ?_ | with_reducible refine wo_gt ?_ | with_reducible refine wo_ge ?_ | with_reducible refine wo_abs ?_ | ((with_reducible refine wo_eqF ?_ ?_); · rfl) | ((with_reducible refine wo_neF ?_ ?_); · rfl) | with_reducible refine wo_neg ?_ | with_reducible refine wo_slTd ?_ | with_reducible refine wo_slLd ?_ | with_reducible refine wo_slTt ?_ | with_reducible refine wo_slLt ?_ | with_reducible refine wo_slT ?_ | with_reducible refine wo_slL ?_ | with_reducible refine wo_slS ?_ | with_reducible refine wo_trB ?_ | ((with_reducible refine And.intro (a := List.length _ = _) ?_ ?_); · rfl) | ((with_reducible refine And.intro (a := List.length _ ≤ _) ?_ ?_); · exact Nat.le_of_ble_eq_true rfl))
local macro_rules | `(tactic| walk_at "wj") => `(tactic| repeat walk_at "j1")
/-! ### x != 'rows' -/
def NeOk (w : W) : Prop := ∀ (S : Sto) (P : W → Sto → Prop) (X : XP), P (.bl (!isRows w)) S → (wNe w (.str "rows") S).wp P X
theorem ne_scal {w : W} (h : scalW w (.str "rows") = true) (e : eqF w (.str "rows") = isRows w) : NeOk w := fun S P X q => wo_neF h (by rw [e]; exact q)
theorem ne_int {i : Int} : NeOk (.int i) := ne_scal rfl rfl
theorem ne_bl {i : Bool} : NeOk (.bl i) := ne_scal rfl rfl
theorem ne_non : NeOk .non := ne_scal rfl rfl
theorem ne_txt {x : Str} : NeOk (.str x) := ne_scal rfl (by
  show (x == Str.ofString "rows") = decide (x = Str.ofString "rows")
  by_cases h : x = Str.ofString "rows"
  · rw [h]; simp
  · rw [decide_eq_false h, beq_eq_false_iff_ne]; exact h)
theorem ne_dct {ks : List Key} {ws : List W} : NeOk (.dct ks ws) := fun S P X q => by
  have e : wNe (.dct ks ws) (.str "rows") S = .ok (.bl true) S := rfl
  rw [e]
  exact q
theorem ne_tup {ws : List W} {ds : List PyData} (h : ∀ hd, datWs hd ws = some ds) (s : SeqAt.shaped (.tuple ds) = true) : NeOk (.tup ws) := fun S P X q => by
  have e : wNe (.tup ws) (.str "rows") S = cmpD S (.tup ws) (.str "rows") fun d e => !PyData.eqv d e := rfl
  rw [e]
  refine wo_cmpD (d := .tuple ds) (e := .str "rows") ?_ rfl s (by decide +kernel) ?_
  · show (datWs _ ws).map PyData.tuple = _
    rw [h]
    rfl
  · exact q
theorem ne_lst {ws : List W} {ds : List PyData} (h : ∀ hd, datWs hd ws = some ds) (s : SeqAt.shaped (.list ds) = true) : NeOk (.lst ws) := fun S P X q => by
  have e : wNe (.lst ws) (.str "rows") S = cmpD S (.lst ws) (.str "rows") fun d e => !PyData.eqv d e := rfl
  rw [e]
  refine wo_cmpD (d := .list ds) (e := .str "rows") ?_ rfl s (by decide +kernel) ?_
  · show (datWs _ ws).map PyData.list = _
    rw [h]
    rfl
  · exact q
/-- anything -/
def Od (w : W) : Prop := Rp 50 3 w ∧ NeOk w ∧ ∀ x y z u, w = .tup [x, y, z, u] → NeOk x ∧ NeOk u
theorem od_str {x : Str} (h : x.cps.size ≤ 50) (h2 : (x.cps.toList.all fun c => decide (c < 16 ^ 8)) = true) : Od (.str x) := ⟨Rp.str h h2, ne_txt, fun _ _ _ _ z => by cases z⟩
section
variable {S : Sto} {p m : Nat} {o : Ob} {P : W → Sto → Prop} {X : XP}
theorem odd (hS : S[p]? = some o) (hp : IsPen (m + 1) o) (h : ∀ (w : W) (o' : Ob), Od w → IsPen m o' → P w (S.set p o')) : (m_l_odd [.h p] S).wp P X := by
  refine wp_run ?_
  unfold b_l_odd
  walk_at "vc"
  refine ⟨_, rfl, ?_⟩
  walk_at "vc"
  rw [merge_new (by show [kS "a"].Nodup; decide +kernel)]
  refine wo_pow (by decide) ?_
  walk_at "vc"
  refine wo_catL rfl rfl (by show 25 ≤ sizeLine; decide) ?_
  walk_at "vc"
  refine pick hS hp (by show 0 < 25; decide) (by show 25 < 1000; decide) fun w o1 hw hp1 => ?_
  walk_at "vc"
  refine h w o1 ?_ hp1
  have C : ∀ w : W, (∃ d, (∀ hd, shwW hd w = some d) ∧ Gx 50 3 d) → NeOk w → (∀ x y z u, w = .tup [x, y, z, u] → NeOk x ∧ NeOk u) → Od w := fun w h1 h2 h3 => ⟨h1, h2, h3⟩
  simp only [List.cons_append, List.nil_append, List.mem_cons, List.not_mem_nil, or_false] at hw
  rcases hw with rfl | rfl | rfl | rfl | rfl | rfl | rfl | rfl | rfl | rfl | rfl | rfl | rfl | rfl | rfl | rfl | rfl | rfl | rfl | rfl | rfl | rfl | rfl | rfl | rfl
  · exact ⟨Rp.non, ne_non, fun _ _ _ _ z => by cases z⟩
  · exact ⟨Rp.bl, ne_bl, fun _ _ _ _ z => by cases z⟩
  · exact ⟨Rp.bl, ne_bl, fun _ _ _ _ z => by cases z⟩
  · exact ⟨Rp.int (by decide), ne_int, fun _ _ _ _ z => by cases z⟩
  · exact ⟨Rp.int (by decide), ne_int, fun _ _ _ _ z => by cases z⟩
  · exact ⟨Rp.int (by decide), ne_int, fun _ _ _ _ z => by cases z⟩
  · exact ⟨Rp.int (by decide), ne_int, fun _ _ _ _ z => by cases z⟩
  · exact od_str (by decide +kernel) (by decide +kernel)
  · exact od_str (by decide +kernel) (by decide +kernel)
  · exact od_str (by decide +kernel) (by decide +kernel)
  · exact od_str (by decide +kernel) (by decide +kernel)
  · exact od_str (by decide +kernel) (by decide +kernel)
  · exact C _ ⟨_, fun _ => rfl, by decide +kernel, by decide +kernel, by decide +kernel, by decide +kernel⟩ (ne_tup (fun _ => rfl) (by decide +kernel)) (fun _ _ _ _ z => by first | (cases z; done) | (cases z; exact ⟨ne_txt, ne_int⟩))
  · exact C _ ⟨_, fun _ => rfl, by decide +kernel, by decide +kernel, by decide +kernel, by decide +kernel⟩ (ne_lst (fun _ => rfl) (by decide +kernel)) (fun _ _ _ _ z => by first | (cases z; done) | (cases z; exact ⟨ne_txt, ne_int⟩))
  · exact C _ ⟨_, fun _ => rfl, by decide +kernel, by decide +kernel, by decide +kernel, by decide +kernel⟩ ne_dct (fun _ _ _ _ z => by first | (cases z; done) | (cases z; exact ⟨ne_txt, ne_int⟩))
  · exact C _ ⟨_, fun _ => rfl, by decide +kernel, by decide +kernel, by decide +kernel, by decide +kernel⟩ (ne_tup (fun _ => rfl) (by decide +kernel)) (fun _ _ _ _ z => by first | (cases z; done) | (cases z; exact ⟨ne_txt, ne_int⟩))
  · exact C _ ⟨_, fun _ => rfl, by decide +kernel, by decide +kernel, by decide +kernel, by decide +kernel⟩ (ne_tup (fun _ => rfl) (by decide +kernel)) (fun _ _ _ _ z => by first | (cases z; done) | (cases z; exact ⟨ne_txt, ne_int⟩))
  · exact od_str (by decide +kernel) (by decide +kernel)
  · exact C _ ⟨_, fun _ => rfl, by decide +kernel, by decide +kernel, by decide +kernel, by decide +kernel⟩ (ne_lst (fun _ => rfl) (by decide +kernel)) (fun _ _ _ _ z => by first | (cases z; done) | (cases z; exact ⟨ne_txt, ne_int⟩))
  · exact C _ ⟨_, fun _ => rfl, by decide +kernel, by decide +kernel, by decide +kernel, by decide +kernel⟩ ne_dct (fun _ _ _ _ z => by first | (cases z; done) | (cases z; exact ⟨ne_txt, ne_int⟩))
  · exact C _ ⟨_, fun _ => rfl, by decide +kernel, by decide +kernel, by decide +kernel, by decide +kernel⟩ (ne_tup (fun _ => rfl) (by decide +kernel)) (fun _ _ _ _ z => by first | (cases z; done) | (cases z; exact ⟨ne_txt, ne_int⟩))
  · exact od_str (by decide +kernel) (by decide +kernel)
  · exact C _ ⟨_, fun _ => rfl, by decide +kernel, by decide +kernel, by decide +kernel, by decide +kernel⟩ ne_int (fun _ _ _ _ z => by first | (cases z; done) | (cases z; exact ⟨ne_txt, ne_int⟩))
  · exact C _ ⟨_, fun _ => rfl, by decide +kernel, by decide +kernel, by decide +kernel, by decide +kernel⟩ (ne_tup (fun _ => rfl) (by decide +kernel)) (fun _ _ _ _ z => by first | (cases z; done) | (cases z; exact ⟨ne_txt, ne_int⟩))
  · exact C _ ⟨_, fun _ => rfl, by decide +kernel, by decide +kernel, by decide +kernel, by decide +kernel⟩ (ne_lst (fun _ => rfl) (by decide +kernel)) (fun _ _ _ _ z => by first | (cases z; done) | (cases z; exact ⟨ne_txt, ne_int⟩))
end
/-! ### the end, as this law has it -/
def endKv (hp k c : Nat) : List (Key × W) := [(kS "put", .h hp), (kS "known", .int (k : Nat)), (kS "taken", .int (c : Nat))]
section
variable {hp k c k' c' : Nat}
theorem e_put : lookW (endKv hp k c) (kS "put") = some (.h hp) := look_eq
theorem e_known : lookW (endKv hp k c) (kS "known") = some (.int (k : Nat)) := by
  unfold endKv
  rw [look_ne (ne_str (by decide)), look_eq]
theorem e_taken : lookW (endKv hp k c) (kS "taken") = some (.int (c : Nat)) := by
  unfold endKv
  rw [look_ne (ne_str (by decide)), look_ne (ne_str (by decide)), look_eq]
theorem es_known : putW (endKv hp k c) (kS "known") (.int (k' : Nat)) = endKv hp k' c := by
  unfold endKv
  rw [put_ne (ne_str (by decide)) (by rw [look_eq]; rfl), put_eq (by rw [look_ne (ne_str (by decide)), look_nil])]
theorem es_taken : putW (endKv hp k c) (kS "taken") (.int (c' : Nat)) = endKv hp k c' := by
  unfold endKv
  rw [put_ne (ne_str (by decide)) (by rw [look_ne (ne_str (by decide)), look_eq]; rfl), put_ne (ne_str (by decide)) (by rw [look_eq]; rfl), put_eq look_nil]
theorem el : (endKv hp k c).length < sizeLine := (by decide : 3 < sizeLine)
end
section
variable {S : Sto} {he hp k c : Nat} {w : W} {put : List W} {P : W → Sto → Prop} {X : XP} {b kk : Nat}
theorem filt_tup (rs : List W) : (rs.filterMap fun w => if isTup w = true then none else some w).isEmpty = rs.all isTup := by
  induction rs with
  | nil => rfl
  | cons r rs ih =>
    rw [List.filterMap_cons, List.all_cons]
    cases hr : isTup r with
    | true => simpa using ih
    | false => rfl
theorem l_is_letter (hE : S[he]? = some (.dct (endKv hp k c))) (hP : S[hp]? = some (.lst put)) (h : Rp b kk w) (hb : b ≤ 100000) (hne : ∀ x y z u, w = .tup [x, y, z, u] → NeOk x)
    (q : P (.bl (takes put.length c w)) S) : (m_l_is_letter [.h he, w] S).wp P X := by
  obtain ⟨t, ht⟩ := h.ty
  refine wp_run ?_
  unfold b_l_is_letter
  walk_at "vc"
  refine ofX ht (isi_tuple ht ?_)
  walk_at "vc"
  refine iteB (fun hb => ?_) (fun hb => ?_)
  · refine iteB (fun _ => ?_) (fun z => by cases z)
    walk_at "vc"
    cases w <;> first | exact q | cases hb
  cases w <;> first | cases hb | skip
  rename_i ws
  walk_at "vc"
  refine wo_len (n := ws.length) (by rfl) ?_
  walk_at "vc"
  refine iteB (fun hb => ?_) (fun hb => ?_)
  · refine iteB (fun _ => ?_) (fun z => by cases z)
    walk_at "vc"
    rw [takes_no (letB_len (len4.mp hb))] at q
    exact q
  have h4 : ws.length = 4 := Classical.byContradiction fun z => by rw [len4.mpr z] at hb; cases hb
  obtain ⟨a, b', c', d, rfl⟩ := four h4
  obtain ⟨ta, hta⟩ := h.part (w := a) (by simp)
  obtain ⟨tb, htb⟩ := h.part (w := b') (by simp)
  obtain ⟨tc, htc⟩ := h.part (w := c') (by simp)
  obtain ⟨td, htd⟩ := h.part (w := d) (by simp)
  have no : letB (.tup [a, b', c', d]) = false → P (.bl false) S := fun z => by
    rw [takes_no z] at q
    exact q
  have lb : letB (.tup [a, b', c', d]) = (isRows a && isCnt b' && isCnt d && allTup c') := rfl
  rw [lb] at no
  walk_at "vc"
  refine wo_ixt (w := a) (by decide) rfl ?_
  walk_at "vc"
  refine hne a b' c' d rfl _ _ _ ?_
  walk_at "vc"
  refine iteB (fun hb => ?_) (fun hb => ?_)
  · refine iteB (fun _ => ?_) (fun z => by cases z)
    walk_at "vc"
    rw [Bool.not_eq_true'] at hb
    exact no (by rw [hb]; rfl)
  rw [Bool.not_eq_false'] at hb
  rw [hb, Bool.true_and] at no
  have hra := hb
  walk_at "vc"
  refine wo_ixt (w := c') (by decide) rfl ?_
  walk_at "vc"
  refine ofX htc (isi_tuple htc ?_)
  walk_at "vc"
  refine iteB (fun hb => ?_) (fun hb => ?_)
  · walk_at "vc"
    refine no ?_
    have : allTup c' = false := by cases c' <;> first | rfl | cases hb
    rw [this, Bool.and_false]
  cases c' <;> first | cases hb | skip
  rename_i rs
  walk_at "vc"
  refine wo_ixt (w := b') (by decide) rfl ?_
  walk_at "vc"
  refine l_is_count htb ?_
  walk_at "vc"
  refine iteB (fun hb => ?_) (fun hb => ?_)
  · refine iteB (fun _ => ?_) (fun z => by cases z)
    walk_at "vc"
    rw [Bool.not_eq_true'] at hb
    exact no (by rw [hb]; rfl)
  rw [Bool.not_eq_false'] at hb
  rw [hb, Bool.true_and] at no
  have hrb := hb
  walk_at "vc"
  refine wo_ixt (w := d) (by decide) rfl ?_
  walk_at "vc"
  refine l_is_count htd ?_
  walk_at "vc"
  refine iteB (fun hb => ?_) (fun hb => ?_)
  · refine iteB (fun _ => ?_) (fun z => by cases z)
    walk_at "vc"
    rw [Bool.not_eq_true'] at hb
    exact no (by rw [hb]; rfl)
  rw [Bool.not_eq_false'] at hb
  rw [hb, Bool.true_and] at no
  have hrd := hb
  obtain ⟨f, rfl⟩ : ∃ f : Int, b' = .int f := by cases b' <;> first | exact ⟨_, rfl⟩ | cases hrb
  obtain ⟨g, rfl⟩ : ∃ f : Int, d = .int f := by cases d <;> first | exact ⟨_, rfl⟩ | cases hrd
  have tk : takes put.length c (.tup [a, .int f, .tup rs, .int g]) = (rs.all isTup && decide (f ≤ (c : Nat)) && decide (g ≤ (put.length : Nat))) := by
    show (letB _ && _ && _) = _
    rw [lb, hra, hrb, hrd]
    rfl
  rw [tk] at q
  walk_at "vc"
  refine wo_ixt (w := .int f) (by decide) rfl ?_
  walk_at "vc"
  refine wo_ixd hE e_taken ?_
  walk_at "vc"
  refine iteB (fun hf => ?_) (fun hf => ?_)
  · walk_at "vc"
    have : decide (f ≤ (c : Nat)) = false := by
      have := of_decide_eq_true hf
      exact decide_eq_false (by omega)
    rw [this, Bool.and_false, Bool.false_and] at q
    exact q
  have hf' : decide (f ≤ (c : Nat)) = true := by
    have := of_decide_eq_false hf
    exact decide_eq_true (by omega)
  rw [hf', Bool.and_true] at q
  walk_at "vc"
  refine wo_ixt (w := .int g) (by decide) rfl ?_
  walk_at "vc"
  refine wo_ixd hE e_put ?_
  walk_at "vc"
  refine wo_len (n := put.length) (by show (match S[hp]? with | some (.lst ws) => some ws.length | some (.dct kvs) => some kvs.length | _ => none) = _; rw [hP]) ?_
  walk_at "vc"
  refine iteB (fun hg => ?_) (fun hg => ?_)
  · rw [hg, Bool.and_true] at q
    walk_at "vc"
    refine wo_ixt (w := .tup rs) (by decide) rfl ?_
    refine wp_ok ?_
    walk_at "vc"
    have hrs : Rp b kk (.tup rs) := h.all.mem (by simp)
    refine wp_lcPure rfl (f := fun w => if isTup w = true then none else some w) (fun w hw => ?_) (Nat.le_trans hrs.all.len (by omega)) ?_
    · obtain ⟨tw, htw⟩ := hrs.part hw
      intro env' he'
      subst he'
      walk_at "vc"
      refine ofX htw (isi_tuple htw ?_)
      walk_at "vc"
      cases hw : isTup w with
      | true => exact ⟨rfl, by simp⟩
      | false =>
        rw [if_pos (by rfl)]
        walk_at "vc"
        simp
    · walk_at "vc"
      refine wo_eqNil rfl ?_
      rw [filt_tup]
      exact q
  · rw [hg, Bool.and_false] at q
    exact q
end
end Mi.L26

set_option Elab.async false
set_option linter.all false
set_option maxRecDepth 100000
set_option maxHeartbeats 4000000
namespace Mi.L26
open PySem L2 Mi
local macro_rules | `(tactic| walk_at "v1") => `(tactic| first | with_reducible refine wp_seq ?_ | with_reducible refine wp_set ?_ | with_reducible refine wp_ret ?_ | with_reducible refine wp_if ?_ | with_reducible refine wp_expr ?_ | ((with_reducible apply wp_v); · rfl) | with_reducible refine wp_c ?_ | with_reducible refine wp_2 ?_ | with_reducible refine wp_t2 ?_ | with_reducible refine wp_asB ?_ | with_reducible refine wp_acons ?_ | with_reducible refine wp_anil ?_ | with_reducible refine wp_nil ?_ | with_reducible refine wp_call0 ?_ | with_reducible refine wp_call ?_ | with_reducible refine wp_b ?_ | with_reducible refine wp_tvB ?_ | with_reducible refine wp_tand ?_ | with_reducible refine wp_tor ?_ | with_reducible refine wp_tnot ?_ | with_reducible refine wp_and ?_ | with_reducible refine wp_or ?_ | with_reducible refine wp_not ?_ | with_reducible refine wp_ifE ?_ | with_reducible refine wp_neg ?_ | with_reducible refine wp_tup ?_ | with_reducible refine wp_lst ?_ | with_reducible refine wp_lstH ?_ | with_reducible refine wp_sl ?_ | with_reducible refine wp_pn ?_ | with_reducible refine wp_ps ?_ | with_reducible refine wp_asI ?_ | with_reducible refine wp_meth0 ?_ | with_reducible refine wp_meth ?_ | with_reducible refine wp_make0 ?_ | with_reducible refine wp_make ?_ | with_reducible refine wp_m ?_ | with_reducible refine wp_fld ?_ | with_reducible refine wp_exf ?_ | with_reducible refine wp_frz ?_ | with_reducible refine wp_rev ?_ | with_reducible refine wp_rev4 ?_ | with_reducible refine wp_fmt ?_ | with_reducible refine wp_j0 ?_ | with_reducible refine wp_j1 ?_ | with_reducible refine wp_dct0 ?_ | with_reducible refine wp_pairs0 ?_ | with_reducible refine wp_pairs1 ?_ | with_reducible refine wp_dct ?_ | with_reducible refine wp_finDH ?_ | with_reducible refine wp_finD ?_ | with_reducible refine wp_finL ?_ | with_reducible refine wp_finH ?_ | with_reducible refine wp_retN ?_ | with_reducible refine wp_brk ?_ | with_reducible refine wp_cont ?_ | with_reducible refine wp_asg ?_ | with_reducible refine wp_gname ?_ | with_reducible refine wp_gtup rfl ?_ | with_reducible refine wp_par ?_ | with_reducible refine wp_sfld ?_ | with_reducible refine wp_sfldaug ?_ | with_reducible refine wp_ssub ?_ | with_reducible refine wp_raise ?_ | with_reducible refine wp_keep ?_ | with_reducible refine wp_range1 ?_ | with_reducible refine wp_range2 ?_ | with_reducible refine wp_val ?_ | with_reducible refine wp_for ?_ | with_reducible refine wp_lc ?_ | with_reducible refine wp_tyes ?_ | with_reducible refine wp_ch ?_ | with_reducible refine wp_tch ?_ | with_reducible refine wo_add ?_ | with_reducible refine wo_sub ?_ | with_reducible refine wo_lt ?_ | with_reducible refine wo_le ?_ | with_reducible refine wo_gt ?_ | with_reducible refine wo_ge ?_ | with_reducible refine wo_abs ?_ | ((with_reducible refine wo_eqF ?_ ?_); · rfl) | ((with_reducible refine wo_neF ?_ ?_); · rfl) | with_reducible refine wo_neg ?_ | with_reducible refine wo_slTd ?_ | with_reducible refine wo_slLd ?_ | with_reducible refine wo_slTt ?_ | with_reducible refine wo_slLt ?_ | with_reducible refine wo_slT ?_ | with_reducible refine wo_slL ?_ | with_reducible refine wo_slS ?_ | with_reducible refine wo_trB ?_ | ((with_reducible refine And.intro (a := List.length _ = _) ?_ ?_); · rfl) | ((with_reducible refine And.intro (a := List.length _ ≤ _) ?_ ?_); · exact Nat.le_of_ble_eq_true rfl))
local macro_rules | `(tactic| walk_at "vc") => `(tactic| repeat walk_at "v1")
local macro_rules | `(tactic| walk_at "w1") => `(tactic| first | with_reducible refine wp_seq ?_ | with_reducible refine wp_setE (by assumption) ?_ | with_reducible refine wp_ret ?_ | with_reducible refine wp_if ?_ | with_reducible refine wp_expr ?_ | ((with_reducible refine' wp_vE (by assumption) ?hh ?_); case hh => rfl) | with_reducible refine wp_c ?_ | with_reducible refine wp_2 ?_ | with_reducible refine wp_t2 ?_ | with_reducible refine wp_asB ?_ | with_reducible refine wp_acons ?_ | with_reducible refine wp_anil ?_ | with_reducible refine wp_nil ?_ | with_reducible refine wp_call0 ?_ | with_reducible refine wp_call ?_ | with_reducible refine wp_b ?_ | with_reducible refine wp_tvB ?_ | with_reducible refine wp_tand ?_ | with_reducible refine wp_tor ?_ | with_reducible refine wp_tnot ?_ | with_reducible refine wp_and ?_ | with_reducible refine wp_or ?_ | with_reducible refine wp_not ?_ | with_reducible refine wp_ifE ?_ | with_reducible refine wp_neg ?_ | with_reducible refine wp_tup ?_ | with_reducible refine wp_lst ?_ | with_reducible refine wp_lstH ?_ | with_reducible refine wp_sl ?_ | with_reducible refine wp_pn ?_ | with_reducible refine wp_ps ?_ | with_reducible refine wp_asI ?_ | with_reducible refine wp_meth0 ?_ | with_reducible refine wp_meth ?_ | with_reducible refine wp_make0 ?_ | with_reducible refine wp_make ?_ | with_reducible refine wp_m ?_ | with_reducible refine wp_fld ?_ | with_reducible refine wp_exf ?_ | with_reducible refine wp_frz ?_ | with_reducible refine wp_rev ?_ | with_reducible refine wp_rev4 ?_ | with_reducible refine wp_fmt ?_ | with_reducible refine wp_j0 ?_ | with_reducible refine wp_j1 ?_ | with_reducible refine wp_dct0 ?_ | with_reducible refine wp_pairs0 ?_ | with_reducible refine wp_pairs1 ?_ | with_reducible refine wp_dct ?_ | with_reducible refine wp_finDH ?_ | with_reducible refine wp_finD ?_ | with_reducible refine wp_finL ?_ | with_reducible refine wp_finH ?_ | with_reducible refine wp_retN ?_ | with_reducible refine wp_brk ?_ | with_reducible refine wp_cont ?_ | with_reducible refine wp_asg ?_ | with_reducible refine wp_gnameE (by assumption) ?_ | with_reducible refine wp_gtupE (by assumption) rfl ?_ | with_reducible refine wp_parE (by assumption) ?_ | with_reducible refine wp_sfld ?_ | with_reducible refine wp_sfldaug ?_ | with_reducible refine wp_ssub ?_ | with_reducible refine wp_raise ?_ | with_reducible refine wp_keepE ?_ | with_reducible refine wp_range1 ?_ | with_reducible refine wp_range2 ?_ | with_reducible refine wp_val ?_ | with_reducible refine wp_for ?_ | with_reducible refine wp_lcE (by assumption) ?_ | with_reducible refine wp_tyes ?_ | ((with_reducible refine AllE.of ?_); intro env' he'; dsimp only [List.set, setAll, wipeE, List.map, List.replicate, List.length, List.append, HAppend.hAppend, Append.append] at he') | with_reducible refine wp_ch ?_ | with_reducible refine wp_tch ?_ | with_reducible refine wo_add ?_ | with_reducible refine wo_sub ?_ | with_reducible refine wo_lt ?_ | with_reducible refine wo_le ?_ | with_reducible refine wo_gt ?_ | with_reducible refine wo_ge ?_ | with_reducible refine wo_abs ?_ | ((with_reducible refine wo_eqF ?_ ?_); · rfl) | ((with_reducible refine wo_neF ?_ ?_); · rfl) | with_reducible refine wo_neg ?_ | with_reducible refine wo_slTd ?_ | with_reducible refine wo_slLd ?_ | with_reducible refine wo_slTt ?_ | with_reducible refine wo_slLt ?_ | with_reducible refine wo_slT ?_ | with_reducible refine wo_slL ?_ | with_reducible refine wo_slS ?_ | with_reducible refine wo_trB ?_ | ((with_reducible refine And.intro (a := List.length _ = _) ?_ ?_); · rfl) | ((with_reducible refine And.intro (a := List.length _ ≤ _) ?_ ?_); · exact Nat.le_of_ble_eq_true rfl))
local macro_rules | `(tactic| walk_at "wc") => `(tactic| repeat walk_at "w1")
local macro_rules | `(tactic| walk_at "j1") => `(tactic| first | with_reducible refine wp_seq ?_ | with_reducible refine wp_setE (by assumption) ?_ | with_reducible refine wp_ret ?_ | with_reducible refine wp_expr ?_ | ((with_reducible refine' wp_vE (by assumption) ?hh ?_); case hh => rfl) | with_reducible refine wp_c ?_ | with_reducible refine wp_2 ?_ | with_reducible refine wp_t2 ?_ | with_reducible refine wp_asB ?_ | with_reducible refine wp_acons ?_ | with_reducible refine wp_anil ?_ | with_reducible refine wp_nil ?_ | with_reducible refine wp_call0 ?_ | with_reducible refine wp_call ?_ | with_reducible refine wp_b ?_ | with_reducible refine wp_tvB ?_ | with_reducible refine wp_tand ?_ | with_reducible refine wp_tor ?_ | with_reducible refine wp_tnot ?_ | with_reducible refine wp_and ?_ | with_reducible refine wp_or ?_ | with_reducible refine wp_not ?_ | with_reducible refine wp_ifE ?_ | with_reducible refine wp_neg ?_ | with_reducible refine wp_tup ?_ | with_reducible refine wp_lst ?_ | with_reducible refine wp_lstH ?_ | with_reducible refine wp_sl ?_ | with_reducible refine wp_pn ?_ | with_reducible refine wp_ps ?_ | with_reducible refine wp_asI ?_ | with_reducible refine wp_meth0 ?_ | with_reducible refine wp_meth ?_ | with_reducible refine wp_make0 ?_ | with_reducible refine wp_make ?_ | with_reducible refine wp_m ?_ | with_reducible refine wp_fld ?_ | with_reducible refine wp_exf ?_ | with_reducible refine wp_frz ?_ | with_reducible refine wp_rev ?_ | with_reducible refine wp_rev4 ?_ | with_reducible refine wp_fmt ?_ | with_reducible refine wp_j0 ?_ | with_reducible refine wp_j1 ?_ | with_reducible refine wp_dct0 ?_ | with_reducible refine wp_pairs0 ?_ | with_reducible refine wp_pairs1 ?_ | with_reducible refine wp_dct ?_ | with_reducible refine wp_finDH ?_ | with_reducible refine wp_finD ?_ | with_reducible refine wp_finL ?_ | with_reducible refine wp_finH ?_ | with_reducible refine wp_retN ?_ | with_reducible refine wp_brk ?_ | with_reducible refine wp_cont ?_ | with_reducible refine wp_asg ?_ | with_reducible refine wp_gnameE (by assumption) ?_ | with_reducible refine wp_gtupE (by assumption) rfl ?_ | with_reducible refine wp_parE (by assumption) ?_ | with_reducible refine wp_sfld ?_ | with_reducible refine wp_sfldaug ?_ | with_reducible refine wp_ssub ?_ | with_reducible refine wp_raise ?_ | with_reducible refine wp_keepE ?_ | with_reducible refine wp_range1 ?_ | with_reducible refine wp_range2 ?_ | with_reducible refine wp_val ?_ | with_reducible refine wp_for ?_ | with_reducible refine wp_lcE (by assumption) ?_ | with_reducible refine wp_tyes ?_ | ((with_reducible refine AllE.of ?_); intro env' he'; dsimp only [List.set, setAll, wipeE, List.map, List.replicate, List.length, List.append, HAppend.hAppend, Append.append] at he') | with_reducible refine wp_ch ?_ | with_reducible refine wp_tch ?_ | with_reducible refine wo_add ?_ | with_reducible refine wo_sub ?_ | with_reducible refine wo_lt ?_ | with_reducible refine wo_le ?_ | with_reducible refine wo_gt ?_ | with_reducible refine wo_ge ?_ | with_reducible refine wo_abs ?_ | ((with_reducible refine wo_eqF ?_ ?_); · rfl) | ((with_reducible refine wo_neF ?_ ?_); · rfl) | with_reducible refine wo_neg ?_ | with_reducible refine wo_slTd ?_ | with_reducible refine wo_slLd ?_ | with_reducible refine wo_slTt ?_ | with_reducible refine wo_slLt ?_ | with_reducible refine wo_slT ?_ | with_reducible refine wo_slL ?_ | with_reducible refine wo_slS ?_ | with_reducible refine wo_trB ?_ | ((with_reducible refine And.intro (a := List.length _ = _) ?_ ?_); · rfl) | ((with_reducible refine And.intro (a := List.length _ ≤ _) ?_ ?_); · exact Nat.le_of_ble_eq_true rfl))
local macro_rules | `(tactic| walk_at "wj") => `(tactic| repeat walk_at "j1")
/-- a wire at n, its end at n + 3, a pen at 0 -/
structure Sta (S : Sto) (n : Nat) (put : List W) (k c : Nat) (o : Ob) : Prop where
  n0 : 0 < n
  pen : S[0]? = some o
  w : ∃ ww, S[n]? = some (.ins "Wire" (wireF k ww c)) ∧ (ww = .lst (put.drop k) ∨ ww = .h (n + 1) ∧ S[n + 1]? = some (.lst (put.drop k)))
  p : S[n + 2]? = some (.lst put)
  e : S[n + 3]? = some (.dct (endKv (n + 2) k c))
  le : k ≤ put.length
theorem Sta.toPen {S : Sto} {n : Nat} {put : List W} {k c : Nat} {o o' : Ob} (h : Sta S n put k c o) : Sta (S.set 0 o') n put k c o' := by
  obtain ⟨n0, pen, ⟨ww, w1, w2⟩, p, e, le⟩ := h
  refine ⟨n0, at_set pen, ⟨ww, at_set_ne w1 (by omega), ?_⟩, at_set_ne p (by omega), at_set_ne e (by omega), le⟩
  rcases w2 with w2 | ⟨w2, w3⟩
  · exact .inl w2
  · exact .inr ⟨w2, at_set_ne w3 (by omega)⟩
theorem Sta.app {S T : Sto} {n : Nat} {put : List W} {k c : Nat} {o : Ob} (h : Sta S n put k c o) : Sta (S ++ T) n put k c o := by
  obtain ⟨n0, pen, ⟨ww, w1, w2⟩, p, e, le⟩ := h
  refine ⟨n0, at_app pen, ⟨ww, at_app w1, ?_⟩, at_app p, at_app e, le⟩
  rcases w2 with w2 | ⟨w2, w3⟩
  · exact .inl w2
  · exact .inr ⟨w2, at_app w3⟩
/-- .. and what is new behind it may change -/
theorem Sta.late {S : Sto} {n m : Nat} {put : List W} {k c : Nat} {o o' : Ob} (h : Sta S n put k c o) (hm : n + 3 < m) : Sta (S.set m o') n put k c o := by
  obtain ⟨n0, pen, ⟨ww, w1, w2⟩, p, e, le⟩ := h
  refine ⟨n0, at_set_ne pen (by omega), ⟨ww, at_set_ne w1 (by omega), ?_⟩, at_set_ne p (by omega), at_set_ne e (by omega), le⟩
  rcases w2 with w2 | ⟨w2, w3⟩
  · exact .inl w2
  · exact .inr ⟨w2, at_set_ne w3 (by omega)⟩
theorem seq_of {S : Sto} {n : Nat} {ww : W} {q : List W} (h : ww = .lst q ∨ ww = .h (n + 1) ∧ S[n + 1]? = some (.lst q)) : seqL S ww = some q := by
  rcases h with rfl | ⟨rfl, h⟩
  · rfl
  · exact lstAt_eq.mpr h
section
variable {S : Sto} {n k c : Nat} {put : List W} {o : Ob} {P : W → Sto → Prop} {X : XP}
/-- the letter that a wire writes -/
def letW (put : List W) (k c : Nat) : W := .tup [.str "rows", .int (k : Nat), .tup (put.drop k), .int (c : Nat)]
theorem ins_of {S : Sto} {n : Nat} {fs : List (Str × W)} {m : Str} (h : S[n]? = some (.ins "Wire" fs)) (hm : (fs.lookup m).isNone = true) : insOk S "Wire" m (.h n) = true := by
  unfold insOk
  dsimp only
  rw [h]
  dsimp only
  rw [hm, decide_eq_true rfl]
  rfl
theorem no_m {k c : Nat} {ww : W} {m : String} (h1 : m ≠ "known") (h2 : m ≠ "waiting") (h3 : m ≠ "came") : ((wireF k ww c).lookup (Str.ofString m)).isNone = true := by
  simp [wireF, List.lookup, beq_str, h1, h2, h3]
theorem letter (s : Sta S n put k c o) (q : P (letW put k c) S) : (m_Wire_letter [.h n] S).wp P X := by
  obtain ⟨n0, pen, ⟨ww, w1, w2⟩, p, e, le⟩ := s
  refine wp_run ?_
  unfold b_Wire_letter
  walk_at "vc"
  refine wp_opR (fld w1 f_known) ?_
  walk_at "vc"
  refine wp_opR (fld w1 f_waiting) ?_
  walk_at "vc"
  refine wo_tuple (seq_of w2) ?_
  walk_at "vc"
  refine wp_opR (fld w1 f_came) ?_
  walk_at "vc"
  exact q
theorem letter_of (s : Sta S n put k c o) (q : P (letW put k c) S) : (m_l_letter_of [.h (n + 3)] S).wp P X := by
  obtain ⟨n0, pen, ⟨ww, w1, w2⟩, p, e, le⟩ := s
  refine wp_run ?_
  unfold b_l_letter_of
  walk_at "vc"
  refine wo_ixd e e_known ?_
  walk_at "vc"
  refine wo_ixd e e_put ?_
  walk_at "vc"
  refine wo_ixd e e_known ?_
  walk_at "vc"
  refine wp_opR (slL (l := put) (lstAt_eq.mpr p)) ?_
  rw [cut_drop]
  walk_at "vc"
  refine wo_tuple (by rfl) ?_
  walk_at "vc"
  refine wo_ixd e e_taken ?_
  walk_at "vc"
  exact q
theorem heard (s : Sta S n put k c o) (q : P (.int (c : Nat)) S) : (m_Wire_heard [.h n] S).wp P X := by
  obtain ⟨n0, pen, ⟨ww, w1, w2⟩, p, e, le⟩ := s
  refine wp_run ?_
  unfold b_Wire_heard
  walk_at "vc"
  exact wp_opR (fld w1 f_came) q
theorem unheard (s : Sta S n put k c o) (q : P (.h S.length) (S ++ [.lst (put.drop k)])) : (m_Wire_unheard [.h n] S).wp P X := by
  obtain ⟨n0, pen, ⟨ww, w1, w2⟩, p, e, le⟩ := s
  refine wp_run ?_
  unfold b_Wire_unheard
  walk_at "vc"
  refine wp_opR (fld w1 f_waiting) ?_
  walk_at "vc"
  refine wo_list (seqI_of (seq_of w2)) ?_
  walk_at "vc"
  exact q
theorem wlen (s : Sta S n put k c o) (q : P (.int ((put.drop k).length : Nat)) S) : (m_Wire_len [.h n] S).wp P X := by
  obtain ⟨n0, pen, ⟨ww, w1, w2⟩, p, e, le⟩ := s
  refine wp_run ?_
  unfold b_Wire_len
  walk_at "vc"
  refine wp_opR (fld w1 f_waiting) ?_
  walk_at "vc"
  exact wo_len (lenL (seq_of w2)) q
/-- rows that can be shown -/
structure Rows (put : List W) : Prop where
  l : put.length ≤ 20
  r : ∀ w ∈ put, RowOk w
theorem Rows.drop {put : List W} (h : Rows put) (k : Nat) : Rows (put.drop k) := ⟨by rw [List.length_drop]; have := h.l; omega, fun w hw => h.r w (List.mem_of_mem_drop hw)⟩
theorem Rows.rp {put : List W} (h : Rows put) : RpAll 680 2 put := (RpAll.of (b := 33) (k := 2) fun w hw => (h.r w hw).choose_spec.2).mono (by have := h.l; omega) (Nat.le_refl _)
theorem Rows.tups {put : List W} (h : Rows put) : put.all isTup = true := by
  rw [List.all_eq_true]
  intro w hw
  obtain ⟨ws, rfl, _⟩ := h.r w hw
  rfl
theorem rp_let {rs : List W} {f g : Nat} (h : Rows rs) (hf : f < 1000) (hg : g < 1000) : Rp 700 4 (.tup [.str "rows", .int (f : Nat), .tup rs, .int (g : Nat)]) := by
  have h1 : Rp 680 3 (.tup rs) := RpAll.tup h.rp
  exact (RpAll.tup (RpAll.cons (Rp.str (b := 4) (by decide +kernel) (by decide +kernel)) (RpAll.cons (Rp.int (b := 0) (by omega)) (RpAll.cons h1 (RpAll.cons (Rp.int (b := 0) (by omega)) RpAll.nil))))).mono (by decide) (Nat.le_refl _)
theorem rp_letW (h : Rows put) (hk : k < 1000) (hc : c < 1000) : Rp 700 4 (letW put k c) := rp_let (h.drop k) hk hc
theorem end_right (s : Sta S n put k c o) (r : Rows put) (hk : k < 1000) (hc : c < 1000) (hl : n + 3 < S.length) (q : ∀ T, Sta T n put k c o → n + 3 < T.length → P (.bl true) T) : (m_l_end_right [.h n, .h (n + 3)] S).wp P X := by
  obtain ⟨ww, w1, w2⟩ := s.w
  refine wp_run ?_
  unfold b_l_end_right
  walk_at "vc"
  refine ⟨ins_of w1 (no_m (by decide) (by decide) (by decide)), ?_⟩
  walk_at "vc"
  refine letter s ?_
  walk_at "vc"
  refine wo_repr (rp_letW r hk hc) (by decide) (by decide) ?_
  walk_at "vc"
  refine letter_of s ?_
  walk_at "vc"
  refine wo_repr (rp_letW r hk hc) (by decide) (by decide) ?_
  walk_at "vc"
  have refl : ∀ x : Str, (!eqF (.str x) (.str x)) = false := fun x => by
    show (!(x == x)) = false
    simp
  have reflE : ∀ x : Str, eqF (.str x) (.str x) = true := fun x => by
    show (x == x) = true
    simp
  have reflI : ∀ x : Int, (!eqF (.int x) (.int x)) = false := fun x => by
    show (!(x == x)) = false
    simp
  have reflIE : ∀ x : Int, eqF (.int x) (.int x) = true := fun x => by
    show (x == x) = true
    simp
  rw [refl]
  refine iteB (fun z => by cases z) (fun _ => ?_)
  walk_at "vc"
  refine ⟨ins_of w1 (no_m (by decide) (by decide) (by decide)), ?_⟩
  walk_at "vc"
  refine heard s ?_
  walk_at "vc"
  refine wo_ixd s.e e_taken ?_
  walk_at "vc"
  rw [reflI]
  refine iteB (fun z => by cases z) (fun _ => ?_)
  walk_at "vc"
  refine ⟨ins_of w1 (no_m (by decide) (by decide) (by decide)), ?_⟩
  walk_at "vc"
  refine unheard s ?_
  walk_at "vc"
  have s1 : Sta (S ++ [.lst (put.drop k)]) n put k c o := s.app
  have at1 : (S ++ [.lst (put.drop k)])[S.length]? = some (.lst (put.drop k)) := at_new
  refine wo_reprH at1 (r.drop k).rp (by decide) (by decide) ?_
  walk_at "vc"
  refine wo_ixd s1.e e_put ?_
  walk_at "vc"
  refine wo_ixd s1.e e_known ?_
  walk_at "vc"
  refine wp_opR (slL (l := put) (lstAt_eq.mpr s1.p)) ?_
  rw [cut_drop]
  walk_at "vc"
  refine wo_repr (RpAll.lst (r.drop k).rp) (by decide) (by decide) ?_
  walk_at "vc"
  rw [reflE]
  refine iteB (fun _ => ?_) (fun z => by cases z)
  walk_at "vc"
  obtain ⟨w1', w2'⟩ := s1.w
  refine wo_lenO (isIns_of w2'.1) (wlen s1 ⟨_, rfl, ?_, ?_⟩)
  · rw [List.length_drop]
    have := r.l
    omega
  walk_at "vc"
  refine wo_len (n := (put.drop k).length) (by unfold lenOf; dsimp only; rw [at1]) ?_
  walk_at "vc"
  rw [reflIE]
  refine ⟨isLst_h at1, ?_⟩
  walk_at "vc"
  refine wo_append at1 ?_ ?_
  · rw [List.length_drop]
    have := r.l
    have : (1000 : Nat) < sizeLine := by decide
    omega
  have at2 := at_set (o' := .lst (put.drop k ++ [.tup [.str "more"]])) at1
  have s2 : Sta ((S ++ [Ob.lst (put.drop k)]).set S.length (Ob.lst (put.drop k ++ [W.tup [W.str "more"]]))) n put k c o := s1.late (by omega)
  walk_at "vc"
  refine ⟨isLst_h at2, ?_⟩
  walk_at "vc"
  refine wo_reverse at2 ?_
  rw [List.set_set]
  have s3 : Sta ((S ++ [Ob.lst (put.drop k)]).set S.length (Ob.lst (put.drop k ++ [W.tup [W.str "more"]]).reverse)) n put k c o := s1.late (by omega)
  walk_at "vc"
  refine iteB (fun _ => ?_) (fun z => by cases z)
  walk_at "vc"
  obtain ⟨w3, w4⟩ := s3.w
  refine ⟨ins_of w4.1 (no_m (by decide) (by decide) (by decide)), ?_⟩
  walk_at "vc"
  refine letter s3 ?_
  walk_at "vc"
  refine wo_repr (rp_letW r hk hc) (by decide) (by decide) ?_
  walk_at "vc"
  refine letter_of s3 ?_
  walk_at "vc"
  refine wo_repr (rp_letW r hk hc) (by decide) (by decide) ?_
  walk_at "vc"
  rw [reflE]
  refine q _ s3 ?_
  rw [List.length_set, List.length_append]
  omega
/-- a thing that is refused, as due -/
theorem refused {b kk : Nat} {w : W} (s : Sta S n put k c o) (h : Rp b kk w) (hb : b ≤ 100000) (hkk : kk ≤ 60) (hno : takes put.length c w = false) (hl : n + 3 < S.length) (q : ∀ T, Sta T n put k c o → n + 3 < T.length → P (.bl true) T) : (m_l_refused [.h n, w] S).wp P X := by
  obtain ⟨ww, w1, w2⟩ := s.w
  refine wp_run ?_
  unfold b_l_refused
  walk_at "vc"
  refine ⟨ins_of w1 (no_m (by decide) (by decide) (by decide)), ?_⟩
  walk_at "vc"
  refine take_no w1 (seq_of w2) h hb ?_ ?_
  · rw [List.length_drop, show k + (put.length - k) = put.length from by have := s.le; omega]
    exact hno
  refine ⟨by decide +kernel, by show 3 < 4; decide, ?_⟩
  have at1 : (S ++ [.exn "NoLetter" [("asked", w)]])[S.length]? = some (.exn "NoLetter" [("asked", w)]) := at_new
  walk_at "vc"
  refine wp_ok ?_
  walk_at "vc"
  refine iteB (fun z => by cases z) (fun _ => ?_)
  walk_at "vc"
  have x1 : ∀ {Q : W → Sto → Prop} {Y : XP} {c2 : W} {bb : Bool}, kx "NoLetter" c2 = some bb → (∀ cs, c2 ≠ .tup cs) → Q (.bl bb) (S ++ [.exn "NoLetter" [("asked", w)]]) → (bIsX kx [.h S.length, c2] (S ++ [.exn "NoLetter" [("asked", w)]])).wp Q Y := fun {Q Y c2 bb} e ne q => by
    unfold bIsX
    dsimp only
    rw [at1]
    dsimp only
    cases c2 <;> first | exact absurd rfl (ne _) | (dsimp only; rw [e]; exact q)
  have x2 : ∀ {Q : W → Sto → Prop} {Y : XP} {c0 : W} {cs : List W} {bb : Bool}, kxAll kx "NoLetter" (c0 :: cs) = true → kxAny kx "NoLetter" (c0 :: cs) = some bb → Q (.bl bb) (S ++ [.exn "NoLetter" [("asked", w)]]) → (bIsX kx [.h S.length, .tup (c0 :: cs)] (S ++ [.exn "NoLetter" [("asked", w)]])).wp Q Y := fun {Q Y c0 cs bb} e1 e2 q => by
    unfold bIsX
    dsimp only
    rw [at1]
    dsimp only
    rw [if_pos e1, e2]
    exact q
  refine x2 (bb := false) (by decide +kernel) (by decide +kernel) ?_
  walk_at "vc"
  refine iteB (fun z => by cases z) (fun _ => ?_)
  walk_at "vc"
  refine x1 (bb := true) (by decide +kernel) (fun _ z => by cases z) ?_
  walk_at "vc"
  refine iteB (fun z => by cases z) (fun _ => ?_)
  walk_at "vc"
  refine ⟨w, ?_, ?_⟩
  · unfold exfOf
    dsimp only
    rw [at1]
    dsimp only
    rw [if_pos (by simp)]
    simp [List.lookup]
  walk_at "vc"
  refine wo_repr h (by omega) hkk ?_
  walk_at "vc"
  refine wo_repr h (by omega) hkk ?_
  walk_at "vc"
  have : eqF (.str (reprW w)) (.str (reprW w)) = true := by
    show (reprW w == reprW w) = true
    simp
  rw [this]
  refine q _ s.app ?_
  rw [List.length_append]
  omega
end
end Mi.L26

set_option Elab.async false
set_option linter.all false
set_option maxRecDepth 100000
set_option maxHeartbeats 4000000
namespace Mi.L26
open PySem L2 Mi
local macro_rules | `(tactic| walk_at "v1") => `(tactic| first | with_reducible refine wp_seq ?_ | with_reducible refine wp_set ?_ | with_reducible refine wp_ret ?_ | with_reducible refine wp_if ?_ | with_reducible refine wp_expr ?_ | ((with_reducible apply wp_v); · rfl) | with_reducible refine wp_c ?_ | with_reducible refine wp_2 ?_ | with_reducible refine wp_t2 ?_ | with_reducible refine wp_asB ?_ | with_reducible refine wp_acons ?_ | with_reducible refine wp_anil ?_ | with_reducible refine wp_nil ?_ | with_reducible refine wp_call0 ?_ | with_reducible refine wp_call ?_ | with_reducible refine wp_b ?_ | with_reducible refine wp_tvB ?_ | with_reducible refine wp_tand ?_ | with_reducible refine wp_tor ?_ | with_reducible refine wp_tnot ?_ | with_reducible refine wp_and ?_ | with_reducible refine wp_or ?_ | with_reducible refine wp_not ?_ | with_reducible refine wp_ifE ?_ | with_reducible refine wp_neg ?_ | with_reducible refine wp_tup ?_ | with_reducible refine wp_lst ?_ | with_reducible refine wp_lstH ?_ | with_reducible refine wp_sl ?_ | with_reducible refine wp_pn ?_ | with_reducible refine wp_ps ?_ | with_reducible refine wp_asI ?_ | with_reducible refine wp_meth0 ?_ | with_reducible refine wp_meth ?_ | with_reducible refine wp_make0 ?_ | with_reducible refine wp_make ?_ | with_reducible refine wp_m ?_ | with_reducible refine wp_fld ?_ | with_reducible refine wp_exf ?_ | with_reducible refine wp_frz ?_ | with_reducible refine wp_rev ?_ | with_reducible refine wp_rev4 ?_ | with_reducible refine wp_fmt ?_ | with_reducible refine wp_j0 ?_ | with_reducible refine wp_j1 ?_ | with_reducible refine wp_dct0 ?_ | with_reducible refine wp_pairs0 ?_ | with_reducible refine wp_pairs1 ?_ | with_reducible refine wp_dct ?_ | with_reducible refine wp_finDH ?_ | with_reducible refine wp_finD ?_ | with_reducible refine wp_finL ?_ | with_reducible refine wp_finH ?_ | with_reducible refine wp_retN ?_ | with_reducible refine wp_brk ?_ | with_reducible refine wp_cont ?_ | with_reducible refine wp_asg ?_ | with_reducible refine wp_gname ?_ | with_reducible refine wp_gtup rfl ?_ | with_reducible refine wp_par ?_ | with_reducible refine wp_sfld ?_ | with_reducible refine wp_sfldaug ?_ | with_reducible refine wp_ssub ?_ | with_reducible refine wp_raise ?_ | with_reducible refine wp_keep ?_ | with_reducible refine wp_range1 ?_ | with_reducible refine wp_range2 ?_ | with_reducible refine wp_val ?_ | with_reducible refine wp_for ?_ | with_reducible refine wp_lc ?_ | with_reducible refine wp_tyes ?_ | with_reducible refine wp_ch ?_ | with_reducible refine wp_tch ?_ | with_reducible refine wo_add ?_ | with_reducible refine wo_sub ?_ | with_reducible refine wo_lt ?_ | with_reducible refine wo_le ?_ | with_reducible refine wo_gt ?_ | with_reducible refine wo_ge ?_ | with_reducible refine wo_abs ?_ | ((with_reducible refine wo_eqF ?_ ?_); · rfl) | ((with_reducible refine wo_neF ?_ ?_); · rfl) | with_reducible refine wo_neg ?_ | with_reducible refine wo_slTd ?_ | with_reducible refine wo_slLd ?_ | with_reducible refine wo_slTt ?_ | with_reducible refine wo_slLt ?_ | with_reducible refine wo_slT ?_ | with_reducible refine wo_slL ?_ | with_reducible refine wo_slS ?_ | with_reducible refine wo_trB ?_ | ((with_reducible refine And.intro (a := List.length _ = _) ?_ ?_); · rfl) | ((with_reducible refine And.intro (a := List.length _ ≤ _) ?_ ?_); · exact Nat.le_of_ble_eq_true rfl))
local macro_rules | `(tactic| walk_at "vc") => `(tactic| repeat walk_at "v1")
local macro_rules | `(tactic| walk_at "w1") => `(tactic| first | with_reducible refine wp_seq ?_ | with_reducible refine wp_setE (by assumption) ?_ | with_reducible refine wp_ret ?_ | with_reducible refine wp_if ?_ | with_reducible refine wp_expr ?_ | ((with_reducible refine' wp_vE (by assumption) ?hh ?_); case hh => rfl) | with_reducible refine wp_c ?_ | with_reducible refine wp_2 ?_ | with_reducible refine wp_t2 ?_ | with_reducible refine wp_asB ?_ | with_reducible refine wp_acons ?_ | with_reducible refine wp_anil ?_ | with_reducible refine wp_nil ?_ | with_reducible refine wp_call0 ?_ | with_reducible refine wp_call ?_ | with_reducible refine wp_b ?_ | with_reducible refine wp_tvB ?_ | with_reducible refine wp_tand ?_ | with_reducible refine wp_tor ?_ | with_reducible refine wp_tnot ?_ | with_reducible refine wp_and ?_ | with_reducible refine wp_or ?_ | with_reducible refine wp_not ?_ | with_reducible refine wp_ifE ?_ | with_reducible refine wp_neg ?_ | with_reducible refine wp_tup ?_ | with_reducible refine wp_lst ?_ | with_reducible refine wp_lstH ?_ | with_reducible refine wp_sl ?_ | with_reducible refine wp_pn ?_ | with_reducible refine wp_ps ?_ | with_reducible refine wp_asI ?_ | with_reducible refine wp_meth0 ?_ | with_reducible refine wp_meth ?_ | with_reducible refine wp_make0 ?_ | with_reducible refine wp_make ?_ | with_reducible refine wp_m ?_ | with_reducible refine wp_fld ?_ | with_reducible refine wp_exf ?_ | with_reducible refine wp_frz ?_ | with_reducible refine wp_rev ?_ | with_reducible refine wp_rev4 ?_ | with_reducible refine wp_fmt ?_ | with_reducible refine wp_j0 ?_ | with_reducible refine wp_j1 ?_ | with_reducible refine wp_dct0 ?_ | with_reducible refine wp_pairs0 ?_ | with_reducible refine wp_pairs1 ?_ | with_reducible refine wp_dct ?_ | with_reducible refine wp_finDH ?_ | with_reducible refine wp_finD ?_ | with_reducible refine wp_finL ?_ | with_reducible refine wp_finH ?_ | with_reducible refine wp_retN ?_ | with_reducible refine wp_brk ?_ | with_reducible refine wp_cont ?_ | with_reducible refine wp_asg ?_ | with_reducible refine wp_gnameE (by assumption) ?_ | with_reducible refine wp_gtupE (by assumption) rfl ?_ | with_reducible refine wp_parE (by assumption) ?_ | with_reducible refine wp_sfld ?_ | with_reducible refine wp_sfldaug ?_ | with_reducible refine wp_ssub ?_ | with_reducible refine wp_raise ?_ | with_reducible refine wp_keepE ?_ | with_reducible refine wp_range1 ?_ | with_reducible refine wp_range2 ?_ | with_reducible refine wp_val ?_ | with_reducible refine wp_for ?_ | with_reducible refine wp_lcE (by assumption) ?_ | with_reducible refine wp_tyes ?_ | ((with_reducible refine AllE.of ?_); intro env' he'; dsimp only [List.set, setAll, wipeE, List.map, List.replicate, List.length, List.append, HAppend.hAppend, Append.append] at he') | with_reducible refine wp_ch ?_ | with_reducible refine wp_tch ?_ | with_reducible refine wo_add ?_ | with_reducible refine wo_sub ?_ | with_reducible refine wo_lt ?_ | with_reducible refine wo_le ?_ | with_reducible refine wo_gt ?_ | with_reducible refine wo_ge ?_ | with_reducible refine wo_abs ?_ | ((with_reducible refine wo_eqF ?_ ?_); · rfl) | ((with_reducible refine wo_neF ?_ ?_); · rfl) | with_reducible refine wo_neg ?_ | with_reducible refine wo_slTd ?_ | with_reducible refine wo_slLd ?_ | with_reducible refine wo_slTt ?_ | with_reducible refine wo_slLt ?_ | with_reducible refine wo_slT ?_ | with_reducible refine wo_slL ?_ | with_reducible refine wo_slS ?_ | with_reducible refine wo_trB ?_ | ((with_reducible refine And.intro (a := List.length _ = _) ?_ ?_); · rfl) | ((with_reducible refine And.intro (a := List.length _ ≤ _) ?_ ?_); · exact Nat.le_of_ble_eq_true rfl))
local macro_rules | `(tactic| walk_at "wc") => `(tactic| repeat walk_at "w1")
local macro_rules | `(tactic| walk_at "j1") => `(tactic| first | with_reducible refine wp_seq ?_ | with_reducible refine wp_setE (by assumption) ?_ | with_reducible refine wp_ret ?_ | with_reducible refine wp_expr ?_ | ((with_reducible refine' wp_vE (by assumption) ?hh ?_); case hh => rfl) | with_reducible refine wp_c ?_ | with_reducible refine wp_2 ?_ | with_reducible refine wp_t2 ?_ | with_reducible refine wp_asB ?_ | with_reducible refine wp_acons ?_ | with_reducible refine wp_anil ?_ | with_reducible refine wp_nil ?_ | with_reducible refine wp_call0 ?_ | with_reducible refine wp_call ?_ | with_reducible refine wp_b ?_ | with_reducible refine wp_tvB ?_ | with_reducible refine wp_tand ?_ | with_reducible refine wp_tor ?_ | with_reducible refine wp_tnot ?_ | with_reducible refine wp_and ?_ | with_reducible refine wp_or ?_ | with_reducible refine wp_not ?_ | with_reducible refine wp_ifE ?_ | with_reducible refine wp_neg ?_ | with_reducible refine wp_tup ?_ | with_reducible refine wp_lst ?_ | with_reducible refine wp_lstH ?_ | with_reducible refine wp_sl ?_ | with_reducible refine wp_pn ?_ | with_reducible refine wp_ps ?_ | with_reducible refine wp_asI ?_ | with_reducible refine wp_meth0 ?_ | with_reducible refine wp_meth ?_ | with_reducible refine wp_make0 ?_ | with_reducible refine wp_make ?_ | with_reducible refine wp_m ?_ | with_reducible refine wp_fld ?_ | with_reducible refine wp_exf ?_ | with_reducible refine wp_frz ?_ | with_reducible refine wp_rev ?_ | with_reducible refine wp_rev4 ?_ | with_reducible refine wp_fmt ?_ | with_reducible refine wp_j0 ?_ | with_reducible refine wp_j1 ?_ | with_reducible refine wp_dct0 ?_ | with_reducible refine wp_pairs0 ?_ | with_reducible refine wp_pairs1 ?_ | with_reducible refine wp_dct ?_ | with_reducible refine wp_finDH ?_ | with_reducible refine wp_finD ?_ | with_reducible refine wp_finL ?_ | with_reducible refine wp_finH ?_ | with_reducible refine wp_retN ?_ | with_reducible refine wp_brk ?_ | with_reducible refine wp_cont ?_ | with_reducible refine wp_asg ?_ | with_reducible refine wp_gnameE (by assumption) ?_ | with_reducible refine wp_gtupE (by assumption) rfl ?_ | with_reducible refine wp_parE (by assumption) ?_ | with_reducible refine wp_sfld ?_ | with_reducible refine wp_sfldaug ?_ | with_reducible refine wp_ssub ?_ | with_reducible refine wp_raise ?_ | with_reducible refine wp_keepE ?_ | with_reducible refine wp_range1 ?_ | with_reducible refine wp_range2 ?_ | with_reducible refine wp_val ?_ | with_reducible refine wp_for ?_ | with_reducible refine wp_lcE (by assumption) ?_ | with_reducible refine wp_tyes ?_ | ((with_reducible refine AllE.of ?_); intro env' he'; dsimp only [List.set, setAll, wipeE, List.map, List.replicate, List.length, List.append, HAppend.hAppend, Append.append] at he') | with_reducible refine wp_ch ?_ | with_reducible refine wp_tch ?_ | with_reducible refine wo_add ?_ | with_reducible refine wo_sub ?_ | with_reducible refine wo_lt ?_ | with_reducible refine wo_le ?_ | with_reducible refine wo_gt ?_ | with_reducible refine wo_ge ?_ | with_reducible refine wo_abs ?_ | ((with_reducible refine wo_eqF ?_ ?_); · rfl) | ((with_reducible refine wo_neF ?_ ?_); · rfl) | with_reducible refine wo_neg ?_ | with_reducible refine wo_slTd ?_ | with_reducible refine wo_slLd ?_ | with_reducible refine wo_slTt ?_ | with_reducible refine wo_slLt ?_ | with_reducible refine wo_slT ?_ | with_reducible refine wo_slL ?_ | with_reducible refine wo_slS ?_ | with_reducible refine wo_trB ?_ | ((with_reducible refine And.intro (a := List.length _ = _) ?_ ?_); · rfl) | ((with_reducible refine And.intro (a := List.length _ ≤ _) ?_ ?_); · exact Nat.le_of_ble_eq_true rfl))
local macro_rules | `(tactic| walk_at "wj") => `(tactic| repeat walk_at "j1")
/-- a thing that a letter is bent to -/
def Th (B K : Nat) (w : W) : Prop := Rp B K w ∧ ∀ x y z u, w = .tup [x, y, z, u] → NeOk x ∧ NeOk u
theorem tup4 {B K : Nat} {a b c d : W} (ha : Rp B K a) (hb : Rp B K b) (hc : Rp B K c) (hd : Rp B K d) : Rp (4 * (B + 1)) (K + 1) (.tup [a, b, c, d]) :=
  (RpAll.tup (RpAll.cons ha (RpAll.cons hb (RpAll.cons hc (RpAll.cons hd RpAll.nil))))).mono (by omega) (Nat.le_refl _)
theorem th4 {B K : Nat} {a b c d : W} (ha : Rp B K a) (hb : Rp B K b) (hc : Rp B K c) (hd : Rp B K d) (na : NeOk a) (nd : NeOk d) : Th (4 * (B + 1)) (K + 1) (.tup [a, b, c, d]) :=
  ⟨tup4 ha hb hc hd, fun x y z u e => by cases e; exact ⟨na, nd⟩⟩
section
variable {S : Sto} {n k c m : Nat} {put : List W} {o : Ob} {P : W → Sto → Prop} {X : XP}
theorem bent {a b d : W} {rs : List W} {B K : Nat} (s : Sta S n put k c o) (hp : IsPen (m + 4) o) (hl : n + 3 < S.length) (r : Rows put) (hc : c < 1000) (h : Rp B K (.tup [a, b, .tup rs, d])) (na : NeOk a) (nd : NeOk d) (hB : B ≤ 20000)
    (q : ∀ (w : W) (T : Sto) (o' : Ob), Sta T n put k c o' → IsPen m o' → n + 3 < T.length → Th (4 * (B + 52)) (K + 5) w → P w T) : (m_l_bent [.h 0, .h (n + 3), .tup [a, b, .tup rs, d]] S).wp P X := by
  have ha : Rp (B + 51) (K + 4) a := (h.all.mem (by simp)).mono (by omega) (by omega)
  have hb : Rp (B + 51) (K + 4) b := (h.all.mem (by simp)).mono (by omega) (by omega)
  have hr : Rp (B + 51) (K + 4) (.tup rs) := (h.all.mem (by simp)).mono (by omega) (by omega)
  have hd : Rp (B + 51) (K + 4) d := (h.all.mem (by simp)).mono (by omega) (by omega)
  have hrs : RpAll B K rs := (Rp.all (h.all.mem (by simp)))
  refine wp_runE ?_
  unfold b_l_bent
  walk_at "wc"
  refine odd s.pen hp fun w1 o1 h1 hp1 => ?_
  have s1 : Sta (S.set 0 o1) n put k c o1 := s.toPen
  have O1 : Rp (B + 51) (K + 4) w1 := h1.1.mono (by omega) (by omega)
  walk_at "wc"
  refine wo_ixd s1.e e_taken ?_
  walk_at "wc"
  refine wo_ixd s1.e e_put ?_
  walk_at "wc"
  refine wo_len (n := put.length) (by unfold lenOf; dsimp only; rw [s1.p]) ?_
  walk_at "wc"
  refine draw s1.pen hp1 (by decide) (by decide) fun d1 o2 d10 d11 hp2 => ?_
  rw [List.set_set]
  have s2 : Sta (S.set 0 o2) n put k c o2 := s.toPen
  refine wo_ixlM d10 d11 fun num hnum => ?_
  have hnum' : Rp (B + 51) (K + 4) num ∧ NeOk num := by
    simp only [List.mem_cons, List.not_mem_nil, or_false] at hnum
    have := r.l
    rcases hnum with rfl | rfl | rfl | rfl | rfl | rfl | rfl | rfl
    · exact ⟨Rp.bl, ne_bl⟩
    · exact ⟨Rp.bl, ne_bl⟩
    · exact ⟨Rp.int (by decide), ne_int⟩
    · exact ⟨Rp.str (Nat.le_trans (by decide +kernel : _ ≤ 1) (by omega)) (by decide +kernel), ne_txt⟩
    · exact ⟨Rp.non, ne_non⟩
    · exact ⟨Rp.int (by omega), ne_int⟩
    · exact ⟨Rp.int (by omega), ne_int⟩
    · exact ⟨O1, h1.2.1⟩
  walk_at "wc"
  refine wo_list (ws := rs) rfl ?_
  walk_at "wc"
  have e3 : (S.set 0 o2).length = S.length := by rw [List.length_set]
  have len2 : n + 3 < (S.set 0 o2).length := by omega
  have s3 : ∀ x : Ob, Sta (S.set 0 o2 ++ [x]) n put k c o2 := fun x => s2.app
  refine ⟨isLst_h at_new, ?_⟩
  walk_at "wc"
  refine pick (s3 _).pen hp2 (by decide) (by decide) fun pk o3 hpk hp3 => ?_
  have hpk' : Rp (B + 51) (K + 4) pk ∧ NeOk pk := by
    simp only [List.mem_cons, List.not_mem_nil, or_false] at hpk
    rcases hpk with rfl | rfl | rfl | rfl | rfl
    · exact ⟨Rp.str (Nat.le_trans (by decide +kernel : _ ≤ 3) (by omega)) (by decide +kernel), ne_txt⟩
    · exact ⟨Rp.str (Nat.le_trans (by decide +kernel : _ ≤ 3) (by omega)) (by decide +kernel), ne_txt⟩
    · exact ⟨Rp.non, ne_non⟩
    · exact ⟨Rp.str (Nat.le_trans (by decide +kernel : _ ≤ 4) (by omega)) (by decide +kernel), ne_txt⟩
    · exact ⟨Rp.int (by decide), ne_int⟩
  have at3 : ∀ {x : Ob}, ((S.set 0 o2 ++ [x]).set 0 o3)[(S.set 0 o2).length]? = some x := fun {x} => at_set_ne at_new (by omega)
  walk_at "wc"
  refine wo_append at3 (by show 3 < sizeLine; decide) ?_
  walk_at "wc"
  refine ⟨isLst_h (at_set at3), ?_⟩
  walk_at "wc"
  refine wo_catT ?_ ?_
  · have := hrs.len
    show rs.length + 1 ≤ sizeLine
    have : (20001 : Nat) ≤ sizeLine := by decide
    omega
  walk_at "wc"
  refine wo_append (at_set at3) (by show 4 < sizeLine; decide) ?_
  rw [List.set_set]
  walk_at "wc"
  refine wo_catT (by show 5 ≤ sizeLine; decide) ?_
  walk_at "wc"
  refine wo_list (ws := [a, b, .tup rs, d]) rfl ?_
  walk_at "wc"
  refine ⟨_, rfl, ?_⟩
  walk_at "wc"
  refine wo_catL (lstAt_eq.mpr (at_set at3)) rfl (by show 11 ≤ sizeLine; decide) ?_
  walk_at "wc"
  have s4 : ∀ x y : Ob, Sta (((S.set 0 o2 ++ [x]).set 0 o3).set (S.set 0 o2).length y) n put k c o3 := fun x y => ((s3 x).toPen).late (by omega)
  refine pick (s4 _ _).pen hp3 (by show 0 < 11; decide) (by show 11 < 1000; decide) fun w o4 hw hp4 => ?_
  walk_at "wc"
  refine q w _ o4 (s4 _ _).toPen hp4 ?_ ?_
  · simp only [List.length_set, List.length_append]
    omega
  have B4 : 4 * (B + 52) = 4 * (B + 51 + 1) := by omega
  have K5 : K + 5 = K + 4 + 1 := rfl
  have O1' : Rp 50 3 w1 := h1.1
  simp only [List.cons_append, List.nil_append, List.mem_cons, List.not_mem_nil, or_false] at hw
  rcases hw with rfl | rfl | rfl | rfl | rfl | rfl | rfl | rfl | rfl | rfl | rfl
  · exact th4 ha hnum'.1 hr hd na nd
  · exact th4 ha hb hr hnum'.1 na hnum'.2
  · exact th4 ha hb ((RpAll.lst hrs).mono (by omega) (by omega)) hd na nd
  · exact th4 hpk'.1 hb hr hd hpk'.2 nd
  · refine th4 ha hb ?_ hd na nd
    exact (RpAll.tup ((hrs.mono (Nat.le_refl _) (by omega : K ≤ K + 3)).append (RpAll.cons (O1'.mono (Nat.le_refl _) (by omega : 3 ≤ K + 3)) RpAll.nil))).mono (by omega) (by omega)
  · refine ⟨?_, fun x y z u e => ?_⟩
    · exact (RpAll.tup (RpAll.cons ha (RpAll.cons hb (RpAll.cons hr RpAll.nil)))).mono (by omega) (by omega)
    · have : cutW [a, b, .tup rs, d] none (some 3) = [a, b, .tup rs] := rfl
      rw [this] at e
      cases e
  · refine ⟨?_, fun x y z u e => by cases e⟩
    exact (RpAll.tup (h.all.append (RpAll.cons (Rp.int (b := 0) (by decide)) RpAll.nil))).mono (by omega) (by omega)
  · refine ⟨?_, fun x y z u e => by cases e⟩
    exact (RpAll.lst h.all).mono (by omega) (by omega)
  · exact th4 hd hr hb ha nd na
  · exact th4 ha hb O1 hd na nd
  · exact ⟨O1'.mono (by omega) (by omega), h1.2.2⟩
end
end Mi.L26

set_option Elab.async false
set_option linter.all false
set_option maxRecDepth 100000
set_option maxHeartbeats 4000000
namespace Mi.L26
open PySem L2 Mi
local macro_rules | `(tactic| walk_at "v1") => `(tactic| first | with_reducible refine wp_seq ?_ | with_reducible refine wp_set ?_ | with_reducible refine wp_ret ?_ | with_reducible refine wp_if ?_ | with_reducible refine wp_expr ?_ | ((with_reducible apply wp_v); · rfl) | with_reducible refine wp_c ?_ | with_reducible refine wp_2 ?_ | with_reducible refine wp_t2 ?_ | with_reducible refine wp_asB ?_ | with_reducible refine wp_acons ?_ | with_reducible refine wp_anil ?_ | with_reducible refine wp_nil ?_ | with_reducible refine wp_call0 ?_ | with_reducible refine wp_call ?_ | with_reducible refine wp_b ?_ | with_reducible refine wp_tvB ?_ | with_reducible refine wp_tand ?_ | with_reducible refine wp_tor ?_ | with_reducible refine wp_tnot ?_ | with_reducible refine wp_and ?_ | with_reducible refine wp_or ?_ | with_reducible refine wp_not ?_ | with_reducible refine wp_ifE ?_ | with_reducible refine wp_neg ?_ | with_reducible refine wp_tup ?_ | with_reducible refine wp_lst ?_ | with_reducible refine wp_lstH ?_ | with_reducible refine wp_sl ?_ | with_reducible refine wp_pn ?_ | with_reducible refine wp_ps ?_ | with_reducible refine wp_asI ?_ | with_reducible refine wp_meth0 ?_ | with_reducible refine wp_meth ?_ | with_reducible refine wp_make0 ?_ | with_reducible refine wp_make ?_ | with_reducible refine wp_m ?_ | with_reducible refine wp_fld ?_ | with_reducible refine wp_exf ?_ | with_reducible refine wp_frz ?_ | with_reducible refine wp_rev ?_ | with_reducible refine wp_rev4 ?_ | with_reducible refine wp_fmt ?_ | with_reducible refine wp_j0 ?_ | with_reducible refine wp_j1 ?_ | with_reducible refine wp_dct0 ?_ | with_reducible refine wp_pairs0 ?_ | with_reducible refine wp_pairs1 ?_ | with_reducible refine wp_dct ?_ | with_reducible refine wp_finDH ?_ | with_reducible refine wp_finD ?_ | with_reducible refine wp_finL ?_ | with_reducible refine wp_finH ?_ | with_reducible refine wp_retN ?_ | with_reducible refine wp_brk ?_ | with_reducible refine wp_cont ?_ | with_reducible refine wp_asg ?_ | with_reducible refine wp_gname ?_ | with_reducible refine wp_gtup rfl ?_ | with_reducible refine wp_par ?_ | with_reducible refine wp_sfld ?_ | with_reducible refine wp_sfldaug ?_ | with_reducible refine wp_ssub ?_ | with_reducible refine wp_raise ?_ | with_reducible refine wp_keep ?_ | with_reducible refine wp_range1 ?_ | with_reducible refine wp_range2 ?_ | with_reducible refine wp_val ?_ | with_reducible refine wp_for ?_ | with_reducible refine wp_lc ?_ | with_reducible refine wp_tyes ?_ | with_reducible refine wp_ch ?_ | with_reducible refine wp_tch ?_ | with_reducible refine wo_add ?_ | with_reducible refine wo_sub ?_ | with_reducible refine wo_lt ?_ | with_reducible refine wo_le ?_ | with_reducible refine wo_gt ?_ | with_reducible refine wo_ge ?_ | with_reducible refine wo_abs ?_ | ((with_reducible refine wo_eqF ?_ ?_); · rfl) | ((with_reducible refine wo_neF ?_ ?_); · rfl) | with_reducible refine wo_neg ?_ | with_reducible refine wo_slTd ?_ | with_reducible refine wo_slLd ?_ | with_reducible refine wo_slTt ?_ | with_reducible refine wo_slLt ?_ | with_reducible refine wo_slT ?_ | with_reducible refine wo_slL ?_ | with_reducible refine wo_slS ?_ | with_reducible refine wo_trB ?_ | ((with_reducible refine And.intro (a := List.length _ = _) ?_ ?_); · rfl) | ((with_reducible refine And.intro (a := List.length _ ≤ _) ?_ ?_); · exact Nat.le_of_ble_eq_true rfl))
local macro_rules | `(tactic| walk_at "vc") => `(tactic| repeat walk_at "v1")
local macro_rules | `(tactic| walk_at "w1") => `(tactic| first | with_reducible refine wp_seq ?_ | with_reducible refine wp_setE (by assumption) ?_ | with_reducible refine wp_ret ?_ | with_reducible refine wp_if ?_ | with_reducible refine wp_expr ?_ | ((with_reducible refine' wp_vE (by assumption) ?hh ?_); case hh => rfl) | with_reducible refine wp_c ?_ | with_reducible refine wp_2 ?_ | with_reducible refine wp_t2 ?_ | with_reducible refine wp_asB ?_ | with_reducible refine wp_acons ?_ | with_reducible refine wp_anil ?_ | with_reducible refine wp_nil ?_ | with_reducible refine wp_call0 ?_ | with_reducible refine wp_call ?_ | with_reducible refine wp_b ?_ | with_reducible refine wp_tvB ?_ | with_reducible refine wp_tand ?_ | with_reducible refine wp_tor ?_ | with_reducible refine wp_tnot ?_ | with_reducible refine wp_and ?_ | with_reducible refine wp_or ?_ | with_reducible refine wp_not ?_ | with_reducible refine wp_ifE ?_ | with_reducible refine wp_neg ?_ | with_reducible refine wp_tup ?_ | with_reducible refine wp_lst ?_ | with_reducible refine wp_lstH ?_ | with_reducible refine wp_sl ?_ | with_reducible refine wp_pn ?_ | with_reducible refine wp_ps ?_ | with_reducible refine wp_asI ?_ | with_reducible refine wp_meth0 ?_ | with_reducible refine wp_meth ?_ | with_reducible refine wp_make0 ?_ | with_reducible refine wp_make ?_ | with_reducible refine wp_m ?_ | with_reducible refine wp_fld ?_ | with_reducible refine wp_exf ?_ | with_reducible refine wp_frz ?_ | with_reducible refine wp_rev ?_ | with_reducible refine wp_rev4 ?_ | with_reducible refine wp_fmt ?_ | with_reducible refine wp_j0 ?_ | with_reducible refine wp_j1 ?_ | with_reducible refine wp_dct0 ?_ | with_reducible refine wp_pairs0 ?_ | with_reducible refine wp_pairs1 ?_ | with_reducible refine wp_dct ?_ | with_reducible refine wp_finDH ?_ | with_reducible refine wp_finD ?_ | with_reducible refine wp_finL ?_ | with_reducible refine wp_finH ?_ | with_reducible refine wp_retN ?_ | with_reducible refine wp_brk ?_ | with_reducible refine wp_cont ?_ | with_reducible refine wp_asg ?_ | with_reducible refine wp_gnameE (by assumption) ?_ | with_reducible refine wp_gtupE (by assumption) rfl ?_ | with_reducible refine wp_parE (by assumption) ?_ | with_reducible refine wp_sfld ?_ | with_reducible refine wp_sfldaug ?_ | with_reducible refine wp_ssub ?_ | with_reducible refine wp_raise ?_ | with_reducible refine wp_keepE ?_ | with_reducible refine wp_range1 ?_ | with_reducible refine wp_range2 ?_ | with_reducible refine wp_val ?_ | with_reducible refine wp_for ?_ | with_reducible refine wp_lcE (by assumption) ?_ | with_reducible refine wp_tyes ?_ | ((with_reducible refine AllE.of ?_); intro env' he'; dsimp only [List.set, setAll, wipeE, List.map, List.replicate, List.length, List.append, HAppend.hAppend, Append.append] at he') | with_reducible refine wp_ch ?_ | with_reducible refine wp_tch ?_ | with_reducible refine wo_add ?_ | with_reducible refine wo_sub ?_ | with_reducible refine wo_lt ?_ | with_reducible refine wo_le ?_ | with_reducible refine wo_gt ?_ | with_reducible refine wo_ge ?_ | with_reducible refine wo_abs ?_ | ((with_reducible refine wo_eqF ?_ ?_); · rfl) | ((with_reducible refine wo_neF ?_ ?_); · rfl) | with_reducible refine wo_neg ?_ | with_reducible refine wo_slTd ?_ | with_reducible refine wo_slLd ?_ | with_reducible refine wo_slTt ?_ | with_reducible refine wo_slLt ?_ | with_reducible refine wo_slT ?_ | with_reducible refine wo_slL ?_ | with_reducible refine wo_slS ?_ | with_reducible refine wo_trB ?_ | ((with_reducible refine And.intro (a := List.length _ = _) ?_ ?_); · rfl) | ((with_reducible refine And.intro (a := List.length _ ≤ _) ?_ ?_); · exact Nat.le_of_ble_eq_true rfl))
local macro_rules | `(tactic| walk_at "wc") => `(tactic| repeat walk_at "w1")
local macro_rules | `(tactic| walk_at "j1") => `(tactic| first | with_reducible refine wp_seq ?_ | with_reducible refine wp_setE (by assumption) ?_ | with_reducible refine wp_ret ?_ | with_reducible refine wp_expr ?_ | ((with_reducible refine' wp_vE (by assumption) ?hh ?_); case hh => rfl) | with_reducible refine wp_c ?_ | with_reducible refine wp_2 ?_ | with_reducible refine wp_t2 ?_ | with_reducible refine wp_asB ?_ | with_reducible refine wp_acons ?_ | with_reducible refine wp_anil ?_ | with_reducible refine wp_nil ?_ | with_reducible refine wp_call0 ?_ | with_reducible refine wp_call ?_ | with_reducible refine wp_b ?_ | with_reducible refine wp_tvB ?_ | with_reducible refine wp_tand ?_ | with_reducible refine wp_tor ?_ | with_reducible refine wp_tnot ?_ | with_reducible refine wp_and ?_ | with_reducible refine wp_or ?_ | with_reducible refine wp_not ?_ | with_reducible refine wp_ifE ?_ | with_reducible refine wp_neg ?_ | with_reducible refine wp_tup ?_ | with_reducible refine wp_lst ?_ | with_reducible refine wp_lstH ?_ | with_reducible refine wp_sl ?_ | with_reducible refine wp_pn ?_ | with_reducible refine wp_ps ?_ | with_reducible refine wp_asI ?_ | with_reducible refine wp_meth0 ?_ | with_reducible refine wp_meth ?_ | with_reducible refine wp_make0 ?_ | with_reducible refine wp_make ?_ | with_reducible refine wp_m ?_ | with_reducible refine wp_fld ?_ | with_reducible refine wp_exf ?_ | with_reducible refine wp_frz ?_ | with_reducible refine wp_rev ?_ | with_reducible refine wp_rev4 ?_ | with_reducible refine wp_fmt ?_ | with_reducible refine wp_j0 ?_ | with_reducible refine wp_j1 ?_ | with_reducible refine wp_dct0 ?_ | with_reducible refine wp_pairs0 ?_ | with_reducible refine wp_pairs1 ?_ | with_reducible refine wp_dct ?_ | with_reducible refine wp_finDH ?_ | with_reducible refine wp_finD ?_ | with_reducible refine wp_finL ?_ | with_reducible refine wp_finH ?_ | with_reducible refine wp_retN ?_ | with_reducible refine wp_brk ?_ | with_reducible refine wp_cont ?_ | with_reducible refine wp_asg ?_ | with_reducible refine wp_gnameE (by assumption) ?_ | with_reducible refine wp_gtupE (by assumption) rfl ?_ | with_reducible refine wp_parE (by assumption) ?_ | with_reducible refine wp_sfld ?_ | with_reducible refine wp_sfldaug ?_ | with_reducible refine wp_ssub ?_ | with_reducible refine wp_raise ?_ | with_reducible refine wp_keepE ?_ | with_reducible refine wp_range1 ?_ | with_reducible refine wp_range2 ?_ | with_reducible refine wp_val ?_ | with_reducible refine wp_for ?_ | with_reducible refine wp_lcE (by assumption) ?_ | with_reducible refine wp_tyes ?_ | ((with_reducible refine AllE.of ?_); intro env' he'; dsimp only [List.set, setAll, wipeE, List.map, List.replicate, List.length, List.append, HAppend.hAppend, Append.append] at he') | with_reducible refine wp_ch ?_ | with_reducible refine wp_tch ?_ | with_reducible refine wo_add ?_ | with_reducible refine wo_sub ?_ | with_reducible refine wo_lt ?_ | with_reducible refine wo_le ?_ | with_reducible refine wo_gt ?_ | with_reducible refine wo_ge ?_ | with_reducible refine wo_abs ?_ | ((with_reducible refine wo_eqF ?_ ?_); · rfl) | ((with_reducible refine wo_neF ?_ ?_); · rfl) | with_reducible refine wo_neg ?_ | with_reducible refine wo_slTd ?_ | with_reducible refine wo_slLd ?_ | with_reducible refine wo_slTt ?_ | with_reducible refine wo_slLt ?_ | with_reducible refine wo_slT ?_ | with_reducible refine wo_slL ?_ | with_reducible refine wo_slS ?_ | with_reducible refine wo_trB ?_ | ((with_reducible refine And.intro (a := List.length _ = _) ?_ ?_); · rfl) | ((with_reducible refine And.intro (a := List.length _ ≤ _) ?_ ?_); · exact Nat.le_of_ble_eq_true rfl))
local macro_rules | `(tactic| walk_at "wj") => `(tactic| repeat walk_at "j1")
/-- a wire that took a letter, its end not yet -/
structure Mid (S : Sto) (n : Nat) (put : List W) (k c k' c' : Nat) (o : Ob) : Prop where
  n0 : 0 < n
  pen : S[0]? = some o
  w : ∃ ww, S[n]? = some (.ins "Wire" (wireF k' ww c')) ∧ (ww = .lst (put.drop k') ∨ ww = .h (n + 1) ∧ S[n + 1]? = some (.lst (put.drop k')))
  p : S[n + 2]? = some (.lst put)
  e : S[n + 3]? = some (.dct (endKv (n + 2) k c))
  le : k' ≤ put.length
section
variable {S : Sto} {n k c m f g : Nat} {put rs : List W} {o : Ob} {P : W → Sto → Prop} {X : XP}
theorem take1 (s : Sta S n put k c o) (r : Rows rs) (hf : f ≤ c) (hg : g ≤ put.length) (hf1 : f < 1000) (hg1 : g < 1000) (hl : n + 3 < S.length)
    (q : ∀ T, Mid T n put k c (if k < g then g else k) (c + (rs.length - (c - f))) o → n + 3 < T.length → P (.lst (rs.drop (c - f))) T) : (m_Wire_take [.h n, .tup [.str "rows", .int (f : Nat), .tup rs, .int (g : Nat)]] S).wp P X := by
  obtain ⟨n0, pen, ⟨ww, w1, w2⟩, p, e, le⟩ := s
  refine take_ok w1 (seq_of w2) r.tups (rp_let r hf1 hg1) (by decide) hf ?_ ?_
  · rw [List.length_drop]
    omega
  refine q _ ⟨n0, at_set_ne pen (by omega), ?_, at_set_ne p (by omega), at_set_ne e (by omega), ?_⟩ (by rw [List.length_set]; exact hl)
  · by_cases h : k < g
    · rw [if_pos h, if_pos h]
      refine ⟨_, at_set w1, .inl ?_⟩
      rw [List.drop_drop, show k + (g - k) = g from by omega]
    · rw [if_neg h, if_neg h]
      refine ⟨ww, at_set w1, ?_⟩
      rcases w2 with w2 | ⟨w2, w3⟩
      · exact .inl w2
      · exact .inr ⟨w2, at_set_ne w3 (by omega)⟩
  · split <;> omega
theorem fresh1 {k' : Nat} (hk : k' = if k < g then g else k) (s : Mid S n put k c k' (c + (rs.length - (c - f))) o) (r : Rows rs) (hf : f ≤ c) (hl : n + 3 < S.length)
    (q : ∀ T, Sta T n put k' (c + (rs.length - (c - f))) o → n + 3 < T.length → P (.lst (rs.drop (c - f))) T) : (m_l_fresh_by [.h (n + 3), .tup [.str "rows", .int (f : Nat), .tup rs, .int (g : Nat)]] S).wp P X := by
  obtain ⟨n0, pen, ⟨ww, w1, w2⟩, p, e, le⟩ := s
  refine wp_runE ?_
  unfold b_l_fresh_by
  walk_at "wc"
  refine wo_ixt (w := .tup rs) (by decide) rfl ?_
  walk_at "wc"
  refine wo_list (ws := rs) rfl ?_
  walk_at "wc"
  refine wo_ixd e e_taken ?_
  walk_at "wc"
  refine wo_ixt (w := .int (f : Nat)) (by decide) rfl ?_
  walk_at "wc"
  refine wo_max ?_
  have e1 : (if ((c : Nat) : Int) - (f : Nat) > 0 then ((c : Nat) : Int) - (f : Nat) else 0) = ((c - f : Nat) : Int) := by split <;> omega
  rw [e1]
  walk_at "wc"
  refine wo_ixd e e_taken ?_
  walk_at "wc"
  refine wo_len (n := (rs.drop (c - f)).length) rfl ?_
  walk_at "wc"
  rw [List.length_drop, show ((c : Nat) : Int) + ((rs.length - (c - f) : Nat) : Int) = ((c + (rs.length - (c - f)) : Nat) : Int) from by omega]
  refine wp_opS (set_dct e el) ?_
  rw [es_taken]
  have e' := at_set (o' := .dct (endKv (n + 2) k (c + (rs.length - (c - f))))) e
  walk_at "wc"
  refine wo_ixd e' e_known ?_
  walk_at "wc"
  refine wo_ixt (w := .int (g : Nat)) (by decide) rfl ?_
  walk_at "wc"
  refine wo_max ?_
  have e2 : (if ((g : Nat) : Int) > (k : Nat) then ((g : Nat) : Int) else (k : Nat)) = ((k' : Nat) : Int) := by
    rw [hk]
    split <;> split <;> omega
  rw [e2]
  walk_at "wc"
  refine wp_opS (set_dct e' el) ?_
  rw [es_known, List.set_set]
  walk_at "wc"
  refine q _ ⟨n0, at_set_ne pen (by omega), ⟨ww, at_set_ne w1 (by omega), ?_⟩, at_set_ne p (by omega), at_set e, le⟩ (by rw [List.length_set]; exact hl)
  rcases w2 with w2 | ⟨w2, w3⟩
  · exact .inl w2
  · exact .inr ⟨w2, at_set_ne w3 (by omega)⟩
/-- new ones -/
theorem set_at {x y : Ob} {T : Sto} : (S ++ x :: T).set S.length y = S ++ y :: T := by
  rw [List.set_append_right _ _ (Nat.le_refl _), Nat.sub_self]
  rfl
theorem init (q : P .non (S ++ [.ins "Wire" (wireF 0 (.h (S.length + 1)) 0), .lst []])) : (m_Wire_init [.h S.length] (S ++ [.ins "Wire" []])).wp P X := by
  refine wp_runE ?_
  unfold b_Wire_init
  walk_at "wc"
  refine wp_opS (sfld (n := S.length) (fs := []) at_new (by decide)) ?_
  rw [set_at]
  walk_at "wc"
  refine wp_opS (sfld (n := S.length) (at_app at_new) (by show 1 < 1000; decide)) ?_
  rw [List.append_assoc, List.singleton_append, set_at]
  walk_at "wc"
  have e1 : (S ++ [Ob.ins "Wire" (putFW "waiting" (.h (S ++ [Ob.ins "Wire" (putFW "known" (.int 0) [])]).length) (putFW "known" (.int 0) [])), .lst []])[S.length]? = some (.ins "Wire" (putFW "waiting" (.h (S ++ [Ob.ins "Wire" (putFW "known" (.int 0) [])]).length) (putFW "known" (.int 0) []))) := by
    rw [List.getElem?_append_right (Nat.le_refl _), Nat.sub_self]
    rfl
  refine wp_opS (sfld (n := S.length) e1 (by simp [putFW, ofString_inj])) ?_
  rw [set_at]
  have e2 : putFW "came" (.int 0) (putFW "waiting" (.h (S ++ [Ob.ins "Wire" (putFW "known" (.int 0) [])]).length) (putFW "known" (.int 0) [])) = wireF 0 (.h (S.length + 1)) 0 := by
    simp [putFW, ofString_inj, wireF]
  rw [e2]
  exact q
theorem lend (q : P (.h (S.length + 1)) (S ++ [.lst [], .dct (endKv S.length 0 0)])) : (m_l_end [] S).wp P X := by
  refine wp_runE ?_
  unfold b_l_end
  walk_at "wc"
  refine ⟨_, rfl, ?_⟩
  walk_at "wc"
  refine ⟨_, rfl, ?_⟩
  walk_at "wc"
  refine ⟨_, rfl, ?_⟩
  walk_at "wc"
  rw [merge_new (by show [kS "put", kS "known", kS "taken"].Nodup; decide +kernel), List.append_assoc, List.length_append]
  exact q
/-- a wire and an end that were told rows alone -/
structure Ini (S : Sto) (n : Nat) (put : List W) (o : Ob) : Prop where
  n0 : 0 < n
  pen : S[0]? = some o
  w : S[n]? = some (.ins "Wire" (wireF 0 (.h (n + 1)) 0))
  q : S[n + 1]? = some (.lst put)
  p : S[n + 2]? = some (.lst put)
  e : S[n + 3]? = some (.dct (endKv (n + 2) 0 0))
  l : n + 3 < S.length
theorem Ini.sta (h : Ini S n put o) : Sta S n put 0 0 o := ⟨h.n0, h.pen, ⟨_, h.w, .inr ⟨rfl, by rw [List.drop_zero]; exact h.q⟩⟩, h.p, h.e, Nat.zero_le _⟩
theorem wput {row : W} {pt : List W} (hw : S[n]? = some (.ins "Wire" (wireF 0 (.h (n + 1)) 0))) (hq : S[n + 1]? = some (.lst pt)) (hl : pt.length < 1000) (q : ∀ w, P w (S.set (n + 1) (.lst (pt ++ [row])))) : (m_Wire_put [.h n, row] S).wp P X := by
  refine wp_runE ?_
  unfold b_Wire_put
  walk_at "wc"
  refine wp_opR (fld hw f_waiting) ?_
  walk_at "wc"
  refine ⟨isLst_h hq, ?_⟩
  walk_at "wc"
  refine wo_append hq (by have : (1000 : Nat) < sizeLine := by decide
                          omega) ?_
  walk_at "wc"
  have hw1 : (S.set (n + 1) (.lst (pt ++ [row])))[n]? = some (.ins "Wire" (wireF 0 (.h (n + 1)) 0)) := at_set_ne hw (by omega)
  refine wp_opR (fld hw1 f_known) ?_
  walk_at "wc"
  refine wp_opR (fld hw1 f_waiting) ?_
  walk_at "wc"
  refine wo_len (lenL (lstAt_eq.mpr (at_set hq))) ?_
  walk_at "wc"
  exact q _
end
end Mi.L26

set_option Elab.async false
set_option linter.all false
set_option maxRecDepth 100000
set_option maxHeartbeats 4000000
namespace Mi.L26
open PySem L2 Mi
local macro_rules | `(tactic| walk_at "v1") => `(tactic| first | with_reducible refine wp_seq ?_ | with_reducible refine wp_set ?_ | with_reducible refine wp_ret ?_ | with_reducible refine wp_if ?_ | with_reducible refine wp_expr ?_ | ((with_reducible apply wp_v); · rfl) | with_reducible refine wp_c ?_ | with_reducible refine wp_2 ?_ | with_reducible refine wp_t2 ?_ | with_reducible refine wp_asB ?_ | with_reducible refine wp_acons ?_ | with_reducible refine wp_anil ?_ | with_reducible refine wp_nil ?_ | with_reducible refine wp_call0 ?_ | with_reducible refine wp_call ?_ | with_reducible refine wp_b ?_ | with_reducible refine wp_tvB ?_ | with_reducible refine wp_tand ?_ | with_reducible refine wp_tor ?_ | with_reducible refine wp_tnot ?_ | with_reducible refine wp_and ?_ | with_reducible refine wp_or ?_ | with_reducible refine wp_not ?_ | with_reducible refine wp_ifE ?_ | with_reducible refine wp_neg ?_ | with_reducible refine wp_tup ?_ | with_reducible refine wp_lst ?_ | with_reducible refine wp_lstH ?_ | with_reducible refine wp_sl ?_ | with_reducible refine wp_pn ?_ | with_reducible refine wp_ps ?_ | with_reducible refine wp_asI ?_ | with_reducible refine wp_meth0 ?_ | with_reducible refine wp_meth ?_ | with_reducible refine wp_make0 ?_ | with_reducible refine wp_make ?_ | with_reducible refine wp_m ?_ | with_reducible refine wp_fld ?_ | with_reducible refine wp_exf ?_ | with_reducible refine wp_frz ?_ | with_reducible refine wp_rev ?_ | with_reducible refine wp_rev4 ?_ | with_reducible refine wp_fmt ?_ | with_reducible refine wp_j0 ?_ | with_reducible refine wp_j1 ?_ | with_reducible refine wp_dct0 ?_ | with_reducible refine wp_pairs0 ?_ | with_reducible refine wp_pairs1 ?_ | with_reducible refine wp_dct ?_ | with_reducible refine wp_finDH ?_ | with_reducible refine wp_finD ?_ | with_reducible refine wp_finL ?_ | with_reducible refine wp_finH ?_ | with_reducible refine wp_retN ?_ | with_reducible refine wp_brk ?_ | with_reducible refine wp_cont ?_ | with_reducible refine wp_asg ?_ | with_reducible refine wp_gname ?_ | with_reducible refine wp_gtup rfl ?_ | with_reducible refine wp_par ?_ | with_reducible refine wp_sfld ?_ | with_reducible refine wp_sfldaug ?_ | with_reducible refine wp_ssub ?_ | with_reducible refine wp_raise ?_ | with_reducible refine wp_keep ?_ | with_reducible refine wp_range1 ?_ | with_reducible refine wp_range2 ?_ | with_reducible refine wp_val ?_ | with_reducible refine wp_for ?_ | with_reducible refine wp_lc ?_ | with_reducible refine wp_tyes ?_ | with_reducible refine wp_ch ?_ | with_reducible refine wp_tch ?_ | with_reducible refine wo_add ?_ | with_reducible refine wo_sub ?_ | with_reducible refine wo_lt ?_ | with_reducible refine wo_le ?_ | with_reducible refine wo_gt ?_ | with_reducible refine wo_ge ?_ | with_reducible refine wo_abs ?_ | ((with_reducible refine wo_eqF ?_ ?_); · rfl) | ((with_reducible refine wo_neF ?_ ?_); · rfl) | with_reducible refine wo_neg ?_ | with_reducible refine wo_slTd ?_ | with_reducible refine wo_slLd ?_ | with_reducible refine wo_slTt ?_ | with_reducible refine wo_slLt ?_ | with_reducible refine wo_slT ?_ | with_reducible refine wo_slL ?_ | with_reducible refine wo_slS ?_ | with_reducible refine wo_trB ?_ | ((with_reducible refine And.intro (a := List.length _ = _) ?_ ?_); · rfl) | ((with_reducible refine And.intro (a := List.length _ ≤ _) ?_ ?_); · exact Nat.le_of_ble_eq_true rfl))
local macro_rules | `(tactic| walk_at "vc") => `(tactic| repeat walk_at "v1")
local macro_rules | `(tactic| walk_at "w1") => `(tactic| first | with_reducible refine wp_seq ?_ | with_reducible refine wp_setE (by assumption) ?_ | with_reducible refine wp_ret ?_ | with_reducible refine wp_if ?_ | with_reducible refine wp_expr ?_ | ((with_reducible refine' wp_vE (by assumption) ?hh ?_); case hh => rfl) | with_reducible refine wp_c ?_ | with_reducible refine wp_2 ?_ | with_reducible refine wp_t2 ?_ | with_reducible refine wp_asB ?_ | with_reducible refine wp_acons ?_ | with_reducible refine wp_anil ?_ | with_reducible refine wp_nil ?_ | with_reducible refine wp_call0 ?_ | with_reducible refine wp_call ?_ | with_reducible refine wp_b ?_ | with_reducible refine wp_tvB ?_ | with_reducible refine wp_tand ?_ | with_reducible refine wp_tor ?_ | with_reducible refine wp_tnot ?_ | with_reducible refine wp_and ?_ | with_reducible refine wp_or ?_ | with_reducible refine wp_not ?_ | with_reducible refine wp_ifE ?_ | with_reducible refine wp_neg ?_ | with_reducible refine wp_tup ?_ | with_reducible refine wp_lst ?_ | with_reducible refine wp_lstH ?_ | with_reducible refine wp_sl ?_ | with_reducible refine wp_pn ?_ | with_reducible refine wp_ps ?_ | with_reducible refine wp_asI ?_ | with_reducible refine wp_meth0 ?_ | with_reducible refine wp_meth ?_ | with_reducible refine wp_make0 ?_ | with_reducible refine wp_make ?_ | with_reducible refine wp_m ?_ | with_reducible refine wp_fld ?_ | with_reducible refine wp_exf ?_ | with_reducible refine wp_frz ?_ | with_reducible refine wp_rev ?_ | with_reducible refine wp_rev4 ?_ | with_reducible refine wp_fmt ?_ | with_reducible refine wp_j0 ?_ | with_reducible refine wp_j1 ?_ | with_reducible refine wp_dct0 ?_ | with_reducible refine wp_pairs0 ?_ | with_reducible refine wp_pairs1 ?_ | with_reducible refine wp_dct ?_ | with_reducible refine wp_finDH ?_ | with_reducible refine wp_finD ?_ | with_reducible refine wp_finL ?_ | with_reducible refine wp_finH ?_ | with_reducible refine wp_retN ?_ | with_reducible refine wp_brk ?_ | with_reducible refine wp_cont ?_ | with_reducible refine wp_asg ?_ | with_reducible refine wp_gnameE (by assumption) ?_ | with_reducible refine wp_gtupE (by assumption) rfl ?_ | with_reducible refine wp_parE (by assumption) ?_ | with_reducible refine wp_sfld ?_ | with_reducible refine wp_sfldaug ?_ | with_reducible refine wp_ssub ?_ | with_reducible refine wp_raise ?_ | with_reducible refine wp_keepE ?_ | with_reducible refine wp_range1 ?_ | with_reducible refine wp_range2 ?_ | with_reducible refine wp_val ?_ | with_reducible refine wp_for ?_ | with_reducible refine wp_lcE (by assumption) ?_ | with_reducible refine wp_tyes ?_ | ((with_reducible refine AllE.of ?_); intro env' he'; dsimp only [List.set, setAll, wipeE, List.map, List.replicate, List.length, List.append, HAppend.hAppend, Append.append] at he') | with_reducible refine wp_ch ?_ | with_reducible refine wp_tch ?_ | with_reducible refine wo_add ?_ | with_reducible refine wo_sub ?_ | with_reducible refine wo_lt ?_ | with_reducible refine wo_le ?_ | with_reducible refine wo_gt ?_ | with_reducible refine wo_ge ?_ | with_reducible refine wo_abs ?_ | ((with_reducible refine wo_eqF ?_ ?_); · rfl) | ((with_reducible refine wo_neF ?_ ?_); · rfl) | with_reducible refine wo_neg ?_ | with_reducible refine wo_slTd ?_ | with_reducible refine wo_slLd ?_ | with_reducible refine wo_slTt ?_ | with_reducible refine wo_slLt ?_ | with_reducible refine wo_slT ?_ | with_reducible refine wo_slL ?_ | with_reducible refine wo_slS ?_ | with_reducible refine wo_trB ?_ | ((with_reducible refine And.intro (a := List.length _ = _) ?_ ?_); · rfl) | ((with_reducible refine And.intro (a := List.length _ ≤ _) ?_ ?_); · exact Nat.le_of_ble_eq_true rfl))
local macro_rules | `(tactic| walk_at "wc") => `(tactic| repeat walk_at "w1")
local macro_rules | `(tactic| walk_at "j1") => `(tactic| first | with_reducible refine wp_seq ?_ | with_reducible refine wp_setE (by assumption) ?_ | with_reducible refine wp_ret ?_ | with_reducible refine wp_expr ?_ | ((with_reducible refine' wp_vE (by assumption) ?hh ?_); case hh => rfl) | with_reducible refine wp_c ?_ | with_reducible refine wp_2 ?_ | with_reducible refine wp_t2 ?_ | with_reducible refine wp_asB ?_ | with_reducible refine wp_acons ?_ | with_reducible refine wp_anil ?_ | with_reducible refine wp_nil ?_ | with_reducible refine wp_call0 ?_ | with_reducible refine wp_call ?_ | with_reducible refine wp_b ?_ | with_reducible refine wp_tvB ?_ | with_reducible refine wp_tand ?_ | with_reducible refine wp_tor ?_ | with_reducible refine wp_tnot ?_ | with_reducible refine wp_and ?_ | with_reducible refine wp_or ?_ | with_reducible refine wp_not ?_ | with_reducible refine wp_ifE ?_ | with_reducible refine wp_neg ?_ | with_reducible refine wp_tup ?_ | with_reducible refine wp_lst ?_ | with_reducible refine wp_lstH ?_ | with_reducible refine wp_sl ?_ | with_reducible refine wp_pn ?_ | with_reducible refine wp_ps ?_ | with_reducible refine wp_asI ?_ | with_reducible refine wp_meth0 ?_ | with_reducible refine wp_meth ?_ | with_reducible refine wp_make0 ?_ | with_reducible refine wp_make ?_ | with_reducible refine wp_m ?_ | with_reducible refine wp_fld ?_ | with_reducible refine wp_exf ?_ | with_reducible refine wp_frz ?_ | with_reducible refine wp_rev ?_ | with_reducible refine wp_rev4 ?_ | with_reducible refine wp_fmt ?_ | with_reducible refine wp_j0 ?_ | with_reducible refine wp_j1 ?_ | with_reducible refine wp_dct0 ?_ | with_reducible refine wp_pairs0 ?_ | with_reducible refine wp_pairs1 ?_ | with_reducible refine wp_dct ?_ | with_reducible refine wp_finDH ?_ | with_reducible refine wp_finD ?_ | with_reducible refine wp_finL ?_ | with_reducible refine wp_finH ?_ | with_reducible refine wp_retN ?_ | with_reducible refine wp_brk ?_ | with_reducible refine wp_cont ?_ | with_reducible refine wp_asg ?_ | with_reducible refine wp_gnameE (by assumption) ?_ | with_reducible refine wp_gtupE (by assumption) rfl ?_ | with_reducible refine wp_parE (by assumption) ?_ | with_reducible refine wp_sfld ?_ | with_reducible refine wp_sfldaug ?_ | with_reducible refine wp_ssub ?_ | with_reducible refine wp_raise ?_ | with_reducible refine wp_keepE ?_ | with_reducible refine wp_range1 ?_ | with_reducible refine wp_range2 ?_ | with_reducible refine wp_val ?_ | with_reducible refine wp_for ?_ | with_reducible refine wp_lcE (by assumption) ?_ | with_reducible refine wp_tyes ?_ | ((with_reducible refine AllE.of ?_); intro env' he'; dsimp only [List.set, setAll, wipeE, List.map, List.replicate, List.length, List.append, HAppend.hAppend, Append.append] at he') | with_reducible refine wp_ch ?_ | with_reducible refine wp_tch ?_ | with_reducible refine wo_add ?_ | with_reducible refine wo_sub ?_ | with_reducible refine wo_lt ?_ | with_reducible refine wo_le ?_ | with_reducible refine wo_gt ?_ | with_reducible refine wo_ge ?_ | with_reducible refine wo_abs ?_ | ((with_reducible refine wo_eqF ?_ ?_); · rfl) | ((with_reducible refine wo_neF ?_ ?_); · rfl) | with_reducible refine wo_neg ?_ | with_reducible refine wo_slTd ?_ | with_reducible refine wo_slLd ?_ | with_reducible refine wo_slTt ?_ | with_reducible refine wo_slLt ?_ | with_reducible refine wo_slT ?_ | with_reducible refine wo_slL ?_ | with_reducible refine wo_slS ?_ | with_reducible refine wo_trB ?_ | ((with_reducible refine And.intro (a := List.length _ = _) ?_ ?_); · rfl) | ((with_reducible refine And.intro (a := List.length _ ≤ _) ?_ ?_); · exact Nat.le_of_ble_eq_true rfl))
local macro_rules | `(tactic| walk_at "wj") => `(tactic| repeat walk_at "j1")
theorem eqs (x : Str) : (!eqF (.str x) (.str x)) = false := by
  show (!(x == x)) = false
  simp
theorem sta_new {S : Sto} {o : Ob} (h0 : S[0]? = some o) : Ini (S ++ [.ins "Wire" (wireF 0 (.h (S.length + 1)) 0), .lst []] ++ [.lst [], .dct (endKv (S.length + 2) 0 0)]) S.length [] o := by
  have hl : 0 < S.length := lt_of_at h0
  have e : ∀ i (x : Ob), [Ob.ins "Wire" (wireF 0 (.h (S.length + 1)) 0), .lst [], .lst [], .dct (endKv (S.length + 2) 0 0)][i]? = some x → (S ++ [.ins "Wire" (wireF 0 (.h (S.length + 1)) 0), .lst []] ++ [.lst [], .dct (endKv (S.length + 2) 0 0)])[S.length + i]? = some x := fun i x h => by
    rw [List.append_assoc, List.getElem?_append_right (by omega), show S.length + i - S.length = i from by omega]
    exact h
  exact ⟨hl, by rw [List.append_assoc]; exact at_app h0, e 0 _ rfl, e 1 _ rfl, e 2 _ rfl, e 3 _ rfl, by simp⟩
theorem wp_law {ns : List Int} (hl : ns.length ≤ 63) : (m_law [.scr ns] []).wp (fun w _ => w = .bl true) noX := by
  refine wp_runE ?_
  unfold b_law
  walk_at "wc"
  refine wp_pen hl fun o0 hp0 => ?_
  walk_at "wc"
  refine ⟨4, rfl, by decide, ?_⟩
  refine wp_forRE (fun k env S => ∃ (e2 e3 e4 e5 e6 e7 e8 e9 e10 e11 : Option W) (o : Ob), env = [some (.scr ns), some (.h 0), e2, e3, e4, e5, e6, e7, e8, e9, e10, e11] ∧ S[0]? = some o ∧ IsPen ((4 - k) * 300) o) ?_ ?_ ?_
  · exact ⟨_, _, _, _, _, _, _, _, _, _, o0, by assumption, rfl, hp0.mono (by decide)⟩
  · rintro k env S hk ⟨e2, e3, e4, e5, e6, e7, e8, e9, e10, e11, o, rfl, hS, hp⟩ env' he'
    dsimp only [List.set] at he'
    have hp' : IsPen ((4 - (k + 1)) * 300 + 300) o := by
      rw [show (4 - (k + 1)) * 300 + 300 = (4 - k) * 300 from by omega]
      exact hp
    generalize (4 - (k + 1)) * 300 = m at hp' ⊢
    clear hp
    walk_at "wc"
    refine init ⟨rfl, ?_⟩
    walk_at "wc"
    refine lend ?_
    rw [show (S ++ [Ob.ins "Wire" (wireF 0 (.h (S.length + 1)) 0), .lst []]).length = S.length + 2 from by simp]
    have i0 := sta_new hS
    generalize S ++ [.ins "Wire" (wireF 0 (.h (S.length + 1)) 0), .lst []] ++ [.lst [], .dct (endKv (S.length + 2) 0 0)] = T at i0 ⊢
    have n0 : 0 < S.length := lt_of_at hS
    generalize S.length = n at i0 n0 ⊢
    clear hS
    walk_at "wc"
    refine draw i0.pen hp' (by decide) (by decide) fun d1 o1 d10 d11 hp1 => ?_
    walk_at "wc"
    refine ⟨d1, rfl, by omega, ?_⟩
    -- rows are put
    refine wp_forRE (fun j env S => ∃ (e5 : Option W) (o : Ob) (put : List W), env = [some (.scr ns), some (.h 0), some (.int (k : Nat)), some (.h n), some (.h (n + 3)), e5, e6, e7, e8, e9, e10, e11] ∧ Ini S n put o ∧ put.length = j ∧ (∀ w ∈ put, RowOk w) ∧ IsPen (m + 214 + (5 - j) * 17) o) ?_ ?_ ?_
    · refine ⟨_, o1, [], by assumption, ?_, rfl, fun _ h => absurd h List.not_mem_nil, hp1.mono (by omega)⟩
      exact ⟨i0.n0, at_set i0.pen, at_set_ne i0.w (by omega), at_set_ne i0.q (by omega), at_set_ne i0.p (by omega), at_set_ne i0.e (by omega), by rw [List.length_set]; exact i0.l⟩
    · rintro j env S hj ⟨e5, o, put, rfl, i, hput, hr, hp⟩ env' he'
      dsimp only [List.set] at he'
      have hp2 : IsPen ((m + 214 + (5 - (j + 1)) * 17) + 17) o := by
        rw [show m + 214 + (5 - (j + 1)) * 17 + 17 = m + 214 + (5 - j) * 17 from by omega]
        exact hp
      walk_at "wc"
      refine wo_ixd i.e e_put ?_
      walk_at "wc"
      refine ⟨isLst_h i.p, ?_⟩
      walk_at "wc"
      refine row_of i.pen hp2 fun row o2 hrow hp3 => ?_
      walk_at "wc"
      have hsz : put.length < sizeLine := by
        have : (1000 : Nat) < sizeLine := by decide
        omega
      refine wo_append (at_set_ne i.p (by omega)) hsz ?_
      walk_at "wc"
      have E1 : ∀ x y, ((S.set 0 x).set (n + 2) y)[n + 3]? = some (.dct (endKv (n + 2) 0 0)) := fun x y => at_set_ne (at_set_ne i.e (by omega)) (by omega)
      have W1 : ∀ x y, ((S.set 0 x).set (n + 2) y)[n]? = some (.ins "Wire" (wireF 0 (.h (n + 1)) 0)) := fun x y => at_set_ne (at_set_ne i.w (by omega)) (by omega)
      have Q1 : ∀ x y, ((S.set 0 x).set (n + 2) y)[n + 1]? = some (.lst put) := fun x y => at_set_ne (at_set_ne i.q (by omega)) (by omega)
      have P1 : ∀ x y, ((S.set 0 x).set (n + 2) y)[n + 2]? = some y := fun x y => at_set (at_set_ne i.p (by omega))
      have N1 : ∀ x y, ((S.set 0 x).set (n + 2) y)[0]? = some x := fun x y => at_set_ne (at_set i.pen) (by omega)
      refine ⟨ins_of (W1 _ _) (no_m (by decide) (by decide) (by decide)), ?_⟩
      walk_at "wc"
      refine wo_ixd (E1 _ _) e_put ?_
      walk_at "wc"
      refine wo_ix (w := row) ?_ ?_
      · unfold ixOf
        dsimp only
        rw [P1]
        show atI (put ++ [row]) (-1) = some row
        exact atI_last put row
      walk_at "wc"
      refine wput (W1 _ _) (Q1 _ _) (by omega) fun w => ?_
      refine ⟨_, o2, put ++ [row], he', ⟨n0, at_set_ne (N1 _ _) (by omega), at_set_ne (W1 _ _) (by omega), at_set (Q1 _ _), at_set_ne (P1 _ _) (by omega), at_set_ne (E1 _ _) (by omega), ?_⟩, by simp [hput], ?_, hp3⟩
      · simp only [List.length_set]
        exact i.l
      · intro x hx
        rcases List.mem_append.mp hx with hx | hx
        · exact hr x hx
        · rw [List.mem_singleton.mp hx]
          exact hrow
    rintro env S ⟨e5', o, put, he, i, hput, hr, hp⟩
    have hp := hp.mono (show m + 214 ≤ _ from Nat.le_add_right _ _)
    have rput : Rows put := ⟨by omega, hr⟩
    have s := i.sta
    have hlen := i.l
    walk_at "wc"
    refine draw s.pen hp (by decide) (by decide) fun d2 o2 d20 d21 hp2 => ?_
    have s2 : Sta (S.set 0 o2) n put 0 0 o2 := s.toPen
    walk_at "wc"
    refine ⟨d2, rfl, by omega, ?_⟩
    walk_at "wc"
    refine wp_lcDraw (c := 17) (m := m + 145) (Q := RowOk) (by assumption) s2.pen (hp2.mono (by omega)) (by omega) (fun k S o m P hk hS hp hP => ?_) fun rs o3 hrl hrs hp3 => ?_
    · walk_at "wc"
      exact row_of hS hp hP
    rw [List.set_set]
    have s3 : Sta (S.set 0 o3) n put 0 0 o3 := s.toPen
    have rrs : Rows rs := ⟨by omega, hrs⟩
    walk_at "wc"
    refine wo_tuple (by rfl) ?_
    walk_at "wc"
    refine wo_ixd s3.e e_put ?_
    walk_at "wc"
    refine wo_len (lenL (lstAt_eq.mpr s3.p)) ?_
    walk_at "wc"
    refine draw s3.pen hp3 (by omega) (by omega) fun d3 o4 d30 d31 hp4 => ?_
    rw [List.set_set]
    obtain ⟨g1, rfl⟩ := Int.eq_ofNat_of_zero_le d30
    have s4 : Sta (S.set 0 o4) n put 0 0 o4 := s.toPen
    have len4 : n + 3 < (S.set 0 o4).length := by rw [List.length_set]; exact hlen
    generalize S.set 0 o4 = S4 at s4 len4 ⊢
    walk_at "wj"
    -- a letter may be taken
    rename_i env6 he6
    refine wp_cut (fun e T => e = env6 ∧ ∃ (k c : Nat) (o : Ob), Sta T n put k c o ∧ c ≤ 4 ∧ c ≤ rs.length ∧ IsPen (m + 143) o ∧ n + 3 < T.length) ?_ ?_
    · refine wp_if ?_
      walk_at "wc"
      refine draw s4.pen hp4 (by decide) (by decide) fun d4 o5 d40 d41 hp5 => ?_
      have s5 : Sta (S4.set 0 o5) n put 0 0 o5 := s4.toPen
      walk_at "wc"
      refine iteB (fun _ => ?_) (fun _ => ?_)
      · walk_at "wc"
        obtain ⟨ww, w1, w2⟩ := s5.w
        refine ⟨ins_of w1 (no_m (by decide) (by decide) (by decide)), ?_⟩
        walk_at "wc"
        refine take1 (f := 0) s5 rrs (Nat.le_refl _) (by omega) (by decide) (by omega) (by rw [List.length_set]; exact len4) fun T mid hT => ?_
        walk_at "wc"
        have rp : Rp 700 3 (.lst (rs.drop (0 - 0))) := (RpAll.lst (rrs.drop _).rp).mono (by decide) (by decide)
        refine wo_repr rp (by decide) (by decide) ?_
        walk_at "wc"
        refine fresh1 (f := 0) rfl mid rrs (Nat.le_refl _) hT fun T2 st hT2 => ?_
        walk_at "wc"
        refine wo_repr rp (by decide) (by decide) ?_
        walk_at "wc"
        rw [eqs]
        refine iteB (fun z => by cases z) (fun _ => ?_)
        walk_at "wc"
        exact ⟨rfl, _, _, _, st, by omega, by omega, hp5, hT2⟩
      · refine iteB (fun z => by cases z) (fun _ => ?_)
        walk_at "wc"
        exact ⟨rfl, 0, 0, o5, s5, by omega, by omega, hp5, by rw [List.length_set]; exact len4⟩
    rintro _ S6 ⟨rfl, k6, c, o6, s6, hc4, hcr, hp6, hl6⟩
    have hk6 := s6.le
    walk_at "wc"
    refine draw s6.pen hp6 (by decide) (by decide) fun d7 o7 d70 d71 hp7 => ?_
    have s7 : Sta (S6.set 0 o7) n put k6 c o7 := s6.toPen
    walk_at "wc"
    refine ⟨d7, rfl, by omega, ?_⟩
    walk_at "wc"
    refine wp_lcDraw (c := 17) (m := m + 108) (Q := RowOk) (by assumption) s7.pen (hp7.mono (by omega)) (by omega) (fun k S o m P hk hS hp hP => ?_) fun rs2 o8 hrl2 hrs2 hp8 => ?_
    · walk_at "wc"
      exact row_of hS hp hP
    rw [List.set_set]
    have s8 : Sta (S6.set 0 o8) n put k6 c o8 := s6.toPen
    walk_at "wc"
    refine wo_tuple (by rfl) ?_
    walk_at "wc"
    have hsz : rs.length + rs2.length ≤ sizeLine := by
      have : (1000 : Nat) < sizeLine := by decide
      omega
    refine wo_catT hsz ?_
    have rmore : Rows (rs ++ rs2) := ⟨by rw [List.length_append]; omega, fun w hw => by
      rcases List.mem_append.mp hw with hw | hw
      · exact hrs w hw
      · exact hrs2 w hw⟩
    have hmore : c ≤ (rs ++ rs2).length := by rw [List.length_append]; omega
    generalize rs ++ rs2 = more at rmore hmore ⊢
    walk_at "wc"
    refine wo_ixd s8.e e_taken ?_
    walk_at "wc"
    refine draw s8.pen hp8 (by omega) (by omega) fun d9 o9 d90 d91 hp9 => ?_
    rw [List.set_set]
    have s9 : Sta (S6.set 0 o9) n put k6 c o9 := s6.toPen
    obtain ⟨f, rfl⟩ := Int.eq_ofNat_of_zero_le d90
    have hfc : f ≤ c := by omega
    walk_at "wc"
    refine wo_ixd s9.e e_known ?_
    walk_at "wc"
    refine wo_ixd s9.e e_put ?_
    walk_at "wc"
    refine wo_len (lenL (lstAt_eq.mpr s9.p)) ?_
    walk_at "wc"
    refine wo_ixd s9.e e_known ?_
    walk_at "wc"
    refine draw s9.pen hp9 (by omega) (by omega) fun d10 oa d100 d101 hpa => ?_
    rw [List.set_set]
    have sa : Sta (S6.set 0 oa) n put k6 c oa := s6.toPen
    obtain ⟨g0, rfl⟩ := Int.eq_ofNat_of_zero_le d100
    have hg : k6 + g0 ≤ put.length := by omega
    refine wo_add ?_
    rw [← Int.natCast_add]
    generalize k6 + g0 = g at hg ⊢
    have rlr : Rows (more.drop f) := rmore.drop f
    have hla : n + 3 < (S6.set 0 oa).length := by rw [List.length_set]; exact hl6
    generalize S6.set 0 oa = S7 at sa hla ⊢
    have RL : Rp 700 4 (.tup [.str "rows", .int (f : Nat), .tup (more.drop f), .int (g : Nat)]) := rp_let rlr (by omega) (by have := rput.l; omega)
    generalize more.drop f = lr at rlr RL ⊢
    walk_at "wc"
    refine ⟨10, rfl, by decide, ?_⟩
    refine wp_forRE (fun j env S => ∃ (e10 e11 : Option W) (o : Ob), env = [some (.scr ns), some (.h 0), some (.int (k : Nat)), some (.h n), some (.h (n + 3)), e5', some (.tup rs), some (.tup [.str "rows", .int (f : Nat), .tup lr, .int (g : Nat)]), some (.tup more), some (.int (f : Nat)), e10, e11] ∧ Sta S n put k6 c o ∧ n + 3 < S.length ∧ IsPen (m + (10 - j) * 10) o) ?_ ?_ ?_
    · exact ⟨_, _, oa, by assumption, sa, hla, hpa.mono (by omega)⟩
    · rintro j env S hj ⟨e10, e11, o, rfl, s, hl, hp⟩ env' he'
      dsimp only [List.set] at he'
      have hp2 : IsPen ((m + (10 - (j + 1)) * 10 + 6) + 4) o := by
        rw [show m + (10 - (j + 1)) * 10 + 6 + 4 = m + (10 - j) * 10 from by omega]
        exact hp
      walk_at "wc"
      refine bent s hp2 hl rput (by omega) RL ne_txt ne_int (by decide) fun w T o1 s1 hp3 hl1 th => ?_
      walk_at "wj"
      rename_i envw hew
      refine wp_cut (fun e T => ∃ (w : W) (o : Ob), e = [some (.scr ns), some (.h 0), some (.int (k : Nat)), some (.h n), some (.h (n + 3)), e5', some (.tup rs), some (.tup [.str "rows", .int (f : Nat), .tup lr, .int (g : Nat)]), some (.tup more), some (.int (f : Nat)), some (.int (j : Nat)), some w] ∧ Sta T n put k6 c o ∧ n + 3 < T.length ∧ IsPen (m + (10 - (j + 1)) * 10) o ∧ Th 20000 20 w) ?_ ?_
      · have th' : Th 20000 20 w := ⟨th.1.mono (by decide) (by decide), th.2⟩
        have stay : ∀ {T : Sto} {o : Ob}, Sta T n put k6 c o → n + 3 < T.length → IsPen (m + (10 - (j + 1)) * 10) o → ∃ (w : W) (o : Ob), envw = [some (.scr ns), some (.h 0), some (.int (k : Nat)), some (.h n), some (.h (n + 3)), e5', some (.tup rs), some (.tup [.str "rows", .int (f : Nat), .tup lr, .int (g : Nat)]), some (.tup more), some (.int (f : Nat)), some (.int (j : Nat)), some w] ∧ Sta T n put k6 c o ∧ n + 3 < T.length ∧ IsPen (m + (10 - (j + 1)) * 10) o ∧ Th 20000 20 w := fun s l h => ⟨w, _, hew, s, l, h, th'⟩
        obtain ⟨tw, htw⟩ := th.1.ty
        refine wp_if ?_
        walk_at "wc"
        refine ofX htw (isi_tuple htw ?_)
        walk_at "wc"
        refine iteB (fun hb => ?_) (fun hb => ?_)
        · obtain ⟨ws, rfl⟩ : ∃ ws, w = .tup ws := by cases w <;> first | exact ⟨_, rfl⟩ | cases hb
          walk_at "wc"
          refine wo_len (n := ws.length) rfl ?_
          walk_at "wc"
          refine iteB (fun hb4 => ?_) (fun _ => ?_)
          · have h4 : ws.length = 4 := by
              have : ((ws.length : Int) == 4) = true := hb4
              have := eq_of_beq this
              omega
            obtain ⟨a, b, cc, d, rfl⟩ := four h4
            obtain ⟨tc, htc⟩ := th.1.part (w := cc) (by simp)
            walk_at "wc"
            refine wo_ixt (w := cc) (by decide) rfl ?_
            walk_at "wc"
            refine ofX htc (isi_tuple htc ?_)
            walk_at "wc"
            refine iteB (fun hbc => ?_) (fun _ => ?_)
            · obtain ⟨rs3, rfl⟩ : ∃ ws, cc = .tup ws := by cases cc <;> first | exact ⟨_, rfl⟩ | cases hbc
              walk_at "wc"
              refine draw s1.pen hp3 (by decide) (by decide) fun dd o2 dd0 dd1 hp4 => ?_
              have s2 : Sta (T.set 0 o2) n put k6 c o2 := s1.toPen
              have hl2 : n + 3 < (T.set 0 o2).length := by rw [List.length_set]; exact hl1
              walk_at "wc"
              refine iteB (fun _ => ?_) (fun _ => ?_)
              · walk_at "wc"
                obtain ⟨na, nd⟩ := th.2 a b _ d rfl
                refine bent s2 (hp4.mono (by omega) : IsPen (m + (10 - (j + 1)) * 10 + 1 + 4) o2) hl2 rput (by omega) th.1 na nd (by decide) fun w2 T2 o3 s3 hp5 hl3 th2 => ?_
                walk_at "wc"
                exact ⟨w2, o3, by assumption, s3, hl3, hp5.mono (by omega), th2.1.mono (by decide) (by decide), th2.2⟩
              · walk_at "wc"
                exact stay s2 hl2 (hp4.mono (by omega))
            · refine iteB (fun z => by cases z) (fun _ => ?_)
              walk_at "wc"
              exact stay s1 hl1 (hp3.mono (by omega))
          · refine iteB (fun z => by cases z) (fun _ => ?_)
            walk_at "wc"
            exact stay s1 hl1 (hp3.mono (by omega))
        · refine iteB (fun z => by cases z) (fun _ => ?_)
          walk_at "wc"
          exact stay s1 hl1 (hp3.mono (by omega))
      rintro e T2 ⟨w2, o2, he2, s2, hl2, hp4, th2⟩
      walk_at "wc"
      refine l_is_letter s2.e s2.p th2.1 (by decide) (fun x y z u e => (th2.2 x y z u e).1) ?_
      walk_at "wc"
      refine iteB (fun hb => ?_) (fun hb => ?_)
      · rw [Bool.not_eq_true'] at hb
        walk_at "wc"
        refine refused s2 th2.1 (by decide) (by decide) hb hl2 fun T3 s3 hl3 => ?_
        walk_at "wc"
        refine iteB (fun z => by cases z) (fun _ => ?_)
        walk_at "wc"
        refine end_right s3 rput (by have := rput.l; omega) (by omega) hl3 fun T4 s4 hl4 => ?_
        walk_at "wc"
        refine iteB (fun z => by cases z) (fun _ => ?_)
        walk_at "wc"
        exact ⟨_, _, o2, he2, s4, hl4, hp4⟩
      · refine iteB (fun z => by cases z) (fun _ => ?_)
        walk_at "wc"
        exact ⟨_, _, o2, he2, s2, hl2, hp4⟩
    rintro env S ⟨e10, e11, o, he, s, hl, hp⟩
    walk_at "wc"
    obtain ⟨ww, w1, w2⟩ := s.w
    refine ⟨ins_of w1 (no_m (by decide) (by decide) (by decide)), ?_⟩
    walk_at "wc"
    refine take1 s rlr hfc hg (by omega) (by have := rput.l; omega) hl fun T mid hT => ?_
    walk_at "wc"
    have rp : Rp 700 3 (.lst (lr.drop (c - f))) := (RpAll.lst (rlr.drop _).rp).mono (by decide) (by decide)
    refine wo_repr rp (by decide) (by decide) ?_
    walk_at "wc"
    refine fresh1 rfl mid rlr hfc hT fun T2 st hT2 => ?_
    walk_at "wc"
    refine wo_repr rp (by decide) (by decide) ?_
    walk_at "wc"
    rw [eqs]
    refine iteB (fun z => by cases z) (fun _ => ?_)
    walk_at "wc"
    refine end_right st rput ?_ ?_ hT2 fun T4 s4 hl4 => ?_
    · have := rput.l
      split <;> omega
    · have := rlr.l
      omega
    walk_at "wc"
    refine iteB (fun z => by cases z) (fun _ => ?_)
    walk_at "wc"
    exact ⟨_, _, _, _, _, _, _, _, _, _, o, he, s4.pen, hp.mono (by omega)⟩
  · rintro env S ⟨e2, e3, e4, e5, e6, e7, e8, e9, e10, e11, o, rfl, hS, hp⟩
    dsimp only
    refine wp_ret ?_
    refine wp_c ?_
    rfl
theorem tells : Tells m_law 63 := tells_wp fun ns hl => wp_law hl
end Mi.L26

set_option Elab.async false
set_option linter.all false
set_option maxRecDepth 100000
set_option maxHeartbeats 16000000
namespace Mi.L26
open PySem L2 Mi
structure Ad where
  f_l_pen : Addr
  fd_l_pen : FuncData
  f_Wire_init : Addr
  fd_Wire_init : FuncData
  f_l_end : Addr
  fd_l_end : FuncData
  f_l_draw : Addr
  fd_l_draw : FuncData
  f_l_pick : Addr
  fd_l_pick : FuncData
  f_l_plain : Addr
  fd_l_plain : FuncData
  f_l_row_of : Addr
  fd_l_row_of : FuncData
  f_Wire_put : Addr
  fd_Wire_put : FuncData
  f_is_whole : Addr
  fd_is_whole : FuncData
  f_is_count : Addr
  fd_is_count : FuncData
  f_is_letter : Addr
  fd_is_letter : FuncData
  f_NoLetter_init : Addr
  fd_NoLetter_init : FuncData
  f_Wire_take : Addr
  fd_Wire_take : FuncData
  f_l_fresh_by : Addr
  fd_l_fresh_by : FuncData
  f_l_odd : Addr
  fd_l_odd : FuncData
  f_l_bent : Addr
  fd_l_bent : FuncData
  f_l_is_count : Addr
  fd_l_is_count : FuncData
  f_l_is_letter : Addr
  fd_l_is_letter : FuncData
  f_l_refused : Addr
  fd_l_refused : FuncData
  f_Wire_letter : Addr
  fd_Wire_letter : FuncData
  f_l_letter_of : Addr
  fd_l_letter_of : FuncData
  f_Wire_heard : Addr
  fd_Wire_heard : FuncData
  f_Wire_unheard : Addr
  fd_Wire_unheard : FuncData
  f_Wire_len : Addr
  fd_Wire_len : FuncData
  f_l_end_right : Addr
  fd_l_end_right : FuncData
  f_law : Addr
  fd_law : FuncData
  C_Wire : Addr
  C_NoLetter : Addr
  C_BadText : Addr
  C_BadPlan : Addr
  C_BadArgs : Addr
  t_ROWS : Tok
structure Top (K : PySem.W.Frag) (mg : Str → Option Value) (ad : Ad) : Prop where
  d_l_pen : Gf K mg "_law_pen" s_l_pen ad.f_l_pen ad.fd_l_pen ["_law_script"]
  d_Wire_init : Gm K ad.C_Wire "__init__" "Wire.__init__" s_Wire_init ad.f_Wire_init ad.fd_Wire_init ["self"]
  d_l_end : Gf K mg "_law_end" s_l_end ad.f_l_end ad.fd_l_end []
  d_l_draw : Gf K mg "_law_draw" s_l_draw ad.f_l_draw ad.fd_l_draw ["_law_pen_here", "_law_many"]
  d_l_pick : Gf K mg "_law_pick" s_l_pick ad.f_l_pick ad.fd_l_pick ["_law_pen_here", "_law_some"]
  d_l_plain : Gf K mg "_law_plain" s_l_plain ad.f_l_plain ad.fd_l_plain ["_law_pen_here"]
  d_l_row_of : Gf K mg "_law_row_of" s_l_row_of ad.f_l_row_of ad.fd_l_row_of ["_law_pen_here"]
  d_Wire_put : Gm K ad.C_Wire "put" "Wire.put" s_Wire_put ad.f_Wire_put ad.fd_Wire_put ["self", "row"]
  d_is_whole : Gf K mg "is_whole" s_is_whole ad.f_is_whole ad.fd_is_whole ["thing"]
  d_is_count : Gf K mg "is_count" s_is_count ad.f_is_count ad.fd_is_count ["thing"]
  d_is_letter : Gf K mg "is_letter" s_is_letter ad.f_is_letter ad.fd_is_letter ["thing"]
  X_NoLetter : Xf1 K mg "NoLetter" ad.C_NoLetter "ValueError.__new__" [.type "ValueError", .type "Exception", .type "BaseException", .type "object"] "NoLetter.__init__" s_NoLetter_init ad.f_NoLetter_init ad.fd_NoLetter_init ["self", "asked"] "asked"
  d_Wire_take : Gm K ad.C_Wire "take" "Wire.take" s_Wire_take ad.f_Wire_take ad.fd_Wire_take ["self", "letter"]
  d_l_fresh_by : Gf K mg "_law_fresh_by" s_l_fresh_by ad.f_l_fresh_by ad.fd_l_fresh_by ["_law_end_here", "_law_letter"]
  d_l_odd : Gf K mg "_law_odd" s_l_odd ad.f_l_odd ad.fd_l_odd ["_law_pen_here"]
  d_l_bent : Gf K mg "_law_bent" s_l_bent ad.f_l_bent ad.fd_l_bent ["_law_pen_here", "_law_end_here", "_law_letter"]
  d_l_is_count : Gf K mg "_law_is_count" s_l_is_count ad.f_l_is_count ad.fd_l_is_count ["_law_thing"]
  d_l_is_letter : Gf K mg "_law_is_letter" s_l_is_letter ad.f_l_is_letter ad.fd_l_is_letter ["_law_end_here", "_law_thing"]
  d_l_refused : Gf K mg "_law_refused" s_l_refused ad.f_l_refused ad.fd_l_refused ["_law_wire", "_law_thing"]
  d_Wire_letter : Gm K ad.C_Wire "letter" "Wire.letter" s_Wire_letter ad.f_Wire_letter ad.fd_Wire_letter ["self"]
  d_l_letter_of : Gf K mg "_law_letter_of" s_l_letter_of ad.f_l_letter_of ad.fd_l_letter_of ["_law_end_here"]
  d_Wire_heard : Gm K ad.C_Wire "heard" "Wire.heard" s_Wire_heard ad.f_Wire_heard ad.fd_Wire_heard ["self"]
  d_Wire_unheard : Gm K ad.C_Wire "unheard" "Wire.unheard" s_Wire_unheard ad.f_Wire_unheard ad.fd_Wire_unheard ["self"]
  d_Wire_len : Gm K ad.C_Wire "__len__" "Wire.__len__" s_Wire_len ad.f_Wire_len ad.fd_Wire_len ["self"]
  d_l_end_right : Gf K mg "_law_end_right" s_l_end_right ad.f_l_end_right ad.fd_l_end_right ["_law_wire", "_law_end_here"]
  d_law : Gf K mg "law" s_law ad.f_law ad.fd_law ["_law_script"]
  C_Wire : Cf K mg "Wire" ad.C_Wire ad.f_Wire_init
  nf_Wire_known : NoAttr K ad.C_Wire "known"
  nf_Wire_waiting : NoAttr K ad.C_Wire "waiting"
  nf_Wire_came : NoAttr K ad.C_Wire "came"
  C_NoLetter : Nm mg "NoLetter" ad.C_NoLetter
  C_BadText : Nm mg "BadText" ad.C_BadText
  C_BadPlan : Nm mg "BadPlan" ad.C_BadPlan
  C_BadArgs : Nm mg "BadArgs" ad.C_BadArgs
  v_ValueError : PySem.W.findCls K (.type "ValueError") (.type "type") "__init__" = some (.val (.builtin "ValueError.__init__"))
  z_ValueError : mg "ValueError" = none
  z_abs : mg "abs" = none
  z_all : mg "all" = none
  z_bool : mg "bool" = none
  z_int : mg "int" = none
  z_isinstance : mg "isinstance" = none
  z_len : mg "len" = none
  z_list : mg "list" = none
  z_max : mg "max" = none
  z_range : mg "range" = none
  z_repr : mg "repr" = none
  z_str : mg "str" = none
  z_tuple : mg "tuple" = none
  c_ROWS : mg "ROWS" = some (.str "rows" ad.t_ROWS)
  kx : KxOk ⟨K, mg⟩ kx
  hit_NoLetter : Hits ⟨K, mg⟩ (.ref ad.C_NoLetter) hit_NoLetter
  x_asked : ∀ c ∈ (["NoLetter"] : List Str), ∀ D, mg c = some (.ref D) → XfC K D ∧ PySem.W.findIn K (.ref D) "asked" = some none
end Mi.L26

set_option Elab.async false
set_option linter.all false
set_option maxRecDepth 100000
set_option maxHeartbeats 16000000
namespace Mi.L26
open PySem L2 Mi

section
variable {P : Program} {w : World} {K : PySem.W.Frag} {mg : Str → Option Value} {base : Heap} {ad : Ad}
theorem ok_l_pen (T : Top K mg ad) : FnG P w K mg base 1 ad.f_l_pen ad.fd_l_pen ["_law_script"] (spM ⟨K, mg⟩ 1 m_l_pen) :=
  fn_def (N := N_l_pen) (k := 0) b_l_pen rfl rfl rfl T.d_l_pen.F sc_l_pen fun cdv A outer s H E hgu hr =>
  (mss_one (ms_ret (me_dct fin_dh (.cons me_str (me_ct (cs_list new_lst) T.z_list (by decide +kernel) (ma_cons (me_sl (me_v 0) mp_none (mp_some me_int)) ma_nil)) (.cons me_str me_int (.cons me_str me_int .nil))))))
theorem ok_Wire_init (T : Top K mg ad) : FnG P w K mg base 1 ad.f_Wire_init ad.fd_Wire_init ["self"] (spM ⟨K, mg⟩ 1 m_Wire_init) :=
  fn_def (N := N_Wire_init) (k := 0) b_Wire_init rfl rfl rfl T.d_Wire_init.F sc_Wire_init fun cdv A outer s H E hgu hr =>
  (mss_cons (ms_fld T.C_Wire.m T.C_Wire.cl T.nf_Wire_known (me_v 0) me_int)
  (mss_cons (ms_fld T.C_Wire.m T.C_Wire.cl T.nf_Wire_waiting (me_v 0) (me_lstH ma_nil))
  (mss_one (ms_fld T.C_Wire.m T.C_Wire.cl T.nf_Wire_came (me_v 0) me_int))))
theorem ok_l_end (T : Top K mg ad) : FnG P w K mg base 1 ad.f_l_end ad.fd_l_end [] (spM ⟨K, mg⟩ 0 m_l_end) :=
  fn_def (N := N_l_end) (k := 0) b_l_end rfl rfl rfl T.d_l_end.F sc_l_end fun cdv A outer s H E hgu hr =>
  (mss_one (ms_ret (me_dct fin_dh (.cons me_str (me_lstH ma_nil) (.cons me_str me_int (.cons me_str me_int .nil))))))
theorem ok_l_draw (T : Top K mg ad) : FnG P w K mg base 1 ad.f_l_draw ad.fd_l_draw ["_law_pen_here", "_law_many"] (spM ⟨K, mg⟩ 2 m_l_draw) :=
  fn_def (N := N_l_draw) (k := 0) b_l_draw rfl rfl rfl T.d_l_draw.F sc_l_draw fun cdv A outer s H E hgu hr =>
  (mss_cons (ms_if (mt_cmp os_gt (me_ix (un1 hr) (me_v 0) me_str) me_int rfl)
    (mss_cons (ms_set (i := 2) sc_l_draw.nd (me_op os_mod (me_ix (un1 hr) (me_v 0) me_str) (me_v 1)))
    (mss_cons (ms_sub (un1 hr) (me_v 0) me_str (me_op os_fdiv (me_ix (un1 hr) (me_v 0) me_str) (me_v 1)) (fun _ => rfl))
    (mss_one (ms_ret (me_v 2)))))
    mss_nil)
  (mss_cons (ms_set (i := 3) sc_l_draw.nd (me_ix (un1 hr) (me_v 0) me_str))
  (mss_cons (ms_sub (un1 hr) (me_v 0) me_str (me_op os_add (me_v 3) me_int) (fun _ => rfl))
  (mss_cons (ms_set (i := 4) sc_l_draw.nd me_int)
  (mss_cons (ms_if (mt_cmp (os_ne hr.units) (me_ix (un1 hr) (me_v 0) me_str) (me_lst ma_nil) rfl)
    (mss_one (ms_set (i := 4) sc_l_draw.nd (me_ix (un1 hr) (me_ix (un1 hr) (me_v 0) me_str) (me_op os_mod (me_v 3) (me_cb cs_len T.z_len (by decide +kernel) (ma_cons (me_ix (un1 hr) (me_v 0) me_str) ma_nil))))))
    mss_nil)
  (mss_cons (ms_if (mt_w (mw_and (mt_cmp os_lt (me_v 3) (me_cb cs_len T.z_len (by decide +kernel) (ma_cons (me_ix (un1 hr) (me_v 0) me_str) ma_nil)) rfl) (mw_and1 (mt_cmp os_ge (me_cb cs_abs T.z_abs (by decide +kernel) (ma_cons (me_v 4) ma_nil)) (me_op os_pow me_int me_int) rfl))))
    (mss_cons (ms_sub (un1 hr) (me_v 0) me_str (me_op os_fdiv (me_op os_sub (me_cb cs_abs T.z_abs (by decide +kernel) (ma_cons (me_v 4) ma_nil)) (me_op os_pow me_int me_int)) (me_v 1)) (fun _ => rfl))
    (mss_one (ms_ret (me_op os_mod (me_op os_sub (me_cb cs_abs T.z_abs (by decide +kernel) (ma_cons (me_v 4) ma_nil)) (me_op os_pow me_int me_int)) (me_v 1)))))
    mss_nil)
  (mss_cons (ms_set (i := 5) sc_l_draw.nd (me_op os_add (me_op os_add (me_op os_add (me_op os_mod (me_v 4) me_int) (me_op os_mul (me_op os_mul me_int (me_v 3)) (me_v 3))) (me_op os_mul me_int (me_v 3))) me_int))
  (mss_cons (ms_set (i := 5) sc_l_draw.nd (me_op os_mod (me_op os_mul (me_v 5) me_int) me_int))
  (mss_cons (ms_set (i := 5) sc_l_draw.nd (me_op os_mod (me_op os_add (me_op os_add (me_op os_mul (me_v 5) (me_v 5)) (me_op os_mul me_int (me_v 5))) (me_v 3)) me_int))
  (mss_one (ms_ret (me_op os_mod (me_op os_fdiv (me_op os_mod (me_op os_mul (me_v 5) (me_op os_add (me_v 5) me_int)) me_int) me_int) (me_v 1)))))))))))))
theorem ok_l_pick (T : Top K mg ad) : FnG P w K mg base 2 ad.f_l_pick ad.fd_l_pick ["_law_pen_here", "_law_some"] (spM ⟨K, mg⟩ 2 m_l_pick) :=
  fn_def (N := N_l_pick) (k := 1) b_l_pick rfl rfl rfl T.d_l_pick.F sc_l_pick fun cdv A outer s H E hgu hr =>
  (mss_one (ms_ret (me_ix (un1 hr) (me_v 1) (me_call ((ok_l_draw T).mono (by decide)) hgu hr T.d_l_draw.m T.d_l_draw.k T.d_l_draw.b takes_def (ma_cons (me_v 0) (ma_cons (me_cb cs_len T.z_len (by decide +kernel) (ma_cons (me_v 1) ma_nil)) ma_nil))))))
theorem ok_l_plain (T : Top K mg ad) : FnG P w K mg base 3 ad.f_l_plain ad.fd_l_plain ["_law_pen_here"] (spM ⟨K, mg⟩ 1 m_l_plain) :=
  fn_def (N := N_l_plain) (k := 2) b_l_plain rfl rfl rfl T.d_l_plain.F sc_l_plain fun cdv A outer s H E hgu hr =>
  (mss_cons (ms_set (i := 1) sc_l_plain.nd (me_lst (ma_cons me_non (ma_cons me_int (ma_cons me_int (ma_cons (me_call ((ok_l_draw T).mono (by decide)) hgu hr T.d_l_draw.m T.d_l_draw.k T.d_l_draw.b takes_def (ma_cons (me_v 0) (ma_cons me_int ma_nil))) (ma_cons (me_call ((ok_l_pick T).mono (by decide)) hgu hr T.d_l_pick.m T.d_l_pick.k T.d_l_pick.b takes_def (ma_cons (me_v 0) (ma_cons (me_lst (ma_cons (me_neg me_int) (ma_cons me_int (ma_cons me_int (ma_cons me_int (ma_cons me_int (ma_cons (me_neg me_int) ma_nil))))))) ma_nil))) ma_nil)))))))
  (mss_cons (ms_set (i := 1) sc_l_plain.nd (me_op os_add (me_v 1) (me_lst (ma_cons (me_call ((ok_l_pick T).mono (by decide)) hgu hr T.d_l_pick.m T.d_l_pick.k T.d_l_pick.b takes_def (ma_cons (me_v 0) (ma_cons (me_lst (ma_cons me_str (ma_cons me_str (ma_cons me_str (ma_cons me_str (ma_cons me_str (ma_cons me_str ma_nil))))))) ma_nil))) (ma_cons (me_tup (ma_cons me_int (ma_cons me_str ma_nil))) (ma_cons (me_tup (ma_cons me_str (ma_cons me_str ma_nil))) (ma_cons (me_tup ma_nil) ma_nil)))))))
  (mss_one (ms_ret (me_ix (un1 hr) (me_v 1) (me_call ((ok_l_draw T).mono (by decide)) hgu hr T.d_l_draw.m T.d_l_draw.k T.d_l_draw.b takes_def (ma_cons (me_v 0) (ma_cons me_int ma_nil))))))))
theorem ok_l_row_of (T : Top K mg ad) : FnG P w K mg base 4 ad.f_l_row_of ad.fd_l_row_of ["_law_pen_here"] (spM ⟨K, mg⟩ 1 m_l_row_of) :=
  fn_def (N := N_l_row_of) (k := 3) b_l_row_of rfl rfl rfl T.d_l_row_of.F sc_l_row_of fun cdv A outer s H E hgu hr =>
  (mss_one (ms_ret (me_ct cs_tuple T.z_tuple (by decide +kernel) (ma_cons (me_lc0 (own := [("_law_k", 1)]) fin_lst rfl sc_l_row_of.nd (mi_range1 T.z_range (ma_cons (me_call ((ok_l_draw T).mono (by decide)) hgu hr T.d_l_draw.m T.d_l_draw.k T.d_l_draw.b takes_def (ma_cons (me_v 0) (ma_cons me_int ma_nil))) ma_nil)) (blkOk_by (own := [("_law_k", 1)]) (N := N_l_row_of) (sc := defScope s_l_row_of) (by decide +kernel)) (mgb_name (i := 1) sc_l_row_of.nd (by decide) (fun _ _ _ _ _ => pg_name (i := 1) sc_l_row_of.nd rfl (Or.inl rfl))) (fun _ _ _ _ _ => mts_nil) (fun _ _ _ _ _ => (me_call ((ok_l_plain T).mono (by decide)) hgu hr T.d_l_plain.m T.d_l_plain.k T.d_l_plain.b takesN (ma_cons (me_v 0) ma_nil)))) ma_nil))))
theorem ok_Wire_put (T : Top K mg ad) : FnG P w K mg base 1 ad.f_Wire_put ad.fd_Wire_put ["self", "row"] (spM ⟨K, mg⟩ 2 m_Wire_put) :=
  fn_def (N := N_Wire_put) (k := 0) b_Wire_put rfl rfl rfl T.d_Wire_put.F sc_Wire_put fun cdv A outer s H E hgu hr =>
  (mss_cons (ms_expr (me_bm PySem.F.plainAttrs_list PySem.F.slot_list_append PySem.F.type_list_append ty_lst ms_append (me_fld T.C_Wire.m T.C_Wire.cl T.nf_Wire_waiting (me_v 0)) (ma_cons (me_v 1) ma_nil)))
  (mss_one (ms_ret (me_op os_sub (me_op os_add (me_fld T.C_Wire.m T.C_Wire.cl T.nf_Wire_known (me_v 0)) (me_cb cs_len T.z_len (by decide +kernel) (ma_cons (me_fld T.C_Wire.m T.C_Wire.cl T.nf_Wire_waiting (me_v 0)) ma_nil))) me_int))))
theorem ok_is_whole (T : Top K mg ad) : FnG P w K mg base 1 ad.f_is_whole ad.fd_is_whole ["thing"] (spM ⟨K, mg⟩ 1 m_is_whole) :=
  fn_def (N := N_is_whole) (k := 0) b_is_whole rfl rfl rfl T.d_is_whole.F sc_is_whole fun cdv A outer s H E hgu hr =>
  (mss_one (ms_ret (me_and (me_cb (cs_isX T.kx) T.z_isinstance (by decide +kernel) (ma_cons (me_v 0) (ma_cons (me_bltn T.z_int (by decide +kernel)) ma_nil))) (me_one (me_not (me_cb (cs_isX T.kx) T.z_isinstance (by decide +kernel) (ma_cons (me_v 0) (ma_cons (me_bltn T.z_bool (by decide +kernel)) ma_nil))))))))
theorem ok_is_count (T : Top K mg ad) : FnG P w K mg base 2 ad.f_is_count ad.fd_is_count ["thing"] (spM ⟨K, mg⟩ 1 m_is_count) :=
  fn_def (N := N_is_count) (k := 1) b_is_count rfl rfl rfl T.d_is_count.F sc_is_count fun cdv A outer s H E hgu hr =>
  (mss_one (ms_ret (me_and (me_call ((ok_is_whole T).mono (by decide)) hgu hr T.d_is_whole.m T.d_is_whole.k T.d_is_whole.b takes_def (ma_cons (me_v 0) ma_nil)) (me_one (me_cmp os_ge (me_v 0) me_int rfl)))))
theorem ok_is_letter (T : Top K mg ad) : FnG P w K mg base 3 ad.f_is_letter ad.fd_is_letter ["thing"] (spM ⟨K, mg⟩ 1 m_is_letter) :=
  fn_def (N := N_is_letter) (k := 2) b_is_letter rfl rfl rfl T.d_is_letter.F sc_is_letter fun cdv A outer s H E hgu hr =>
  (mss_cons (ms_if (mt_w (mw_or (mt_not (mt_v (me_cb (cs_isX T.kx) T.z_isinstance (by decide +kernel) (ma_cons (me_v 0) (ma_cons (me_bltn T.z_tuple (by decide +kernel)) ma_nil))))) (mw_or (mt_cmp (os_ne hr.units) (me_cb cs_len T.z_len (by decide +kernel) (ma_cons (me_v 0) ma_nil)) me_int rfl) (mw_or (mt_not (mt_v (me_cb (cs_isX T.kx) T.z_isinstance (by decide +kernel) (ma_cons (me_ix (un1 hr) (me_v 0) me_int) (ma_cons (me_bltn T.z_str (by decide +kernel)) ma_nil))))) (mw_or1 (mt_cmp (os_ne hr.units) (me_ix (un1 hr) (me_v 0) me_int) (me_glob (v := .str "rows") T.c_ROWS ⟨_, rfl⟩ fun _ => .str _) rfl))))))
    (mss_one (ms_ret me_bl))
    mss_nil)
  (mss_cons (ms_asg (me_v 0) (mg_tup rfl (mgs_cons (gn (i := 1) sc_is_letter.nd) (mgs_cons (gn (i := 2) sc_is_letter.nd) (mgs_cons (gn (i := 3) sc_is_letter.nd) (mgs_cons (gn (i := 4) sc_is_letter.nd) mgs_nil))))))
  (mss_cons (ms_if (mt_w (mw_or (mt_not (mt_v (me_call ((ok_is_count T).mono (by decide)) hgu hr T.d_is_count.m T.d_is_count.k T.d_is_count.b takes_def (ma_cons (me_v 2) ma_nil)))) (mw_or (mt_not (mt_v (me_call ((ok_is_count T).mono (by decide)) hgu hr T.d_is_count.m T.d_is_count.k T.d_is_count.b takes_def (ma_cons (me_v 4) ma_nil)))) (mw_or1 (mt_not (mt_v (me_cb (cs_isX T.kx) T.z_isinstance (by decide +kernel) (ma_cons (me_v 3) (ma_cons (me_bltn T.z_tuple (by decide +kernel)) ma_nil)))))))))
    (mss_one (ms_ret me_bl))
    mss_nil)
  (mss_one (ms_ret (me_cb (cs_all rfl) T.z_all (by decide +kernel) (ma_cons (me_lc0 (own := [("row", 5)]) fin_lst rfl sc_is_letter.nd (mi_val (me_v 3)) (blkOk_by (own := [("row", 5)]) (N := N_is_letter) (sc := defScope s_is_letter) (by decide +kernel)) (mgb_name (i := 5) sc_is_letter.nd (by decide) (fun _ _ _ _ _ => pg_name (i := 5) sc_is_letter.nd rfl (Or.inl rfl))) (fun _ _ _ _ _ => mts_nil) (fun _ _ _ _ _ => (me_cb (cs_isX T.kx) T.z_isinstance (by decide +kernel) (ma_cons (me_v 5) (ma_cons (me_bltn T.z_tuple (by decide +kernel)) ma_nil))))) ma_nil)))))))
theorem ok_NoLetter_init (T : Top K mg ad) : FnG P w K mg base 1 ad.f_NoLetter_init ad.fd_NoLetter_init ["self", "asked"] (spI ad.C_NoLetter ["asked"]) :=
  ini1 bse_ValueError T.X_NoLetter.o T.X_NoLetter.f0 T.X_NoLetter.F sc_NoLetter_init fun cdv A outer s H E =>
    pss_cons (ps_expr (pe_veB bse_ValueError PyProof.Rows.Boot.«ValueError» rfl T.z_ValueError (by decide +kernel) (by decide +kernel) (by decide) (by decide) T.v_ValueError (pa_cons (pe_var (i := 0) rfl (Or.inl rfl)) (pa_cons pe_str pa_nil))))
      (pss_one (ps_osB bse_ValueError (pe_var (i := 0) rfl (Or.inl rfl)) (pe_var (i := 1) rfl (Or.inl rfl))))
theorem ok_Wire_take (T : Top K mg ad) : FnG P w K mg base 4 ad.f_Wire_take ad.fd_Wire_take ["self", "letter"] (spM ⟨K, mg⟩ 2 m_Wire_take) :=
  fn_def (N := N_Wire_take) (k := 3) b_Wire_take rfl rfl rfl T.d_Wire_take.F sc_Wire_take fun cdv A outer s H E hgu hr =>
  (mss_cons (ms_if (mt_not (mt_v (me_call ((ok_is_letter T).mono (by decide)) hgu hr T.d_is_letter.m T.d_is_letter.k T.d_is_letter.b takes_def (ma_cons (me_v 1) ma_nil))))
    (mss_one (ms_raise rfl takes_def bse_ValueError T.X_NoLetter.o T.X_NoLetter.i T.X_NoLetter.t ((ok_NoLetter_init T).mono (by decide)) hgu hr T.X_NoLetter.b T.X_NoLetter.m (ma_cons (me_v 1) ma_nil)))
    mss_nil)
  (mss_cons (ms_asg (me_v 1) (mg_tup rfl (mgs_cons (gn (i := 2) sc_Wire_take.nd) (mgs_cons (gn (i := 3) sc_Wire_take.nd) (mgs_cons (gn (i := 4) sc_Wire_take.nd) (mgs_cons (gn (i := 5) sc_Wire_take.nd) mgs_nil))))))
  (mss_cons (ms_if (mt_w (mw_or (mt_cmp os_gt (me_v 3) (me_fld T.C_Wire.m T.C_Wire.cl T.nf_Wire_came (me_v 0)) rfl) (mw_or1 (mt_cmp os_gt (me_v 5) (me_op os_add (me_fld T.C_Wire.m T.C_Wire.cl T.nf_Wire_known (me_v 0)) (me_cb cs_len T.z_len (by decide +kernel) (ma_cons (me_fld T.C_Wire.m T.C_Wire.cl T.nf_Wire_waiting (me_v 0)) ma_nil))) rfl))))
    (mss_one (ms_raise rfl takes_def bse_ValueError T.X_NoLetter.o T.X_NoLetter.i T.X_NoLetter.t ((ok_NoLetter_init T).mono (by decide)) hgu hr T.X_NoLetter.b T.X_NoLetter.m (ma_cons (me_v 1) ma_nil)))
    mss_nil)
  (mss_cons (ms_set (i := 6) sc_Wire_take.nd (me_ct (cs_list new_lst) T.z_list (by decide +kernel) (ma_cons (me_sl (me_v 4) (mp_some (me_op os_sub (me_fld T.C_Wire.m T.C_Wire.cl T.nf_Wire_came (me_v 0)) (me_v 3))) mp_none) ma_nil)))
  (mss_cons (ms_fldAug T.C_Wire.m T.C_Wire.cl T.nf_Wire_came (me_v 0) (me_cb cs_len T.z_len (by decide +kernel) (ma_cons (me_v 6) ma_nil)))
  (mss_cons (ms_if (mt_cmp os_gt (me_v 5) (me_fld T.C_Wire.m T.C_Wire.cl T.nf_Wire_known (me_v 0)) rfl)
    (mss_cons (ms_fld T.C_Wire.m T.C_Wire.cl T.nf_Wire_waiting (me_v 0) (me_sl (me_fld T.C_Wire.m T.C_Wire.cl T.nf_Wire_waiting (me_v 0)) (mp_some (me_op os_sub (me_v 5) (me_fld T.C_Wire.m T.C_Wire.cl T.nf_Wire_known (me_v 0)))) mp_none))
    (mss_one (ms_fld T.C_Wire.m T.C_Wire.cl T.nf_Wire_known (me_v 0) (me_v 5))))
    mss_nil)
  (mss_one (ms_ret (me_v 6)))))))))
theorem ok_l_fresh_by (T : Top K mg ad) : FnG P w K mg base 1 ad.f_l_fresh_by ad.fd_l_fresh_by ["_law_end_here", "_law_letter"] (spM ⟨K, mg⟩ 2 m_l_fresh_by) :=
  fn_def (N := N_l_fresh_by) (k := 0) b_l_fresh_by rfl rfl rfl T.d_l_fresh_by.F sc_l_fresh_by fun cdv A outer s H E hgu hr =>
  (mss_cons (ms_set (i := 2) sc_l_fresh_by.nd (me_sl (me_ct (cs_list new_lst) T.z_list (by decide +kernel) (ma_cons (me_ix (un1 hr) (me_v 1) me_int) ma_nil)) (mp_some (me_cb (cs_max rfl) T.z_max (by decide +kernel) (ma_cons me_int (ma_cons (me_op os_sub (me_ix (un1 hr) (me_v 0) me_str) (me_ix (un1 hr) (me_v 1) me_int)) ma_nil)))) mp_none))
  (mss_cons (ms_sub (un1 hr) (me_v 0) me_str (me_op os_add (me_ix (un1 hr) (me_v 0) me_str) (me_cb cs_len T.z_len (by decide +kernel) (ma_cons (me_v 2) ma_nil))) (fun _ => rfl))
  (mss_cons (ms_sub (un1 hr) (me_v 0) me_str (me_cb (cs_max rfl) T.z_max (by decide +kernel) (ma_cons (me_ix (un1 hr) (me_v 0) me_str) (ma_cons (me_ix (un1 hr) (me_v 1) me_int) ma_nil))) (fun _ => rfl))
  (mss_one (ms_ret (me_v 2))))))
theorem ok_l_odd (T : Top K mg ad) : FnG P w K mg base 3 ad.f_l_odd ad.fd_l_odd ["_law_pen_here"] (spM ⟨K, mg⟩ 1 m_l_odd) :=
  fn_def (N := N_l_odd) (k := 2) b_l_odd rfl rfl rfl T.d_l_odd.F sc_l_odd fun cdv A outer s H E hgu hr =>
  (mss_cons (ms_set (i := 1) sc_l_odd.nd (me_lst (ma_cons me_non (ma_cons me_bl (ma_cons me_bl (ma_cons me_int (ma_cons (me_neg me_int) (ma_cons me_int (ma_cons me_int (ma_cons me_str (ma_cons me_str (ma_cons me_str (ma_cons me_str (ma_cons me_str (ma_cons (me_tup ma_nil) (ma_cons (me_lst ma_nil) (ma_cons (me_dct0 new_d) (ma_cons (me_tup (ma_cons me_str ma_nil)) (ma_cons (me_tup (ma_cons me_str (ma_cons me_str ma_nil))) (ma_cons me_str ma_nil))))))))))))))))))))
  (mss_cons (ms_set (i := 1) sc_l_odd.nd (me_op os_add (me_v 1) (me_lst (ma_cons (me_lst (ma_cons (me_tup (ma_cons me_str (ma_cons me_str ma_nil))) ma_nil)) (ma_cons (me_dct fin_d (.cons me_str me_int .nil)) (ma_cons (me_tup (ma_cons me_str (ma_cons me_int (ma_cons (me_tup ma_nil) (ma_cons me_int ma_nil))))) (ma_cons me_str (ma_cons (me_op os_pow me_int me_int) (ma_cons (me_tup (ma_cons (me_tup ma_nil) (ma_cons (me_tup ma_nil) ma_nil))) (ma_cons (me_lst (ma_cons me_str ma_nil)) ma_nil))))))))))
  (mss_one (ms_ret (me_call ((ok_l_pick T).mono (by decide)) hgu hr T.d_l_pick.m T.d_l_pick.k T.d_l_pick.b takes_def (ma_cons (me_v 0) (ma_cons (me_v 1) ma_nil)))))))
theorem ok_l_bent (T : Top K mg ad) : FnG P w K mg base 4 ad.f_l_bent ad.fd_l_bent ["_law_pen_here", "_law_end_here", "_law_letter"] (spM ⟨K, mg⟩ 3 m_l_bent) :=
  fn_def (N := N_l_bent) (k := 3) b_l_bent rfl rfl rfl T.d_l_bent.F sc_l_bent fun cdv A outer s H E hgu hr =>
  (mss_cons (ms_asg (me_v 2) (mg_tup rfl (mgs_cons (gn (i := 3) sc_l_bent.nd) (mgs_cons (gn (i := 4) sc_l_bent.nd) (mgs_cons (gn (i := 5) sc_l_bent.nd) (mgs_cons (gn (i := 6) sc_l_bent.nd) mgs_nil))))))
  (mss_cons (ms_set (i := 7) sc_l_bent.nd (me_call ((ok_l_odd T).mono (by decide)) hgu hr T.d_l_odd.m T.d_l_odd.k T.d_l_odd.b takes_def (ma_cons (me_v 0) ma_nil)))
  (mss_cons (ms_set (i := 8) sc_l_bent.nd (me_ix (un1 hr) (me_lst (ma_cons me_bl (ma_cons me_bl (ma_cons (me_neg me_int) (ma_cons me_str (ma_cons me_non (ma_cons (me_op os_add (me_ix (un1 hr) (me_v 1) me_str) me_int) (ma_cons (me_op os_add (me_cb cs_len T.z_len (by decide +kernel) (ma_cons (me_ix (un1 hr) (me_v 1) me_str) ma_nil)) me_int) (ma_cons (me_v 7) ma_nil))))))))) (me_call ((ok_l_draw T).mono (by decide)) hgu hr T.d_l_draw.m T.d_l_draw.k T.d_l_draw.b takes_def (ma_cons (me_v 0) (ma_cons me_int ma_nil)))))
  (mss_cons (ms_set (i := 9) sc_l_bent.nd (me_lstH (ma_cons (me_tup (ma_cons (me_v 3) (ma_cons (me_v 8) (ma_cons (me_v 5) (ma_cons (me_v 6) ma_nil))))) (ma_cons (me_tup (ma_cons (me_v 3) (ma_cons (me_v 4) (ma_cons (me_v 5) (ma_cons (me_v 8) ma_nil))))) (ma_cons (me_tup (ma_cons (me_v 3) (ma_cons (me_v 4) (ma_cons (me_ct (cs_list new_lst) T.z_list (by decide +kernel) (ma_cons (me_v 5) ma_nil)) (ma_cons (me_v 6) ma_nil))))) ma_nil)))))
  (mss_cons (ms_expr (me_bm PySem.F.plainAttrs_list PySem.F.slot_list_append PySem.F.type_list_append ty_lst ms_append (me_v 9) (ma_cons (me_tup (ma_cons (me_call ((ok_l_pick T).mono (by decide)) hgu hr T.d_l_pick.m T.d_l_pick.k T.d_l_pick.b takes_def (ma_cons (me_v 0) (ma_cons (me_lst (ma_cons me_str (ma_cons me_str (ma_cons me_non (ma_cons me_str (ma_cons me_int ma_nil)))))) ma_nil))) (ma_cons (me_v 4) (ma_cons (me_v 5) (ma_cons (me_v 6) ma_nil))))) ma_nil)))
  (mss_cons (ms_expr (me_bm PySem.F.plainAttrs_list PySem.F.slot_list_append PySem.F.type_list_append ty_lst ms_append (me_v 9) (ma_cons (me_tup (ma_cons (me_v 3) (ma_cons (me_v 4) (ma_cons (me_op os_add (me_v 5) (me_tup (ma_cons (me_v 7) ma_nil))) (ma_cons (me_v 6) ma_nil))))) ma_nil)))
  (mss_cons (ms_set (i := 9) sc_l_bent.nd (me_op os_add (me_v 9) (me_lst (ma_cons (me_sl (me_v 2) mp_none (mp_some me_int)) (ma_cons (me_op os_add (me_v 2) (me_tup (ma_cons me_int ma_nil))) (ma_cons (me_ct (cs_list new_lst) T.z_list (by decide +kernel) (ma_cons (me_v 2) ma_nil)) (ma_cons (me_rev4 (me_v 2)) (ma_cons (me_tup (ma_cons (me_v 3) (ma_cons (me_v 4) (ma_cons (me_v 7) (ma_cons (me_v 6) ma_nil))))) (ma_cons (me_v 7) ma_nil)))))))))
  (mss_one (ms_ret (me_call ((ok_l_pick T).mono (by decide)) hgu hr T.d_l_pick.m T.d_l_pick.k T.d_l_pick.b takes_def (ma_cons (me_v 0) (ma_cons (me_v 9) ma_nil))))))))))))
theorem ok_l_is_count (T : Top K mg ad) : FnG P w K mg base 1 ad.f_l_is_count ad.fd_l_is_count ["_law_thing"] (spM ⟨K, mg⟩ 1 m_l_is_count) :=
  fn_def (N := N_l_is_count) (k := 0) b_l_is_count rfl rfl rfl T.d_l_is_count.F sc_l_is_count fun cdv A outer s H E hgu hr =>
  (mss_one (ms_ret (me_and (me_cb (cs_isX T.kx) T.z_isinstance (by decide +kernel) (ma_cons (me_v 0) (ma_cons (me_bltn T.z_int (by decide +kernel)) ma_nil))) (me_and (me_not (me_cb (cs_isX T.kx) T.z_isinstance (by decide +kernel) (ma_cons (me_v 0) (ma_cons (me_bltn T.z_bool (by decide +kernel)) ma_nil)))) (me_one (me_cmp os_ge (me_v 0) me_int rfl))))))
theorem ok_l_is_letter (T : Top K mg ad) : FnG P w K mg base 2 ad.f_l_is_letter ad.fd_l_is_letter ["_law_end_here", "_law_thing"] (spM ⟨K, mg⟩ 2 m_l_is_letter) :=
  fn_def (N := N_l_is_letter) (k := 1) b_l_is_letter rfl rfl rfl T.d_l_is_letter.F sc_l_is_letter fun cdv A outer s H E hgu hr =>
  (mss_cons (ms_if (mt_w (mw_or (mt_not (mt_v (me_cb (cs_isX T.kx) T.z_isinstance (by decide +kernel) (ma_cons (me_v 1) (ma_cons (me_bltn T.z_tuple (by decide +kernel)) ma_nil))))) (mw_or (mt_cmp (os_ne hr.units) (me_cb cs_len T.z_len (by decide +kernel) (ma_cons (me_v 1) ma_nil)) me_int rfl) (mw_or (mt_cmp (os_ne hr.units) (me_ix (un1 hr) (me_v 1) me_int) me_str rfl) (mw_or1 (mt_not (mt_v (me_cb (cs_isX T.kx) T.z_isinstance (by decide +kernel) (ma_cons (me_ix (un1 hr) (me_v 1) me_int) (ma_cons (me_bltn T.z_tuple (by decide +kernel)) ma_nil))))))))))
    (mss_one (ms_ret me_bl))
    mss_nil)
  (mss_cons (ms_if (mt_w (mw_or (mt_not (mt_v (me_call ((ok_l_is_count T).mono (by decide)) hgu hr T.d_l_is_count.m T.d_l_is_count.k T.d_l_is_count.b takes_def (ma_cons (me_ix (un1 hr) (me_v 1) me_int) ma_nil)))) (mw_or (mt_not (mt_v (me_call ((ok_l_is_count T).mono (by decide)) hgu hr T.d_l_is_count.m T.d_l_is_count.k T.d_l_is_count.b takes_def (ma_cons (me_ix (un1 hr) (me_v 1) me_int) ma_nil)))) (mw_or1 (mt_cmp os_gt (me_ix (un1 hr) (me_v 1) me_int) (me_ix (un1 hr) (me_v 0) me_str) rfl)))))
    (mss_one (ms_ret me_bl))
    mss_nil)
  (mss_one (ms_ret (me_and (me_cmp os_le (me_ix (un1 hr) (me_v 1) me_int) (me_cb cs_len T.z_len (by decide +kernel) (ma_cons (me_ix (un1 hr) (me_v 0) me_str) ma_nil)) rfl) (me_one (me_cmp (os_eq hr.units) (me_lc0 (own := [("_law_row", 2)]) fin_lst rfl sc_l_is_letter.nd (mi_val (me_ix (un1 hr) (me_v 1) me_int)) (blkOk_by (own := [("_law_row", 2)]) (N := N_l_is_letter) (sc := defScope s_l_is_letter) (by decide +kernel)) (mgb_name (i := 2) sc_l_is_letter.nd (by decide) (fun _ _ _ _ _ => pg_name (i := 2) sc_l_is_letter.nd rfl (Or.inl rfl))) (fun _ _ _ _ _ => (mts_one (mt_not (mt_v (me_cb (cs_isX T.kx) T.z_isinstance (by decide +kernel) (ma_cons (me_v 2) (ma_cons (me_bltn T.z_tuple (by decide +kernel)) ma_nil))))))) (fun _ _ _ _ _ => (me_v 2))) (me_lst ma_nil) rfl)))))))
theorem ok_l_refused (T : Top K mg ad) : FnG P w K mg base 5 ad.f_l_refused ad.fd_l_refused ["_law_wire", "_law_thing"] (spM ⟨K, mg⟩ 2 m_l_refused) :=
  fn_def (N := N_l_refused) (k := 4) b_l_refused rfl rfl rfl T.d_l_refused.F sc_l_refused fun cdv A outer s H E hgu hr =>
  (mss_cons (ms_set (i := 2) sc_l_refused.nd me_non)
  (mss_cons (ms_keep (i := 3) (j := 2) rfl rfl rfl sc_l_refused.nd rfl rfl (by decide) rfl ⟨rfl, by decide, .inl T.C_NoLetter.m⟩ T.hit_NoLetter (fun _ _ _ tk ow => (mss_one (ms_expr (me_methD (dvs := []) (fun _ => .nil) .nil T.C_Wire.m T.C_Wire.cl T.d_Wire_take.me ((ok_Wire_take T).mono (by decide)) hgu hr T.d_Wire_take.b tk (me_v 0) (ma_cons (me_v 1) ma_nil))))) (Or.inl rfl) (by decide) (by decide) (Or.inl rfl) (Or.inr rfl) (fun _ _ => rfl))
  (mss_cons (ms_if (mt_w (mw_or (mt_cmp os_is (me_v 2) me_non rfl) (mw_or (mt_v (me_cb (cs_isX T.kx) T.z_isinstance (by decide +kernel) (ma_cons (me_v 2) (ma_cons (me_tup (ma_cons (me_glob (v := .ref ad.C_BadArgs) T.C_BadArgs.m rfl fun _ => .fn (v := .ref ad.C_BadArgs) T.C_BadArgs.m rfl) (ma_cons (me_glob (v := .ref ad.C_BadPlan) T.C_BadPlan.m rfl fun _ => .fn (v := .ref ad.C_BadPlan) T.C_BadPlan.m rfl) (ma_cons (me_glob (v := .ref ad.C_BadText) T.C_BadText.m rfl fun _ => .fn (v := .ref ad.C_BadText) T.C_BadText.m rfl) ma_nil)))) ma_nil)))) (mw_or1 (mt_not (mt_v (me_cb (cs_isX T.kx) T.z_isinstance (by decide +kernel) (ma_cons (me_v 2) (ma_cons (me_bltn T.z_ValueError (by decide +kernel)) ma_nil)))))))))
    (mss_one (ms_ret me_bl))
    mss_nil)
  (mss_one (ms_ret (me_cmp (os_eq hr.units) (me_cb (cs_repr hgu hr.units) T.z_repr (by decide +kernel) (ma_cons (me_exf T.x_asked (me_v 2)) ma_nil)) (me_cb (cs_repr hgu hr.units) T.z_repr (by decide +kernel) (ma_cons (me_v 1) ma_nil)) rfl))))))
theorem ok_Wire_letter (T : Top K mg ad) : FnG P w K mg base 1 ad.f_Wire_letter ad.fd_Wire_letter ["self"] (spM ⟨K, mg⟩ 1 m_Wire_letter) :=
  fn_def (N := N_Wire_letter) (k := 0) b_Wire_letter rfl rfl rfl T.d_Wire_letter.F sc_Wire_letter fun cdv A outer s H E hgu hr =>
  (mss_one (ms_ret (me_tup (ma_cons (me_glob (v := .str "rows") T.c_ROWS ⟨_, rfl⟩ fun _ => .str _) (ma_cons (me_fld T.C_Wire.m T.C_Wire.cl T.nf_Wire_known (me_v 0)) (ma_cons (me_ct cs_tuple T.z_tuple (by decide +kernel) (ma_cons (me_fld T.C_Wire.m T.C_Wire.cl T.nf_Wire_waiting (me_v 0)) ma_nil)) (ma_cons (me_fld T.C_Wire.m T.C_Wire.cl T.nf_Wire_came (me_v 0)) ma_nil)))))))
theorem ok_l_letter_of (T : Top K mg ad) : FnG P w K mg base 1 ad.f_l_letter_of ad.fd_l_letter_of ["_law_end_here"] (spM ⟨K, mg⟩ 1 m_l_letter_of) :=
  fn_def (N := N_l_letter_of) (k := 0) b_l_letter_of rfl rfl rfl T.d_l_letter_of.F sc_l_letter_of fun cdv A outer s H E hgu hr =>
  (mss_one (ms_ret (me_tup (ma_cons me_str (ma_cons (me_ix (un1 hr) (me_v 0) me_str) (ma_cons (me_ct cs_tuple T.z_tuple (by decide +kernel) (ma_cons (me_sl (me_ix (un1 hr) (me_v 0) me_str) (mp_some (me_ix (un1 hr) (me_v 0) me_str)) mp_none) ma_nil)) (ma_cons (me_ix (un1 hr) (me_v 0) me_str) ma_nil)))))))
theorem ok_Wire_heard (T : Top K mg ad) : FnG P w K mg base 1 ad.f_Wire_heard ad.fd_Wire_heard ["self"] (spM ⟨K, mg⟩ 1 m_Wire_heard) :=
  fn_def (N := N_Wire_heard) (k := 0) b_Wire_heard rfl rfl rfl T.d_Wire_heard.F sc_Wire_heard fun cdv A outer s H E hgu hr =>
  (mss_one (ms_ret (me_fld T.C_Wire.m T.C_Wire.cl T.nf_Wire_came (me_v 0))))
theorem ok_Wire_unheard (T : Top K mg ad) : FnG P w K mg base 1 ad.f_Wire_unheard ad.fd_Wire_unheard ["self"] (spM ⟨K, mg⟩ 1 m_Wire_unheard) :=
  fn_def (N := N_Wire_unheard) (k := 0) b_Wire_unheard rfl rfl rfl T.d_Wire_unheard.F sc_Wire_unheard fun cdv A outer s H E hgu hr =>
  (mss_one (ms_ret (me_ct (cs_list new_h) T.z_list (by decide +kernel) (ma_cons (me_fld T.C_Wire.m T.C_Wire.cl T.nf_Wire_waiting (me_v 0)) ma_nil))))
theorem ok_Wire_len (T : Top K mg ad) : FnG P w K mg base 1 ad.f_Wire_len ad.fd_Wire_len ["self"] (spM ⟨K, mg⟩ 1 m_Wire_len) :=
  fn_def (N := N_Wire_len) (k := 0) b_Wire_len rfl rfl rfl T.d_Wire_len.F sc_Wire_len fun cdv A outer s H E hgu hr =>
  (mss_one (ms_ret (me_cb cs_len T.z_len (by decide +kernel) (ma_cons (me_fld T.C_Wire.m T.C_Wire.cl T.nf_Wire_waiting (me_v 0)) ma_nil))))
theorem ok_l_end_right (T : Top K mg ad) : FnG P w K mg base 3 ad.f_l_end_right ad.fd_l_end_right ["_law_wire", "_law_end_here"] (spM ⟨K, mg⟩ 2 m_l_end_right) :=
  fn_def (N := N_l_end_right) (k := 2) b_l_end_right rfl rfl rfl T.d_l_end_right.F sc_l_end_right fun cdv A outer s H E hgu hr =>
  (mss_cons (ms_if (mt_w (mw_or (mt_cmp (os_ne hr.units) (me_cb (cs_repr hgu hr.units) T.z_repr (by decide +kernel) (ma_cons (me_meth0D (dvs := []) (fun _ => .nil) .nil T.C_Wire.m T.C_Wire.cl T.d_Wire_letter.me ((ok_Wire_letter T).mono (by decide)) hgu hr T.d_Wire_letter.b takes_def (me_v 0)) ma_nil)) (me_cb (cs_repr hgu hr.units) T.z_repr (by decide +kernel) (ma_cons (me_call ((ok_l_letter_of T).mono (by decide)) hgu hr T.d_l_letter_of.m T.d_l_letter_of.k T.d_l_letter_of.b takes_def (ma_cons (me_v 1) ma_nil)) ma_nil)) rfl) (mw_or1 (mt_cmp (os_ne hr.units) (me_meth0D (dvs := []) (fun _ => .nil) .nil T.C_Wire.m T.C_Wire.cl T.d_Wire_heard.me ((ok_Wire_heard T).mono (by decide)) hgu hr T.d_Wire_heard.b takes_def (me_v 0)) (me_ix (un1 hr) (me_v 1) me_str) rfl))))
    (mss_one (ms_ret me_bl))
    mss_nil)
  (mss_cons (ms_set (i := 2) sc_l_end_right.nd (me_meth0D (dvs := []) (fun _ => .nil) .nil T.C_Wire.m T.C_Wire.cl T.d_Wire_unheard.me ((ok_Wire_unheard T).mono (by decide)) hgu hr T.d_Wire_unheard.b takes_def (me_v 0)))
  (mss_cons (ms_set (i := 3) sc_l_end_right.nd (me_and (me_cmp (os_eq hr.units) (me_cb (cs_repr hgu hr.units) T.z_repr (by decide +kernel) (ma_cons (me_v 2) ma_nil)) (me_cb (cs_repr hgu hr.units) T.z_repr (by decide +kernel) (ma_cons (me_sl (me_ix (un1 hr) (me_v 1) me_str) (mp_some (me_ix (un1 hr) (me_v 1) me_str)) mp_none) ma_nil)) rfl) (me_one (me_cmp (os_eq hr.units) (me_cb (cs_lenO T.C_Wire.m T.d_Wire_len.me ((ok_Wire_len T).mono (by decide)) hgu hr T.d_Wire_len.b) T.z_len (by decide +kernel) (ma_cons (me_v 0) ma_nil)) (me_cb cs_len T.z_len (by decide +kernel) (ma_cons (me_v 2) ma_nil)) rfl))))
  (mss_cons (ms_expr (me_bm PySem.F.plainAttrs_list PySem.F.slot_list_append PySem.F.type_list_append ty_lst ms_append (me_v 2) (ma_cons (me_tup (ma_cons me_str ma_nil)) ma_nil)))
  (mss_cons (ms_expr (me_bm0 PySem.F.plainAttrs_list PySem.F.slot_list_reverse PySem.F.type_list_reverse ty_lst ms_reverse (me_v 2)))
  (mss_one (ms_ret (me_and (me_v 3) (me_one (me_cmp (os_eq hr.units) (me_cb (cs_repr hgu hr.units) T.z_repr (by decide +kernel) (ma_cons (me_meth0D (dvs := []) (fun _ => .nil) .nil T.C_Wire.m T.C_Wire.cl T.d_Wire_letter.me ((ok_Wire_letter T).mono (by decide)) hgu hr T.d_Wire_letter.b takes_def (me_v 0)) ma_nil)) (me_cb (cs_repr hgu hr.units) T.z_repr (by decide +kernel) (ma_cons (me_call ((ok_l_letter_of T).mono (by decide)) hgu hr T.d_l_letter_of.m T.d_l_letter_of.k T.d_l_letter_of.b takes_def (ma_cons (me_v 1) ma_nil)) ma_nil)) rfl))))))))))
theorem ok_law (T : Top K mg ad) : FnG P w K mg base 6 ad.f_law ad.fd_law ["_law_script"] (spM ⟨K, mg⟩ 1 m_law) :=
  fn_def (N := N_law) (k := 5) b_law rfl rfl rfl T.d_law.F sc_law fun cdv A outer s H E hgu hr =>
  (mss_cons (ms_set (i := 1) sc_law.nd (me_call ((ok_l_pen T).mono (by decide)) hgu hr T.d_l_pen.m T.d_l_pen.k T.d_l_pen.b takes_def (ma_cons (me_v 0) ma_nil)))
  (mss_cons (ms_for owns_def rfl (mi_range1 T.z_range (ma_cons me_int ma_nil)) (mg_name (i := 2) sc_law.nd)
    (mss_cons (ms_par (i := 3) (j := 4) rfl sc_law.nd (ma_cons (me_make0D (dvs := []) (fun _ => .nil) .nil T.C_Wire.ma ((ok_Wire_init T).mono (by decide)) hgu hr T.C_Wire.m T.d_Wire_init.b takes_def) (ma_cons (me_call0 ((ok_l_end T).mono (by decide)) hgu hr T.d_l_end.m T.d_l_end.k T.d_l_end.b takes_def) ma_nil)))
    (mss_cons (ms_for owns_def rfl (mi_range1 T.z_range (ma_cons (me_call ((ok_l_draw T).mono (by decide)) hgu hr T.d_l_draw.m T.d_l_draw.k T.d_l_draw.b takes_def (ma_cons (me_v 1) (ma_cons me_int ma_nil))) ma_nil)) (mg_name (i := 5) sc_law.nd)
      (mss_cons (ms_expr (me_bm PySem.F.plainAttrs_list PySem.F.slot_list_append PySem.F.type_list_append ty_lst ms_append (me_ix (un1 hr) (me_v 4) me_str) (ma_cons (me_call ((ok_l_row_of T).mono (by decide)) hgu hr T.d_l_row_of.m T.d_l_row_of.k T.d_l_row_of.b takes_def (ma_cons (me_v 1) ma_nil)) ma_nil)))
      (mss_one (ms_expr (me_methD (dvs := []) (fun _ => .nil) .nil T.C_Wire.m T.C_Wire.cl T.d_Wire_put.me ((ok_Wire_put T).mono (by decide)) hgu hr T.d_Wire_put.b takes_def (me_v 3) (ma_cons (me_ix (un1 hr) (me_ix (un1 hr) (me_v 4) me_str) (me_neg me_int)) ma_nil))))))
    (mss_cons (ms_set (i := 6) sc_law.nd (me_ct cs_tuple T.z_tuple (by decide +kernel) (ma_cons (me_lc0 (own := [("_law_k", 5)]) fin_lst rfl sc_law.nd (mi_range1 T.z_range (ma_cons (me_call ((ok_l_draw T).mono (by decide)) hgu hr T.d_l_draw.m T.d_l_draw.k T.d_l_draw.b takes_def (ma_cons (me_v 1) (ma_cons me_int ma_nil))) ma_nil)) (blkOk_by (own := [("_law_k", 5)]) (N := N_law) (sc := defScope s_law) (by decide +kernel)) (mgb_name (i := 5) sc_law.nd (by decide) (fun _ _ _ _ _ => pg_name (i := 5) sc_law.nd rfl (Or.inl rfl))) (fun _ _ _ _ _ => mts_nil) (fun _ _ _ _ _ => (me_call ((ok_l_row_of T).mono (by decide)) hgu hr T.d_l_row_of.m T.d_l_row_of.k T.d_l_row_of.b takesN (ma_cons (me_v 1) ma_nil)))) ma_nil)))
    (mss_cons (ms_set (i := 7) sc_law.nd (me_tup (ma_cons me_str (ma_cons me_int (ma_cons (me_v 6) (ma_cons (me_call ((ok_l_draw T).mono (by decide)) hgu hr T.d_l_draw.m T.d_l_draw.k T.d_l_draw.b takes_def (ma_cons (me_v 1) (ma_cons (me_op os_add (me_cb cs_len T.z_len (by decide +kernel) (ma_cons (me_ix (un1 hr) (me_v 4) me_str) ma_nil)) me_int) ma_nil))) ma_nil))))))
    (mss_cons (ms_if (mt_w (mw_and (mt_cmp (os_eq hr.units) (me_call ((ok_l_draw T).mono (by decide)) hgu hr T.d_l_draw.m T.d_l_draw.k T.d_l_draw.b takes_def (ma_cons (me_v 1) (ma_cons me_int ma_nil))) me_int rfl) (mw_and1 (mt_cmp (os_ne hr.units) (me_cb (cs_repr hgu hr.units) T.z_repr (by decide +kernel) (ma_cons (me_methD (dvs := []) (fun _ => .nil) .nil T.C_Wire.m T.C_Wire.cl T.d_Wire_take.me ((ok_Wire_take T).mono (by decide)) hgu hr T.d_Wire_take.b takes_def (me_v 3) (ma_cons (me_v 7) ma_nil)) ma_nil)) (me_cb (cs_repr hgu hr.units) T.z_repr (by decide +kernel) (ma_cons (me_call ((ok_l_fresh_by T).mono (by decide)) hgu hr T.d_l_fresh_by.m T.d_l_fresh_by.k T.d_l_fresh_by.b takes_def (ma_cons (me_v 4) (ma_cons (me_v 7) ma_nil))) ma_nil)) rfl))))
      (mss_one (ms_ret me_bl))
      mss_nil)
    (mss_cons (ms_set (i := 8) sc_law.nd (me_op os_add (me_v 6) (me_ct cs_tuple T.z_tuple (by decide +kernel) (ma_cons (me_lc0 (own := [("_law_k", 5)]) fin_lst rfl sc_law.nd (mi_range1 T.z_range (ma_cons (me_call ((ok_l_draw T).mono (by decide)) hgu hr T.d_l_draw.m T.d_l_draw.k T.d_l_draw.b takes_def (ma_cons (me_v 1) (ma_cons me_int ma_nil))) ma_nil)) (blkOk_by (own := [("_law_k", 5)]) (N := N_law) (sc := defScope s_law) (by decide +kernel)) (mgb_name (i := 5) sc_law.nd (by decide) (fun _ _ _ _ _ => pg_name (i := 5) sc_law.nd rfl (Or.inl rfl))) (fun _ _ _ _ _ => mts_nil) (fun _ _ _ _ _ => (me_call ((ok_l_row_of T).mono (by decide)) hgu hr T.d_l_row_of.m T.d_l_row_of.k T.d_l_row_of.b takesN (ma_cons (me_v 1) ma_nil)))) ma_nil))))
    (mss_cons (ms_set (i := 9) sc_law.nd (me_call ((ok_l_draw T).mono (by decide)) hgu hr T.d_l_draw.m T.d_l_draw.k T.d_l_draw.b takes_def (ma_cons (me_v 1) (ma_cons (me_op os_add (me_ix (un1 hr) (me_v 4) me_str) me_int) ma_nil))))
    (mss_cons (ms_set (i := 7) sc_law.nd (me_tup (ma_cons me_str (ma_cons (me_v 9) (ma_cons (me_sl (me_v 8) (mp_some (me_v 9)) mp_none) (ma_cons (me_op os_add (me_ix (un1 hr) (me_v 4) me_str) (me_call ((ok_l_draw T).mono (by decide)) hgu hr T.d_l_draw.m T.d_l_draw.k T.d_l_draw.b takes_def (ma_cons (me_v 1) (ma_cons (me_op os_add (me_op os_sub (me_cb cs_len T.z_len (by decide +kernel) (ma_cons (me_ix (un1 hr) (me_v 4) me_str) ma_nil)) (me_ix (un1 hr) (me_v 4) me_str)) me_int) ma_nil)))) ma_nil))))))
    (mss_cons (ms_for owns_def rfl (mi_range1 T.z_range (ma_cons me_int ma_nil)) (mg_name (i := 10) sc_law.nd)
      (mss_cons (ms_set (i := 11) sc_law.nd (me_call ((ok_l_bent T).mono (by decide)) hgu hr T.d_l_bent.m T.d_l_bent.k T.d_l_bent.b takes_def (ma_cons (me_v 1) (ma_cons (me_v 4) (ma_cons (me_v 7) ma_nil)))))
      (mss_cons (ms_if (mt_w (mw_and (mt_v (me_cb (cs_isX T.kx) T.z_isinstance (by decide +kernel) (ma_cons (me_v 11) (ma_cons (me_bltn T.z_tuple (by decide +kernel)) ma_nil)))) (mw_and (mt_cmp (os_eq hr.units) (me_cb cs_len T.z_len (by decide +kernel) (ma_cons (me_v 11) ma_nil)) me_int rfl) (mw_and (mt_v (me_cb (cs_isX T.kx) T.z_isinstance (by decide +kernel) (ma_cons (me_ix (un1 hr) (me_v 11) me_int) (ma_cons (me_bltn T.z_tuple (by decide +kernel)) ma_nil)))) (mw_and1 (mt_cmp (os_eq hr.units) (me_call ((ok_l_draw T).mono (by decide)) hgu hr T.d_l_draw.m T.d_l_draw.k T.d_l_draw.b takes_def (ma_cons (me_v 1) (ma_cons me_int ma_nil))) me_int rfl))))))
        (mss_one (ms_set (i := 11) sc_law.nd (me_call ((ok_l_bent T).mono (by decide)) hgu hr T.d_l_bent.m T.d_l_bent.k T.d_l_bent.b takes_def (ma_cons (me_v 1) (ma_cons (me_v 4) (ma_cons (me_v 11) ma_nil))))))
        mss_nil)
      (mss_one (ms_if (mt_w (mw_and (mt_not (mt_v (me_call ((ok_l_is_letter T).mono (by decide)) hgu hr T.d_l_is_letter.m T.d_l_is_letter.k T.d_l_is_letter.b takes_def (ma_cons (me_v 4) (ma_cons (me_v 11) ma_nil))))) (mw_and1 (mt_w (mw_or (mt_not (mt_v (me_call ((ok_l_refused T).mono (by decide)) hgu hr T.d_l_refused.m T.d_l_refused.k T.d_l_refused.b takes_def (ma_cons (me_v 3) (ma_cons (me_v 11) ma_nil))))) (mw_or1 (mt_not (mt_v (me_call ((ok_l_end_right T).mono (by decide)) hgu hr T.d_l_end_right.m T.d_l_end_right.k T.d_l_end_right.b takes_def (ma_cons (me_v 3) (ma_cons (me_v 4) ma_nil)))))))))))
        (mss_one (ms_ret me_bl))
        mss_nil)))))
    (mss_one (ms_if (mt_w (mw_or (mt_cmp (os_ne hr.units) (me_cb (cs_repr hgu hr.units) T.z_repr (by decide +kernel) (ma_cons (me_methD (dvs := []) (fun _ => .nil) .nil T.C_Wire.m T.C_Wire.cl T.d_Wire_take.me ((ok_Wire_take T).mono (by decide)) hgu hr T.d_Wire_take.b takes_def (me_v 3) (ma_cons (me_v 7) ma_nil)) ma_nil)) (me_cb (cs_repr hgu hr.units) T.z_repr (by decide +kernel) (ma_cons (me_call ((ok_l_fresh_by T).mono (by decide)) hgu hr T.d_l_fresh_by.m T.d_l_fresh_by.k T.d_l_fresh_by.b takes_def (ma_cons (me_v 4) (ma_cons (me_v 7) ma_nil))) ma_nil)) rfl) (mw_or1 (mt_not (mt_v (me_call ((ok_l_end_right T).mono (by decide)) hgu hr T.d_l_end_right.m T.d_l_end_right.k T.d_l_end_right.b takes_def (ma_cons (me_v 3) (ma_cons (me_v 4) ma_nil))))))))
      (mss_one (ms_ret me_bl))
      mss_nil))))))))))))
  (mss_one (ms_ret me_bl))))
end
end Mi.L26

set_option Elab.async false
set_option linter.all false
set_option maxRecDepth 100000
set_option maxHeartbeats 16000000
namespace Mi.L26
open PySem L2 Mi

theorem all_mk {l : PySem.W.OpenLaw} {w : World} {K : PySem.W.Frag} {h : Heap} {mg : Str → Option Value} {fa : Addr} (X : K.In h) (G : h.Ns mainGlobals mg) (hfa : mg "law" = some (.ref fa))
    {f_l_pen f_Wire_init f_l_end f_l_draw f_l_pick f_l_plain f_l_row_of f_Wire_put f_is_whole f_is_count f_is_letter f_NoLetter_init N_NoLetter_init f_Wire_take f_l_fresh_by f_l_odd f_l_bent f_l_is_count f_l_is_letter f_l_refused f_Wire_letter f_l_letter_of f_Wire_heard f_Wire_unheard f_Wire_len f_l_end_right f_law C_Wire C_NoLetter C_BadText C_BadPlan C_BadArgs : Addr}
    {od_l_pen an_l_pen od_Wire_init an_Wire_init od_l_end an_l_end od_l_draw an_l_draw od_l_pick an_l_pick od_l_plain an_l_plain od_l_row_of an_l_row_of od_Wire_put an_Wire_put od_is_whole an_is_whole od_is_count an_is_count od_is_letter an_is_letter od_NoLetter_init an_NoLetter_init od_Wire_take an_Wire_take od_l_fresh_by an_l_fresh_by od_l_odd an_l_odd od_l_bent an_l_bent od_l_is_count an_l_is_count od_l_is_letter an_l_is_letter od_l_refused an_l_refused od_Wire_letter an_Wire_letter od_l_letter_of an_l_letter_of od_Wire_heard an_Wire_heard od_Wire_unheard an_Wire_unheard od_Wire_len an_Wire_len od_l_end_right an_l_end_right od_law an_law : Option Addr}
    {sl_l_pen sl_Wire_init sl_l_end sl_l_draw sl_l_pick sl_l_plain sl_l_row_of sl_Wire_put sl_is_whole sl_is_count sl_is_letter sl_NoLetter_init sl_Wire_take sl_l_fresh_by sl_l_odd sl_l_bent sl_l_is_count sl_l_is_letter sl_l_refused sl_Wire_letter sl_l_letter_of sl_Wire_heard sl_Wire_unheard sl_Wire_len sl_l_end_right sl_law : Array (Option Value)}
    {oc_l_pen kV_l_pen dc_l_pen pm_l_pen cd_l_pen ct_l_pen oc_Wire_init kV_Wire_init dc_Wire_init pm_Wire_init cd_Wire_init ct_Wire_init oc_l_end kV_l_end dc_l_end pm_l_end cd_l_end ct_l_end oc_l_draw kV_l_draw dc_l_draw pm_l_draw cd_l_draw ct_l_draw oc_l_pick kV_l_pick dc_l_pick pm_l_pick cd_l_pick ct_l_pick oc_l_plain kV_l_plain dc_l_plain pm_l_plain cd_l_plain ct_l_plain oc_l_row_of kV_l_row_of dc_l_row_of pm_l_row_of cd_l_row_of ct_l_row_of oc_Wire_put kV_Wire_put dc_Wire_put pm_Wire_put cd_Wire_put ct_Wire_put oc_is_whole kV_is_whole dc_is_whole pm_is_whole cd_is_whole ct_is_whole oc_is_count kV_is_count dc_is_count pm_is_count cd_is_count ct_is_count oc_is_letter kV_is_letter dc_is_letter pm_is_letter cd_is_letter ct_is_letter oc_NoLetter_init kV_NoLetter_init dc_NoLetter_init pm_NoLetter_init cd_NoLetter_init ct_NoLetter_init oc_Wire_take kV_Wire_take dc_Wire_take pm_Wire_take cd_Wire_take ct_Wire_take oc_l_fresh_by kV_l_fresh_by dc_l_fresh_by pm_l_fresh_by cd_l_fresh_by ct_l_fresh_by oc_l_odd kV_l_odd dc_l_odd pm_l_odd cd_l_odd ct_l_odd oc_l_bent kV_l_bent dc_l_bent pm_l_bent cd_l_bent ct_l_bent oc_l_is_count kV_l_is_count dc_l_is_count pm_l_is_count cd_l_is_count ct_l_is_count oc_l_is_letter kV_l_is_letter dc_l_is_letter pm_l_is_letter cd_l_is_letter ct_l_is_letter oc_l_refused kV_l_refused dc_l_refused pm_l_refused cd_l_refused ct_l_refused oc_Wire_letter kV_Wire_letter dc_Wire_letter pm_Wire_letter cd_Wire_letter ct_Wire_letter oc_l_letter_of kV_l_letter_of dc_l_letter_of pm_l_letter_of cd_l_letter_of ct_l_letter_of oc_Wire_heard kV_Wire_heard dc_Wire_heard pm_Wire_heard cd_Wire_heard ct_Wire_heard oc_Wire_unheard kV_Wire_unheard dc_Wire_unheard pm_Wire_unheard cd_Wire_unheard ct_Wire_unheard oc_Wire_len kV_Wire_len dc_Wire_len pm_Wire_len cd_Wire_len ct_Wire_len oc_l_end_right kV_l_end_right dc_l_end_right pm_l_end_right cd_l_end_right ct_l_end_right oc_law kV_law dc_law pm_law cd_law ct_law : Value}
    {t_ROWS : Tok}
    {nm_NoLetter_init : Str} {q_NoLetter_init : Str} {bs_NoLetter_init : List Value} {sn_NoLetter_init : List Str} {sub_NoLetter_init : List Value} {ab_NoLetter_init : Bool} {col_NoLetter_init : Option Bool} {dd_NoLetter_init : Option Addr} {k0_NoLetter_init k1_NoLetter_init k2_NoLetter_init k3_NoLetter_init k5_NoLetter_init : Option Value}
    (l_l_pen : K.lookup f_l_pen = some ⟨oc_l_pen, od_l_pen, .func (PySem.W.fnOf "_law_pen" "_law_pen" (defArgs s_l_pen) (defBody s_l_pen) (defScope s_l_pen) .none kV_l_pen dc_l_pen pm_l_pen an_l_pen cd_l_pen ct_l_pen), sl_l_pen⟩) (c_l_pen : PySem.W.codeIn K cd_l_pen "_law_pen" = true) (k_l_pen : PySem.W.keepIn K (.ref f_l_pen) = true) (a_l_pen : PySem.W.nsIn K mainGlobals "_law_pen" = some (some (.ref f_l_pen)))
    (l_Wire_init : K.lookup f_Wire_init = some ⟨oc_Wire_init, od_Wire_init, .func (PySem.W.fnOf "__init__" "Wire.__init__" (defArgs s_Wire_init) (defBody s_Wire_init) (defScope s_Wire_init) .none kV_Wire_init dc_Wire_init pm_Wire_init an_Wire_init cd_Wire_init ct_Wire_init), sl_Wire_init⟩) (c_Wire_init : PySem.W.codeIn K cd_Wire_init "Wire.__init__" = true) (k_Wire_init : PySem.W.keepIn K (.ref f_Wire_init) = true) (a_Wire_init : PySem.W.findIn K (.ref C_Wire) "__init__" = some (some (.ref f_Wire_init)))
    (i_Wire_init : PySem.W.isFn K (.ref f_Wire_init) = true) (l_l_end : K.lookup f_l_end = some ⟨oc_l_end, od_l_end, .func (PySem.W.fnOf "_law_end" "_law_end" (defArgs s_l_end) (defBody s_l_end) (defScope s_l_end) .none kV_l_end dc_l_end pm_l_end an_l_end cd_l_end ct_l_end), sl_l_end⟩) (c_l_end : PySem.W.codeIn K cd_l_end "_law_end" = true) (k_l_end : PySem.W.keepIn K (.ref f_l_end) = true)
    (a_l_end : PySem.W.nsIn K mainGlobals "_law_end" = some (some (.ref f_l_end))) (l_l_draw : K.lookup f_l_draw = some ⟨oc_l_draw, od_l_draw, .func (PySem.W.fnOf "_law_draw" "_law_draw" (defArgs s_l_draw) (defBody s_l_draw) (defScope s_l_draw) .none kV_l_draw dc_l_draw pm_l_draw an_l_draw cd_l_draw ct_l_draw), sl_l_draw⟩) (c_l_draw : PySem.W.codeIn K cd_l_draw "_law_draw" = true) (k_l_draw : PySem.W.keepIn K (.ref f_l_draw) = true)
    (a_l_draw : PySem.W.nsIn K mainGlobals "_law_draw" = some (some (.ref f_l_draw))) (l_l_pick : K.lookup f_l_pick = some ⟨oc_l_pick, od_l_pick, .func (PySem.W.fnOf "_law_pick" "_law_pick" (defArgs s_l_pick) (defBody s_l_pick) (defScope s_l_pick) .none kV_l_pick dc_l_pick pm_l_pick an_l_pick cd_l_pick ct_l_pick), sl_l_pick⟩) (c_l_pick : PySem.W.codeIn K cd_l_pick "_law_pick" = true) (k_l_pick : PySem.W.keepIn K (.ref f_l_pick) = true)
    (a_l_pick : PySem.W.nsIn K mainGlobals "_law_pick" = some (some (.ref f_l_pick))) (l_l_plain : K.lookup f_l_plain = some ⟨oc_l_plain, od_l_plain, .func (PySem.W.fnOf "_law_plain" "_law_plain" (defArgs s_l_plain) (defBody s_l_plain) (defScope s_l_plain) .none kV_l_plain dc_l_plain pm_l_plain an_l_plain cd_l_plain ct_l_plain), sl_l_plain⟩) (c_l_plain : PySem.W.codeIn K cd_l_plain "_law_plain" = true) (k_l_plain : PySem.W.keepIn K (.ref f_l_plain) = true)
    (a_l_plain : PySem.W.nsIn K mainGlobals "_law_plain" = some (some (.ref f_l_plain))) (l_l_row_of : K.lookup f_l_row_of = some ⟨oc_l_row_of, od_l_row_of, .func (PySem.W.fnOf "_law_row_of" "_law_row_of" (defArgs s_l_row_of) (defBody s_l_row_of) (defScope s_l_row_of) .none kV_l_row_of dc_l_row_of pm_l_row_of an_l_row_of cd_l_row_of ct_l_row_of), sl_l_row_of⟩) (c_l_row_of : PySem.W.codeIn K cd_l_row_of "_law_row_of" = true) (k_l_row_of : PySem.W.keepIn K (.ref f_l_row_of) = true)
    (a_l_row_of : PySem.W.nsIn K mainGlobals "_law_row_of" = some (some (.ref f_l_row_of))) (l_Wire_put : K.lookup f_Wire_put = some ⟨oc_Wire_put, od_Wire_put, .func (PySem.W.fnOf "put" "Wire.put" (defArgs s_Wire_put) (defBody s_Wire_put) (defScope s_Wire_put) .none kV_Wire_put dc_Wire_put pm_Wire_put an_Wire_put cd_Wire_put ct_Wire_put), sl_Wire_put⟩) (c_Wire_put : PySem.W.codeIn K cd_Wire_put "Wire.put" = true) (k_Wire_put : PySem.W.keepIn K (.ref f_Wire_put) = true)
    (a_Wire_put : PySem.W.findIn K (.ref C_Wire) "put" = some (some (.ref f_Wire_put))) (i_Wire_put : PySem.W.isFn K (.ref f_Wire_put) = true) (l_is_whole : K.lookup f_is_whole = some ⟨oc_is_whole, od_is_whole, .func (PySem.W.fnOf "is_whole" "is_whole" (defArgs s_is_whole) (defBody s_is_whole) (defScope s_is_whole) .none kV_is_whole dc_is_whole pm_is_whole an_is_whole cd_is_whole ct_is_whole), sl_is_whole⟩) (c_is_whole : PySem.W.codeIn K cd_is_whole "is_whole" = true)
    (k_is_whole : PySem.W.keepIn K (.ref f_is_whole) = true) (a_is_whole : PySem.W.nsIn K mainGlobals "is_whole" = some (some (.ref f_is_whole))) (l_is_count : K.lookup f_is_count = some ⟨oc_is_count, od_is_count, .func (PySem.W.fnOf "is_count" "is_count" (defArgs s_is_count) (defBody s_is_count) (defScope s_is_count) .none kV_is_count dc_is_count pm_is_count an_is_count cd_is_count ct_is_count), sl_is_count⟩) (c_is_count : PySem.W.codeIn K cd_is_count "is_count" = true)
    (k_is_count : PySem.W.keepIn K (.ref f_is_count) = true) (a_is_count : PySem.W.nsIn K mainGlobals "is_count" = some (some (.ref f_is_count))) (l_is_letter : K.lookup f_is_letter = some ⟨oc_is_letter, od_is_letter, .func (PySem.W.fnOf "is_letter" "is_letter" (defArgs s_is_letter) (defBody s_is_letter) (defScope s_is_letter) .none kV_is_letter dc_is_letter pm_is_letter an_is_letter cd_is_letter ct_is_letter), sl_is_letter⟩) (c_is_letter : PySem.W.codeIn K cd_is_letter "is_letter" = true)
    (k_is_letter : PySem.W.keepIn K (.ref f_is_letter) = true) (a_is_letter : PySem.W.nsIn K mainGlobals "is_letter" = some (some (.ref f_is_letter))) (l_NoLetter_init : K.lookup f_NoLetter_init = some ⟨oc_NoLetter_init, od_NoLetter_init, .func (PySem.W.fnOf "__init__" "NoLetter.__init__" (defArgs s_NoLetter_init) (defBody s_NoLetter_init) (defScope s_NoLetter_init) .none kV_NoLetter_init dc_NoLetter_init pm_NoLetter_init an_NoLetter_init cd_NoLetter_init ct_NoLetter_init), sl_NoLetter_init⟩) (c_NoLetter_init : PySem.W.codeIn K cd_NoLetter_init "NoLetter.__init__" = true)
    (k_NoLetter_init : PySem.W.keepIn K (.ref f_NoLetter_init) = true) (a_NoLetter_init : PySem.W.findIn K (.ref C_NoLetter) "__init__" = some (some (.ref f_NoLetter_init))) (t_NoLetter_init : PySem.W.typeIn K (.ref f_NoLetter_init) = some (.type "function")) (e0_NoLetter_init : PySem.W.findIn K (.ref C_NoLetter) "asked" = some none)
    (o_NoLetter_init : K.lookup C_NoLetter = some (excClassObj nm_NoLetter_init q_NoLetter_init C_NoLetter N_NoLetter_init bs_NoLetter_init [.type "ValueError", .type "Exception", .type "BaseException", .type "object"] true sn_NoLetter_init sub_NoLetter_init ab_NoLetter_init col_NoLetter_init dd_NoLetter_init k0_NoLetter_init k1_NoLetter_init k2_NoLetter_init k3_NoLetter_init k5_NoLetter_init "ValueError.__new__")) (sa_NoLetter_init : PySem.W.findIn K (.ref C_NoLetter) "__setattr__" = some (some (.builtin "object.__setattr__"))) (ex_NoLetter_init : PySem.W.subIn K (.ref C_NoLetter) (.type "BaseException") = some true) (ty_NoLetter_init : PySem.W.typeIn K (.ref C_NoLetter) = some (.type "type"))
    (kc_NoLetter_init : PySem.W.keepIn K (.ref C_NoLetter) = true) (m_NoLetter : PySem.W.nsIn K mainGlobals "NoLetter" = some (some (.ref C_NoLetter))) (l_Wire_take : K.lookup f_Wire_take = some ⟨oc_Wire_take, od_Wire_take, .func (PySem.W.fnOf "take" "Wire.take" (defArgs s_Wire_take) (defBody s_Wire_take) (defScope s_Wire_take) .none kV_Wire_take dc_Wire_take pm_Wire_take an_Wire_take cd_Wire_take ct_Wire_take), sl_Wire_take⟩) (c_Wire_take : PySem.W.codeIn K cd_Wire_take "Wire.take" = true)
    (k_Wire_take : PySem.W.keepIn K (.ref f_Wire_take) = true) (a_Wire_take : PySem.W.findIn K (.ref C_Wire) "take" = some (some (.ref f_Wire_take))) (i_Wire_take : PySem.W.isFn K (.ref f_Wire_take) = true) (l_l_fresh_by : K.lookup f_l_fresh_by = some ⟨oc_l_fresh_by, od_l_fresh_by, .func (PySem.W.fnOf "_law_fresh_by" "_law_fresh_by" (defArgs s_l_fresh_by) (defBody s_l_fresh_by) (defScope s_l_fresh_by) .none kV_l_fresh_by dc_l_fresh_by pm_l_fresh_by an_l_fresh_by cd_l_fresh_by ct_l_fresh_by), sl_l_fresh_by⟩)
    (c_l_fresh_by : PySem.W.codeIn K cd_l_fresh_by "_law_fresh_by" = true) (k_l_fresh_by : PySem.W.keepIn K (.ref f_l_fresh_by) = true) (a_l_fresh_by : PySem.W.nsIn K mainGlobals "_law_fresh_by" = some (some (.ref f_l_fresh_by))) (l_l_odd : K.lookup f_l_odd = some ⟨oc_l_odd, od_l_odd, .func (PySem.W.fnOf "_law_odd" "_law_odd" (defArgs s_l_odd) (defBody s_l_odd) (defScope s_l_odd) .none kV_l_odd dc_l_odd pm_l_odd an_l_odd cd_l_odd ct_l_odd), sl_l_odd⟩)
    (c_l_odd : PySem.W.codeIn K cd_l_odd "_law_odd" = true) (k_l_odd : PySem.W.keepIn K (.ref f_l_odd) = true) (a_l_odd : PySem.W.nsIn K mainGlobals "_law_odd" = some (some (.ref f_l_odd))) (l_l_bent : K.lookup f_l_bent = some ⟨oc_l_bent, od_l_bent, .func (PySem.W.fnOf "_law_bent" "_law_bent" (defArgs s_l_bent) (defBody s_l_bent) (defScope s_l_bent) .none kV_l_bent dc_l_bent pm_l_bent an_l_bent cd_l_bent ct_l_bent), sl_l_bent⟩)
    (c_l_bent : PySem.W.codeIn K cd_l_bent "_law_bent" = true) (k_l_bent : PySem.W.keepIn K (.ref f_l_bent) = true) (a_l_bent : PySem.W.nsIn K mainGlobals "_law_bent" = some (some (.ref f_l_bent))) (l_l_is_count : K.lookup f_l_is_count = some ⟨oc_l_is_count, od_l_is_count, .func (PySem.W.fnOf "_law_is_count" "_law_is_count" (defArgs s_l_is_count) (defBody s_l_is_count) (defScope s_l_is_count) .none kV_l_is_count dc_l_is_count pm_l_is_count an_l_is_count cd_l_is_count ct_l_is_count), sl_l_is_count⟩)
    (c_l_is_count : PySem.W.codeIn K cd_l_is_count "_law_is_count" = true) (k_l_is_count : PySem.W.keepIn K (.ref f_l_is_count) = true) (a_l_is_count : PySem.W.nsIn K mainGlobals "_law_is_count" = some (some (.ref f_l_is_count))) (l_l_is_letter : K.lookup f_l_is_letter = some ⟨oc_l_is_letter, od_l_is_letter, .func (PySem.W.fnOf "_law_is_letter" "_law_is_letter" (defArgs s_l_is_letter) (defBody s_l_is_letter) (defScope s_l_is_letter) .none kV_l_is_letter dc_l_is_letter pm_l_is_letter an_l_is_letter cd_l_is_letter ct_l_is_letter), sl_l_is_letter⟩)
    (c_l_is_letter : PySem.W.codeIn K cd_l_is_letter "_law_is_letter" = true) (k_l_is_letter : PySem.W.keepIn K (.ref f_l_is_letter) = true) (a_l_is_letter : PySem.W.nsIn K mainGlobals "_law_is_letter" = some (some (.ref f_l_is_letter))) (l_l_refused : K.lookup f_l_refused = some ⟨oc_l_refused, od_l_refused, .func (PySem.W.fnOf "_law_refused" "_law_refused" (defArgs s_l_refused) (defBody s_l_refused) (defScope s_l_refused) .none kV_l_refused dc_l_refused pm_l_refused an_l_refused cd_l_refused ct_l_refused), sl_l_refused⟩)
    (c_l_refused : PySem.W.codeIn K cd_l_refused "_law_refused" = true) (k_l_refused : PySem.W.keepIn K (.ref f_l_refused) = true) (a_l_refused : PySem.W.nsIn K mainGlobals "_law_refused" = some (some (.ref f_l_refused))) (l_Wire_letter : K.lookup f_Wire_letter = some ⟨oc_Wire_letter, od_Wire_letter, .func (PySem.W.fnOf "letter" "Wire.letter" (defArgs s_Wire_letter) (defBody s_Wire_letter) (defScope s_Wire_letter) .none kV_Wire_letter dc_Wire_letter pm_Wire_letter an_Wire_letter cd_Wire_letter ct_Wire_letter), sl_Wire_letter⟩)
    (c_Wire_letter : PySem.W.codeIn K cd_Wire_letter "Wire.letter" = true) (k_Wire_letter : PySem.W.keepIn K (.ref f_Wire_letter) = true) (a_Wire_letter : PySem.W.findIn K (.ref C_Wire) "letter" = some (some (.ref f_Wire_letter))) (i_Wire_letter : PySem.W.isFn K (.ref f_Wire_letter) = true)
    (l_l_letter_of : K.lookup f_l_letter_of = some ⟨oc_l_letter_of, od_l_letter_of, .func (PySem.W.fnOf "_law_letter_of" "_law_letter_of" (defArgs s_l_letter_of) (defBody s_l_letter_of) (defScope s_l_letter_of) .none kV_l_letter_of dc_l_letter_of pm_l_letter_of an_l_letter_of cd_l_letter_of ct_l_letter_of), sl_l_letter_of⟩) (c_l_letter_of : PySem.W.codeIn K cd_l_letter_of "_law_letter_of" = true) (k_l_letter_of : PySem.W.keepIn K (.ref f_l_letter_of) = true) (a_l_letter_of : PySem.W.nsIn K mainGlobals "_law_letter_of" = some (some (.ref f_l_letter_of)))
    (l_Wire_heard : K.lookup f_Wire_heard = some ⟨oc_Wire_heard, od_Wire_heard, .func (PySem.W.fnOf "heard" "Wire.heard" (defArgs s_Wire_heard) (defBody s_Wire_heard) (defScope s_Wire_heard) .none kV_Wire_heard dc_Wire_heard pm_Wire_heard an_Wire_heard cd_Wire_heard ct_Wire_heard), sl_Wire_heard⟩) (c_Wire_heard : PySem.W.codeIn K cd_Wire_heard "Wire.heard" = true) (k_Wire_heard : PySem.W.keepIn K (.ref f_Wire_heard) = true) (a_Wire_heard : PySem.W.findIn K (.ref C_Wire) "heard" = some (some (.ref f_Wire_heard)))
    (i_Wire_heard : PySem.W.isFn K (.ref f_Wire_heard) = true) (l_Wire_unheard : K.lookup f_Wire_unheard = some ⟨oc_Wire_unheard, od_Wire_unheard, .func (PySem.W.fnOf "unheard" "Wire.unheard" (defArgs s_Wire_unheard) (defBody s_Wire_unheard) (defScope s_Wire_unheard) .none kV_Wire_unheard dc_Wire_unheard pm_Wire_unheard an_Wire_unheard cd_Wire_unheard ct_Wire_unheard), sl_Wire_unheard⟩) (c_Wire_unheard : PySem.W.codeIn K cd_Wire_unheard "Wire.unheard" = true) (k_Wire_unheard : PySem.W.keepIn K (.ref f_Wire_unheard) = true)
    (a_Wire_unheard : PySem.W.findIn K (.ref C_Wire) "unheard" = some (some (.ref f_Wire_unheard))) (i_Wire_unheard : PySem.W.isFn K (.ref f_Wire_unheard) = true) (l_Wire_len : K.lookup f_Wire_len = some ⟨oc_Wire_len, od_Wire_len, .func (PySem.W.fnOf "__len__" "Wire.__len__" (defArgs s_Wire_len) (defBody s_Wire_len) (defScope s_Wire_len) .none kV_Wire_len dc_Wire_len pm_Wire_len an_Wire_len cd_Wire_len ct_Wire_len), sl_Wire_len⟩) (c_Wire_len : PySem.W.codeIn K cd_Wire_len "Wire.__len__" = true)
    (k_Wire_len : PySem.W.keepIn K (.ref f_Wire_len) = true) (a_Wire_len : PySem.W.findIn K (.ref C_Wire) "__len__" = some (some (.ref f_Wire_len))) (i_Wire_len : PySem.W.isFn K (.ref f_Wire_len) = true) (l_l_end_right : K.lookup f_l_end_right = some ⟨oc_l_end_right, od_l_end_right, .func (PySem.W.fnOf "_law_end_right" "_law_end_right" (defArgs s_l_end_right) (defBody s_l_end_right) (defScope s_l_end_right) .none kV_l_end_right dc_l_end_right pm_l_end_right an_l_end_right cd_l_end_right ct_l_end_right), sl_l_end_right⟩)
    (c_l_end_right : PySem.W.codeIn K cd_l_end_right "_law_end_right" = true) (k_l_end_right : PySem.W.keepIn K (.ref f_l_end_right) = true) (a_l_end_right : PySem.W.nsIn K mainGlobals "_law_end_right" = some (some (.ref f_l_end_right))) (l_law : K.lookup f_law = some ⟨oc_law, od_law, .func (PySem.W.fnOf "law" "law" (defArgs s_law) (defBody s_law) (defScope s_law) .none kV_law dc_law pm_law an_law cd_law ct_law), sl_law⟩)
    (c_law : PySem.W.codeIn K cd_law "law" = true) (k_law : PySem.W.keepIn K (.ref f_law) = true) (a_law : PySem.W.nsIn K mainGlobals "law" = some (some (.ref f_law))) (m_Wire : PySem.W.nsIn K mainGlobals "Wire" = some (some (.ref C_Wire)))
    (pg_Wire : PySem.W.plainGet K C_Wire Str.empty = true) (hd_Wire : PySem.W.hasDictIn K C_Wire = true) (po_Wire : PySem.W.plainOver K C_Wire = true) (sa_Wire : PySem.W.findIn K (.ref C_Wire) "__setattr__" = some (some (.builtin "object.__setattr__")))
    (mk_Wire : PySem.W.makesIn K C_Wire = true) (kc_Wire : PySem.W.keepIn K (.ref C_Wire) = true) (nf_Wire_known : PySem.W.findIn K (.ref C_Wire) "known" = some none) (nf_Wire_waiting : PySem.W.findIn K (.ref C_Wire) "waiting" = some none)
    (nf_Wire_came : PySem.W.findIn K (.ref C_Wire) "came" = some none) (m_BadText : PySem.W.nsIn K mainGlobals "BadText" = some (some (.ref C_BadText))) (m_BadPlan : PySem.W.nsIn K mainGlobals "BadPlan" = some (some (.ref C_BadPlan))) (m_BadArgs : PySem.W.nsIn K mainGlobals "BadArgs" = some (some (.ref C_BadArgs)))
    (v_ValueError : PySem.W.findCls K (.type "ValueError") (.type "type") "__init__" = some (.val (.builtin "ValueError.__init__"))) (z_ValueError : PySem.W.nsIn K mainGlobals "ValueError" = some none) (z_abs : PySem.W.nsIn K mainGlobals "abs" = some none) (z_all : PySem.W.nsIn K mainGlobals "all" = some none)
    (z_bool : PySem.W.nsIn K mainGlobals "bool" = some none) (z_int : PySem.W.nsIn K mainGlobals "int" = some none) (z_isinstance : PySem.W.nsIn K mainGlobals "isinstance" = some none) (z_len : PySem.W.nsIn K mainGlobals "len" = some none)
    (z_list : PySem.W.nsIn K mainGlobals "list" = some none) (z_max : PySem.W.nsIn K mainGlobals "max" = some none) (z_range : PySem.W.nsIn K mainGlobals "range" = some none) (z_repr : PySem.W.nsIn K mainGlobals "repr" = some none)
    (z_str : PySem.W.nsIn K mainGlobals "str" = some none) (z_tuple : PySem.W.nsIn K mainGlobals "tuple" = some none) (g_ROWS : PySem.W.nsIn K mainGlobals "ROWS" = some (some (.str "rows" t_ROWS))) (hg_NoLetter : PySem.W.findIn K (.ref C_NoLetter) "__getattribute__" = some (some (.builtin "BaseException.__getattribute__")))
    (hk_NoLetter : PySem.W.findIn K (.ref C_NoLetter) "__getattr__" = some none) (hx_NoLetter : PySem.W.hasDictIn K C_NoLetter = true) (ha_NoLetter : PySem.W.findIn K (.ref C_NoLetter) "__class__" = some (some (.builtin "object.__class__"))) (hm_NoLetter : PySem.W.mroIn K C_NoLetter (.type "object") = some true)
    (hn : PySem.W.specialIn K (.builtin "object.__class__") "__get__" = some (some (.builtin "getset_descriptor.__get__"))) (ht : PySem.W.takesIn K (.builtin "object.__class__") = some true) (is_NoLetter : PySem.W.isClsIn K C_NoLetter = true) (tx_NoLetter : PySem.W.typeIn K (.ref C_NoLetter) = some (.type "type"))
    (is_BadText : PySem.W.isClsIn K C_BadText = true) (tx_BadText : PySem.W.typeIn K (.ref C_BadText) = some (.type "type")) (is_BadPlan : PySem.W.isClsIn K C_BadPlan = true) (tx_BadPlan : PySem.W.typeIn K (.ref C_BadPlan) = some (.type "type"))
    (is_BadArgs : PySem.W.isClsIn K C_BadArgs = true) (tx_BadArgs : PySem.W.typeIn K (.ref C_BadArgs) = some (.type "type")) (ss_NoLetter : PySem.W.subIn K (.ref C_NoLetter) (.ref C_NoLetter) = some true) (sb_NoLetter : PySem.W.subIn K (.ref C_NoLetter) (.type "BaseException") = some true)
    (sf0 : PySem.W.subIn K (.ref C_NoLetter) (.ref C_BadText) = some false) (sf1 : PySem.W.subIn K (.ref C_NoLetter) (.ref C_BadPlan) = some false) (sf2 : PySem.W.subIn K (.ref C_NoLetter) (.ref C_BadArgs) = some false) (st0 : PySem.W.subIn K (.ref C_NoLetter) (.type "ValueError") = some true) :
    ∃ fd : FuncData, (∀ (s : Shared) (v : Value), BindsTo s fd ⟨[v], []⟩ [("_law_script", v)]) ∧ ∀ base : Heap, K.In base → base.Ns mainGlobals mg → FnG l.prog w K mg base 6 fa fd ["_law_script"] (spM ⟨K, mg⟩ 1 m_law) := by
  have e := hfa.symm.trans (PySem.W.mg_of X G a_law)
  cases e
  have F_l_pen := fun_mk (st := s_l_pen) l_l_pen c_l_pen k_l_pen
  have b_l_pen := F_l_pen.binds (ps := ["_law_script"]) fun _ _ _ _ _ _ us hl => match us, hl with | [_], _ => rfl
  have F_Wire_init := fun_mk (st := s_Wire_init) l_Wire_init c_Wire_init k_Wire_init
  have b_Wire_init := F_Wire_init.binds (ps := ["self"]) fun _ _ _ _ _ _ us hl => match us, hl with | [_], _ => rfl
  have F_l_end := fun_mk (st := s_l_end) l_l_end c_l_end k_l_end
  have b_l_end := F_l_end.binds (ps := []) fun _ _ _ _ _ _ us hl => match us, hl with | [], _ => rfl
  have F_l_draw := fun_mk (st := s_l_draw) l_l_draw c_l_draw k_l_draw
  have b_l_draw := F_l_draw.binds (ps := ["_law_pen_here", "_law_many"]) fun _ _ _ _ _ _ us hl => match us, hl with | [_, _], _ => rfl
  have F_l_pick := fun_mk (st := s_l_pick) l_l_pick c_l_pick k_l_pick
  have b_l_pick := F_l_pick.binds (ps := ["_law_pen_here", "_law_some"]) fun _ _ _ _ _ _ us hl => match us, hl with | [_, _], _ => rfl
  have F_l_plain := fun_mk (st := s_l_plain) l_l_plain c_l_plain k_l_plain
  have b_l_plain := F_l_plain.binds (ps := ["_law_pen_here"]) fun _ _ _ _ _ _ us hl => match us, hl with | [_], _ => rfl
  have F_l_row_of := fun_mk (st := s_l_row_of) l_l_row_of c_l_row_of k_l_row_of
  have b_l_row_of := F_l_row_of.binds (ps := ["_law_pen_here"]) fun _ _ _ _ _ _ us hl => match us, hl with | [_], _ => rfl
  have F_Wire_put := fun_mk (st := s_Wire_put) l_Wire_put c_Wire_put k_Wire_put
  have b_Wire_put := F_Wire_put.binds (ps := ["self", "row"]) fun _ _ _ _ _ _ us hl => match us, hl with | [_, _], _ => rfl
  have F_is_whole := fun_mk (st := s_is_whole) l_is_whole c_is_whole k_is_whole
  have b_is_whole := F_is_whole.binds (ps := ["thing"]) fun _ _ _ _ _ _ us hl => match us, hl with | [_], _ => rfl
  have F_is_count := fun_mk (st := s_is_count) l_is_count c_is_count k_is_count
  have b_is_count := F_is_count.binds (ps := ["thing"]) fun _ _ _ _ _ _ us hl => match us, hl with | [_], _ => rfl
  have F_is_letter := fun_mk (st := s_is_letter) l_is_letter c_is_letter k_is_letter
  have b_is_letter := F_is_letter.binds (ps := ["thing"]) fun _ _ _ _ _ _ us hl => match us, hl with | [_], _ => rfl
  have F_NoLetter_init := fun_mk (st := s_NoLetter_init) l_NoLetter_init c_NoLetter_init k_NoLetter_init
  have b_NoLetter_init := F_NoLetter_init.binds (ps := ["self", "asked"]) fun _ _ _ _ _ _ us hl => match us, hl with | [_, _], _ => rfl
  have F_Wire_take := fun_mk (st := s_Wire_take) l_Wire_take c_Wire_take k_Wire_take
  have b_Wire_take := F_Wire_take.binds (ps := ["self", "letter"]) fun _ _ _ _ _ _ us hl => match us, hl with | [_, _], _ => rfl
  have F_l_fresh_by := fun_mk (st := s_l_fresh_by) l_l_fresh_by c_l_fresh_by k_l_fresh_by
  have b_l_fresh_by := F_l_fresh_by.binds (ps := ["_law_end_here", "_law_letter"]) fun _ _ _ _ _ _ us hl => match us, hl with | [_, _], _ => rfl
  have F_l_odd := fun_mk (st := s_l_odd) l_l_odd c_l_odd k_l_odd
  have b_l_odd := F_l_odd.binds (ps := ["_law_pen_here"]) fun _ _ _ _ _ _ us hl => match us, hl with | [_], _ => rfl
  have F_l_bent := fun_mk (st := s_l_bent) l_l_bent c_l_bent k_l_bent
  have b_l_bent := F_l_bent.binds (ps := ["_law_pen_here", "_law_end_here", "_law_letter"]) fun _ _ _ _ _ _ us hl => match us, hl with | [_, _, _], _ => rfl
  have F_l_is_count := fun_mk (st := s_l_is_count) l_l_is_count c_l_is_count k_l_is_count
  have b_l_is_count := F_l_is_count.binds (ps := ["_law_thing"]) fun _ _ _ _ _ _ us hl => match us, hl with | [_], _ => rfl
  have F_l_is_letter := fun_mk (st := s_l_is_letter) l_l_is_letter c_l_is_letter k_l_is_letter
  have b_l_is_letter := F_l_is_letter.binds (ps := ["_law_end_here", "_law_thing"]) fun _ _ _ _ _ _ us hl => match us, hl with | [_, _], _ => rfl
  have F_l_refused := fun_mk (st := s_l_refused) l_l_refused c_l_refused k_l_refused
  have b_l_refused := F_l_refused.binds (ps := ["_law_wire", "_law_thing"]) fun _ _ _ _ _ _ us hl => match us, hl with | [_, _], _ => rfl
  have F_Wire_letter := fun_mk (st := s_Wire_letter) l_Wire_letter c_Wire_letter k_Wire_letter
  have b_Wire_letter := F_Wire_letter.binds (ps := ["self"]) fun _ _ _ _ _ _ us hl => match us, hl with | [_], _ => rfl
  have F_l_letter_of := fun_mk (st := s_l_letter_of) l_l_letter_of c_l_letter_of k_l_letter_of
  have b_l_letter_of := F_l_letter_of.binds (ps := ["_law_end_here"]) fun _ _ _ _ _ _ us hl => match us, hl with | [_], _ => rfl
  have F_Wire_heard := fun_mk (st := s_Wire_heard) l_Wire_heard c_Wire_heard k_Wire_heard
  have b_Wire_heard := F_Wire_heard.binds (ps := ["self"]) fun _ _ _ _ _ _ us hl => match us, hl with | [_], _ => rfl
  have F_Wire_unheard := fun_mk (st := s_Wire_unheard) l_Wire_unheard c_Wire_unheard k_Wire_unheard
  have b_Wire_unheard := F_Wire_unheard.binds (ps := ["self"]) fun _ _ _ _ _ _ us hl => match us, hl with | [_], _ => rfl
  have F_Wire_len := fun_mk (st := s_Wire_len) l_Wire_len c_Wire_len k_Wire_len
  have b_Wire_len := F_Wire_len.binds (ps := ["self"]) fun _ _ _ _ _ _ us hl => match us, hl with | [_], _ => rfl
  have F_l_end_right := fun_mk (st := s_l_end_right) l_l_end_right c_l_end_right k_l_end_right
  have b_l_end_right := F_l_end_right.binds (ps := ["_law_wire", "_law_end_here"]) fun _ _ _ _ _ _ us hl => match us, hl with | [_, _], _ => rfl
  have F_law := fun_mk (st := s_law) l_law c_law k_law
  have b_law := F_law.binds (ps := ["_law_script"]) fun _ _ _ _ _ _ us hl => match us, hl with | [_], _ => rfl
  have exo_NoLetter := exm_sub sb_NoLetter is_NoLetter tx_NoLetter ss_NoLetter
  have kf0 := kit_ref ss_NoLetter is_BadText tx_BadText sf0
  have kf1 := kit_ref ss_NoLetter is_BadPlan tx_BadPlan sf1
  have kf2 := kit_ref ss_NoLetter is_BadArgs tx_BadArgs sf2
  have kt0 := kit_typ st0
  have ec_NoLetter : ExcC K C_NoLetter := ⟨hg_NoLetter, hk_NoLetter, ex_NoLetter_init, hx_NoLetter, ha_NoLetter, hn, ht, hm_NoLetter⟩
  have kx_ok : KxOk ⟨K, mg⟩ kx := by
    refine ⟨fun c n b h D hD => ?_, fun c x b h D hD => ?_, fun c w b h => ?_⟩
    · simp only [kx] at h
      split at h
      · rename_i q
        obtain ⟨rfl, rfl⟩ := q
        cases h
        exact kx_ty (PySem.W.mg_of X G m_NoLetter) ec_NoLetter kt0 hD
      · skip
        cases h
    · simp only [kx] at h
      split at h
      · rename_i q
        obtain ⟨rfl, rfl⟩ := q
        cases h
        exact kx_fn (PySem.W.mg_of X G m_NoLetter) (PySem.W.mg_of X G m_BadText) ec_NoLetter kf0 hD
      · skip
        split at h
        · rename_i q
          obtain ⟨rfl, rfl⟩ := q
          cases h
          exact kx_fn (PySem.W.mg_of X G m_NoLetter) (PySem.W.mg_of X G m_BadPlan) ec_NoLetter kf1 hD
        · skip
          split at h
          · rename_i q
            obtain ⟨rfl, rfl⟩ := q
            cases h
            exact kx_fn (PySem.W.mg_of X G m_NoLetter) (PySem.W.mg_of X G m_BadArgs) ec_NoLetter kf2 hD
          · skip
            cases h
    · cases w with
      | ty n => exact .inl ⟨n, rfl⟩
      | fn x => exact .inr ⟨x, rfl⟩
      | _ => cases h
  have xf_asked : ∀ c ∈ (["NoLetter"] : List Str), ∀ D, mg c = some (.ref D) → XfC K D ∧ PySem.W.findIn K (.ref D) "asked" = some none := by
    intro c hc D hD
    simp only [List.mem_cons, List.not_mem_nil, or_false] at hc
    rcases hc with rfl
    · exact xf1 (PySem.W.mg_of X G m_NoLetter) ⟨hg_NoLetter, hk_NoLetter, ex_NoLetter_init, hx_NoLetter⟩ e0_NoLetter_init hD
  have T : Top K mg ⟨f_l_pen, PySem.W.fnOf "_law_pen" "_law_pen" (defArgs s_l_pen) (defBody s_l_pen) (defScope s_l_pen) .none kV_l_pen dc_l_pen pm_l_pen an_l_pen cd_l_pen ct_l_pen, f_Wire_init, PySem.W.fnOf "__init__" "Wire.__init__" (defArgs s_Wire_init) (defBody s_Wire_init) (defScope s_Wire_init) .none kV_Wire_init dc_Wire_init pm_Wire_init an_Wire_init cd_Wire_init ct_Wire_init, f_l_end, PySem.W.fnOf "_law_end" "_law_end" (defArgs s_l_end) (defBody s_l_end) (defScope s_l_end) .none kV_l_end dc_l_end pm_l_end an_l_end cd_l_end ct_l_end, f_l_draw, PySem.W.fnOf "_law_draw" "_law_draw" (defArgs s_l_draw) (defBody s_l_draw) (defScope s_l_draw) .none kV_l_draw dc_l_draw pm_l_draw an_l_draw cd_l_draw ct_l_draw, f_l_pick, PySem.W.fnOf "_law_pick" "_law_pick" (defArgs s_l_pick) (defBody s_l_pick) (defScope s_l_pick) .none kV_l_pick dc_l_pick pm_l_pick an_l_pick cd_l_pick ct_l_pick, f_l_plain, PySem.W.fnOf "_law_plain" "_law_plain" (defArgs s_l_plain) (defBody s_l_plain) (defScope s_l_plain) .none kV_l_plain dc_l_plain pm_l_plain an_l_plain cd_l_plain ct_l_plain, f_l_row_of, PySem.W.fnOf "_law_row_of" "_law_row_of" (defArgs s_l_row_of) (defBody s_l_row_of) (defScope s_l_row_of) .none kV_l_row_of dc_l_row_of pm_l_row_of an_l_row_of cd_l_row_of ct_l_row_of, f_Wire_put, PySem.W.fnOf "put" "Wire.put" (defArgs s_Wire_put) (defBody s_Wire_put) (defScope s_Wire_put) .none kV_Wire_put dc_Wire_put pm_Wire_put an_Wire_put cd_Wire_put ct_Wire_put, f_is_whole, PySem.W.fnOf "is_whole" "is_whole" (defArgs s_is_whole) (defBody s_is_whole) (defScope s_is_whole) .none kV_is_whole dc_is_whole pm_is_whole an_is_whole cd_is_whole ct_is_whole, f_is_count, PySem.W.fnOf "is_count" "is_count" (defArgs s_is_count) (defBody s_is_count) (defScope s_is_count) .none kV_is_count dc_is_count pm_is_count an_is_count cd_is_count ct_is_count, f_is_letter, PySem.W.fnOf "is_letter" "is_letter" (defArgs s_is_letter) (defBody s_is_letter) (defScope s_is_letter) .none kV_is_letter dc_is_letter pm_is_letter an_is_letter cd_is_letter ct_is_letter, f_NoLetter_init, PySem.W.fnOf "__init__" "NoLetter.__init__" (defArgs s_NoLetter_init) (defBody s_NoLetter_init) (defScope s_NoLetter_init) .none kV_NoLetter_init dc_NoLetter_init pm_NoLetter_init an_NoLetter_init cd_NoLetter_init ct_NoLetter_init, f_Wire_take, PySem.W.fnOf "take" "Wire.take" (defArgs s_Wire_take) (defBody s_Wire_take) (defScope s_Wire_take) .none kV_Wire_take dc_Wire_take pm_Wire_take an_Wire_take cd_Wire_take ct_Wire_take, f_l_fresh_by, PySem.W.fnOf "_law_fresh_by" "_law_fresh_by" (defArgs s_l_fresh_by) (defBody s_l_fresh_by) (defScope s_l_fresh_by) .none kV_l_fresh_by dc_l_fresh_by pm_l_fresh_by an_l_fresh_by cd_l_fresh_by ct_l_fresh_by, f_l_odd, PySem.W.fnOf "_law_odd" "_law_odd" (defArgs s_l_odd) (defBody s_l_odd) (defScope s_l_odd) .none kV_l_odd dc_l_odd pm_l_odd an_l_odd cd_l_odd ct_l_odd, f_l_bent, PySem.W.fnOf "_law_bent" "_law_bent" (defArgs s_l_bent) (defBody s_l_bent) (defScope s_l_bent) .none kV_l_bent dc_l_bent pm_l_bent an_l_bent cd_l_bent ct_l_bent, f_l_is_count, PySem.W.fnOf "_law_is_count" "_law_is_count" (defArgs s_l_is_count) (defBody s_l_is_count) (defScope s_l_is_count) .none kV_l_is_count dc_l_is_count pm_l_is_count an_l_is_count cd_l_is_count ct_l_is_count, f_l_is_letter, PySem.W.fnOf "_law_is_letter" "_law_is_letter" (defArgs s_l_is_letter) (defBody s_l_is_letter) (defScope s_l_is_letter) .none kV_l_is_letter dc_l_is_letter pm_l_is_letter an_l_is_letter cd_l_is_letter ct_l_is_letter, f_l_refused, PySem.W.fnOf "_law_refused" "_law_refused" (defArgs s_l_refused) (defBody s_l_refused) (defScope s_l_refused) .none kV_l_refused dc_l_refused pm_l_refused an_l_refused cd_l_refused ct_l_refused, f_Wire_letter, PySem.W.fnOf "letter" "Wire.letter" (defArgs s_Wire_letter) (defBody s_Wire_letter) (defScope s_Wire_letter) .none kV_Wire_letter dc_Wire_letter pm_Wire_letter an_Wire_letter cd_Wire_letter ct_Wire_letter, f_l_letter_of, PySem.W.fnOf "_law_letter_of" "_law_letter_of" (defArgs s_l_letter_of) (defBody s_l_letter_of) (defScope s_l_letter_of) .none kV_l_letter_of dc_l_letter_of pm_l_letter_of an_l_letter_of cd_l_letter_of ct_l_letter_of, f_Wire_heard, PySem.W.fnOf "heard" "Wire.heard" (defArgs s_Wire_heard) (defBody s_Wire_heard) (defScope s_Wire_heard) .none kV_Wire_heard dc_Wire_heard pm_Wire_heard an_Wire_heard cd_Wire_heard ct_Wire_heard, f_Wire_unheard, PySem.W.fnOf "unheard" "Wire.unheard" (defArgs s_Wire_unheard) (defBody s_Wire_unheard) (defScope s_Wire_unheard) .none kV_Wire_unheard dc_Wire_unheard pm_Wire_unheard an_Wire_unheard cd_Wire_unheard ct_Wire_unheard, f_Wire_len, PySem.W.fnOf "__len__" "Wire.__len__" (defArgs s_Wire_len) (defBody s_Wire_len) (defScope s_Wire_len) .none kV_Wire_len dc_Wire_len pm_Wire_len an_Wire_len cd_Wire_len ct_Wire_len, f_l_end_right, PySem.W.fnOf "_law_end_right" "_law_end_right" (defArgs s_l_end_right) (defBody s_l_end_right) (defScope s_l_end_right) .none kV_l_end_right dc_l_end_right pm_l_end_right an_l_end_right cd_l_end_right ct_l_end_right, fa, PySem.W.fnOf "law" "law" (defArgs s_law) (defBody s_law) (defScope s_law) .none kV_law dc_law pm_law an_law cd_law ct_law, C_Wire, C_NoLetter, C_BadText, C_BadPlan, C_BadArgs, t_ROWS⟩ := {
    d_l_pen := ⟨F_l_pen, b_l_pen, PySem.W.mg_of X G a_l_pen, k_l_pen⟩
    d_Wire_init := ⟨⟨a_Wire_init, i_Wire_init, k_Wire_init⟩, F_Wire_init, b_Wire_init⟩
    d_l_end := ⟨F_l_end, b_l_end, PySem.W.mg_of X G a_l_end, k_l_end⟩
    d_l_draw := ⟨F_l_draw, b_l_draw, PySem.W.mg_of X G a_l_draw, k_l_draw⟩
    d_l_pick := ⟨F_l_pick, b_l_pick, PySem.W.mg_of X G a_l_pick, k_l_pick⟩
    d_l_plain := ⟨F_l_plain, b_l_plain, PySem.W.mg_of X G a_l_plain, k_l_plain⟩
    d_l_row_of := ⟨F_l_row_of, b_l_row_of, PySem.W.mg_of X G a_l_row_of, k_l_row_of⟩
    d_Wire_put := ⟨⟨a_Wire_put, i_Wire_put, k_Wire_put⟩, F_Wire_put, b_Wire_put⟩
    d_is_whole := ⟨F_is_whole, b_is_whole, PySem.W.mg_of X G a_is_whole, k_is_whole⟩
    d_is_count := ⟨F_is_count, b_is_count, PySem.W.mg_of X G a_is_count, k_is_count⟩
    d_is_letter := ⟨F_is_letter, b_is_letter, PySem.W.mg_of X G a_is_letter, k_is_letter⟩
    X_NoLetter := ⟨PySem.W.mg_of X G m_NoLetter, ⟨⟨_, _, _, _, _, _, _, _, _, _, _, _, _, _, o_NoLetter_init⟩, sa_NoLetter_init, ex_NoLetter_init, ty_NoLetter_init, kc_NoLetter_init⟩, a_NoLetter_init, t_NoLetter_init, F_NoLetter_init, b_NoLetter_init, e0_NoLetter_init⟩
    d_Wire_take := ⟨⟨a_Wire_take, i_Wire_take, k_Wire_take⟩, F_Wire_take, b_Wire_take⟩
    d_l_fresh_by := ⟨F_l_fresh_by, b_l_fresh_by, PySem.W.mg_of X G a_l_fresh_by, k_l_fresh_by⟩
    d_l_odd := ⟨F_l_odd, b_l_odd, PySem.W.mg_of X G a_l_odd, k_l_odd⟩
    d_l_bent := ⟨F_l_bent, b_l_bent, PySem.W.mg_of X G a_l_bent, k_l_bent⟩
    d_l_is_count := ⟨F_l_is_count, b_l_is_count, PySem.W.mg_of X G a_l_is_count, k_l_is_count⟩
    d_l_is_letter := ⟨F_l_is_letter, b_l_is_letter, PySem.W.mg_of X G a_l_is_letter, k_l_is_letter⟩
    d_l_refused := ⟨F_l_refused, b_l_refused, PySem.W.mg_of X G a_l_refused, k_l_refused⟩
    d_Wire_letter := ⟨⟨a_Wire_letter, i_Wire_letter, k_Wire_letter⟩, F_Wire_letter, b_Wire_letter⟩
    d_l_letter_of := ⟨F_l_letter_of, b_l_letter_of, PySem.W.mg_of X G a_l_letter_of, k_l_letter_of⟩
    d_Wire_heard := ⟨⟨a_Wire_heard, i_Wire_heard, k_Wire_heard⟩, F_Wire_heard, b_Wire_heard⟩
    d_Wire_unheard := ⟨⟨a_Wire_unheard, i_Wire_unheard, k_Wire_unheard⟩, F_Wire_unheard, b_Wire_unheard⟩
    d_Wire_len := ⟨⟨a_Wire_len, i_Wire_len, k_Wire_len⟩, F_Wire_len, b_Wire_len⟩
    d_l_end_right := ⟨F_l_end_right, b_l_end_right, PySem.W.mg_of X G a_l_end_right, k_l_end_right⟩
    d_law := ⟨F_law, b_law, PySem.W.mg_of X G a_law, k_law⟩
    C_Wire := ⟨PySem.W.mg_of X G m_Wire, ⟨pg_Wire, hd_Wire, po_Wire, sa_Wire⟩, ⟨mk_Wire, a_Wire_init, i_Wire_init, kc_Wire⟩⟩
    nf_Wire_known := nf_Wire_known
    nf_Wire_waiting := nf_Wire_waiting
    nf_Wire_came := nf_Wire_came
    C_NoLetter := ⟨PySem.W.mg_of X G m_NoLetter⟩
    C_BadText := ⟨PySem.W.mg_of X G m_BadText⟩
    C_BadPlan := ⟨PySem.W.mg_of X G m_BadPlan⟩
    C_BadArgs := ⟨PySem.W.mg_of X G m_BadArgs⟩
    v_ValueError := v_ValueError
    z_ValueError := PySem.W.mg_none_of X G z_ValueError
    z_abs := PySem.W.mg_none_of X G z_abs
    z_all := PySem.W.mg_none_of X G z_all
    z_bool := PySem.W.mg_none_of X G z_bool
    z_int := PySem.W.mg_none_of X G z_int
    z_isinstance := PySem.W.mg_none_of X G z_isinstance
    z_len := PySem.W.mg_none_of X G z_len
    z_list := PySem.W.mg_none_of X G z_list
    z_max := PySem.W.mg_none_of X G z_max
    z_range := PySem.W.mg_none_of X G z_range
    z_repr := PySem.W.mg_none_of X G z_repr
    z_str := PySem.W.mg_none_of X G z_str
    z_tuple := PySem.W.mg_none_of X G z_tuple
    c_ROWS := PySem.W.mg_of X G g_ROWS
    kx := kx_ok
    hit_NoLetter := ⟨fun c hc C h => hit1 (PySem.W.mg_of X G m_NoLetter) exo_NoLetter (of_decide_eq_true hc) h⟩
    x_asked := xf_asked }
  exact ⟨_, fun s v => .of_eq rfl, fun base _ _ => ok_law T⟩
theorem walk {l : PySem.W.OpenLaw} {q : Program} {loose : List Str} {XP : (Str → Option Value) → Heap → Prop} {YP : World → Heap → Prop} {d : DefRec} {K : Params → PySem.W.Frag} (hn : l.most = some 63) (hdf : d.params.defaults = [])
    (hY : ∀ (w : World) (h : Heap), YP w h → (K w.params).In h)
    (F : ∀ (w : World) (mg : Str → Option Value) (fa : Addr) (h : Heap), (K w.params).In h → h.Ns mainGlobals mg → mg d.name = some (.ref fa) →
      ∃ fd : FuncData, (∀ (s : Shared) (u : Value), BindsTo s fd ⟨[u], []⟩ [("_law_script", u)]) ∧ ∀ base : Heap, (K w.params).In base → base.Ns mainGlobals mg → FnG l.prog w (K w.params) mg base 6 fa fd ["_law_script"] (spM ⟨K w.params, mg⟩ 1 m_law)) :
    PySem.W.WalkO q loose XP YP l.row.toRowW d [] (fun f vs => PySem.call f vs) :=
  walk_ofG (n := 63) (k := 6) (x := "_law_script") hn (by decide) hdf ⟨rfl, by decide, by decide⟩ hY F tells
end Mi.L26
open PySem PySem.W PyProof.Rows
set_option maxRecDepth 100000 in
set_option maxHeartbeats 0 in
theorem PySem.Challenge.cw_farcalls_k26_letters_refused_holds : PySem.Challenge.rw_farcalls_k26_letters_refused.Holds := by
  w_on; o_law; k_head; (case hw => w_witness2)
  k_fill
  refine Mi.L26.walk (l := PySem.Challenge.rw_farcalls_k26_letters_refused) rfl rfl (fun w h Y => PySem.W.kIn_of Y) ?F
  case F =>
    intro w mg fa h KX G hmg
    refine' Mi.L26.all_mk KX G hmg ?l_l_pen ?c_l_pen ?k_l_pen ?a_l_pen ?l_Wire_init ?c_Wire_init ?k_Wire_init ?a_Wire_init ?i_Wire_init ?l_l_end ?c_l_end ?k_l_end ?a_l_end ?l_l_draw ?c_l_draw ?k_l_draw ?a_l_draw ?l_l_pick ?c_l_pick ?k_l_pick ?a_l_pick ?l_l_plain ?c_l_plain ?k_l_plain ?a_l_plain ?l_l_row_of ?c_l_row_of ?k_l_row_of ?a_l_row_of ?l_Wire_put ?c_Wire_put ?k_Wire_put ?a_Wire_put ?i_Wire_put ?l_is_whole ?c_is_whole ?k_is_whole ?a_is_whole ?l_is_count ?c_is_count ?k_is_count ?a_is_count ?l_is_letter ?c_is_letter ?k_is_letter ?a_is_letter ?l_NoLetter_init ?c_NoLetter_init ?k_NoLetter_init ?a_NoLetter_init ?t_NoLetter_init ?e0_NoLetter_init ?o_NoLetter_init ?sa_NoLetter_init ?ex_NoLetter_init ?ty_NoLetter_init ?kc_NoLetter_init ?m_NoLetter ?l_Wire_take ?c_Wire_take ?k_Wire_take ?a_Wire_take ?i_Wire_take ?l_l_fresh_by ?c_l_fresh_by ?k_l_fresh_by ?a_l_fresh_by ?l_l_odd ?c_l_odd ?k_l_odd ?a_l_odd ?l_l_bent ?c_l_bent ?k_l_bent ?a_l_bent ?l_l_is_count ?c_l_is_count ?k_l_is_count ?a_l_is_count ?l_l_is_letter ?c_l_is_letter ?k_l_is_letter ?a_l_is_letter ?l_l_refused ?c_l_refused ?k_l_refused ?a_l_refused ?l_Wire_letter ?c_Wire_letter ?k_Wire_letter ?a_Wire_letter ?i_Wire_letter ?l_l_letter_of ?c_l_letter_of ?k_l_letter_of ?a_l_letter_of ?l_Wire_heard ?c_Wire_heard ?k_Wire_heard ?a_Wire_heard ?i_Wire_heard ?l_Wire_unheard ?c_Wire_unheard ?k_Wire_unheard ?a_Wire_unheard ?i_Wire_unheard ?l_Wire_len ?c_Wire_len ?k_Wire_len ?a_Wire_len ?i_Wire_len ?l_l_end_right ?c_l_end_right ?k_l_end_right ?a_l_end_right ?l_law ?c_law ?k_law ?a_law ?m_Wire ?pg_Wire ?hd_Wire ?po_Wire ?sa_Wire ?mk_Wire ?kc_Wire ?nf_Wire_known ?nf_Wire_waiting ?nf_Wire_came ?m_BadText ?m_BadPlan ?m_BadArgs ?v_ValueError ?z_ValueError ?z_abs ?z_all ?z_bool ?z_int ?z_isinstance ?z_len ?z_list ?z_max ?z_range ?z_repr ?z_str ?z_tuple ?g_ROWS ?hg_NoLetter ?hk_NoLetter ?hx_NoLetter ?ha_NoLetter ?hm_NoLetter ?hn ?ht ?is_NoLetter ?tx_NoLetter ?is_BadText ?tx_BadText ?is_BadPlan ?tx_BadPlan ?is_BadArgs ?tx_BadArgs ?ss_NoLetter ?sb_NoLetter ?sf0 ?sf1 ?sf2 ?st0
    (case a_l_pen => k_is); (case a_l_end => k_is); (case a_l_draw => k_is); (case a_l_pick => k_is); (case a_l_plain => k_is); (case a_l_row_of => k_is); (case a_is_whole => k_is); (case a_is_count => k_is)
    (case a_is_letter => k_is); (case m_NoLetter => k_is); (case a_l_fresh_by => k_is); (case a_l_odd => k_is); (case a_l_bent => k_is); (case a_l_is_count => k_is); (case a_l_is_letter => k_is); (case a_l_refused => k_is)
    (case a_l_letter_of => k_is); (case a_l_end_right => k_is); (case a_law => k_is); (case m_Wire => k_is); (case m_BadText => k_is); (case m_BadPlan => k_is); (case m_BadArgs => k_is); (case g_ROWS => k_is)
    (case a_Wire_init => k_is); (case a_Wire_put => k_is); (case a_NoLetter_init => k_is); (case a_Wire_take => k_is); (case a_Wire_letter => k_is); (case a_Wire_heard => k_is); (case a_Wire_unheard => k_is); (case a_Wire_len => k_is)
    (case l_l_pen => k_is); (case l_Wire_init => k_is); (case l_l_end => k_is); (case l_l_draw => k_is); (case l_l_pick => k_is); (case l_l_plain => k_is); (case l_l_row_of => k_is); (case l_Wire_put => k_is)
    (case l_is_whole => k_is); (case l_is_count => k_is); (case l_is_letter => k_is); (case l_NoLetter_init => k_is); (case o_NoLetter_init => k_is); (case l_Wire_take => k_is); (case l_l_fresh_by => k_is); (case l_l_odd => k_is)
    (case l_l_bent => k_is); (case l_l_is_count => k_is); (case l_l_is_letter => k_is); (case l_l_refused => k_is); (case l_Wire_letter => k_is); (case l_l_letter_of => k_is); (case l_Wire_heard => k_is); (case l_Wire_unheard => k_is)
    (case l_Wire_len => k_is); (case l_l_end_right => k_is); (case l_law => k_is); (case c_l_pen => k_is); (case k_l_pen => k_is); (case c_Wire_init => k_is); (case k_Wire_init => k_is); (case i_Wire_init => k_is)
    (case c_l_end => k_is); (case k_l_end => k_is); (case c_l_draw => k_is); (case k_l_draw => k_is); (case c_l_pick => k_is); (case k_l_pick => k_is); (case c_l_plain => k_is); (case k_l_plain => k_is)
    (case c_l_row_of => k_is); (case k_l_row_of => k_is); (case c_Wire_put => k_is); (case k_Wire_put => k_is); (case i_Wire_put => k_is); (case c_is_whole => k_is); (case k_is_whole => k_is); (case c_is_count => k_is)
    (case k_is_count => k_is); (case c_is_letter => k_is); (case k_is_letter => k_is); (case c_NoLetter_init => k_is); (case k_NoLetter_init => k_is); (case t_NoLetter_init => k_is); (case e0_NoLetter_init => k_is); (case sa_NoLetter_init => k_is)
    (case ex_NoLetter_init => k_is); (case ty_NoLetter_init => k_is); (case kc_NoLetter_init => k_is); (case c_Wire_take => k_is); (case k_Wire_take => k_is); (case i_Wire_take => k_is); (case c_l_fresh_by => k_is); (case k_l_fresh_by => k_is)
    (case c_l_odd => k_is); (case k_l_odd => k_is); (case c_l_bent => k_is); (case k_l_bent => k_is); (case c_l_is_count => k_is); (case k_l_is_count => k_is); (case c_l_is_letter => k_is); (case k_l_is_letter => k_is)
    (case c_l_refused => k_is); (case k_l_refused => k_is); (case c_Wire_letter => k_is); (case k_Wire_letter => k_is); (case i_Wire_letter => k_is); (case c_l_letter_of => k_is); (case k_l_letter_of => k_is); (case c_Wire_heard => k_is)
    (case k_Wire_heard => k_is); (case i_Wire_heard => k_is); (case c_Wire_unheard => k_is); (case k_Wire_unheard => k_is); (case i_Wire_unheard => k_is); (case c_Wire_len => k_is); (case k_Wire_len => k_is); (case i_Wire_len => k_is)
    (case c_l_end_right => k_is); (case k_l_end_right => k_is); (case c_law => k_is); (case k_law => k_is); (case pg_Wire => k_is); (case hd_Wire => k_is); (case po_Wire => k_is); (case sa_Wire => k_is)
    (case mk_Wire => k_is); (case kc_Wire => k_is); (case nf_Wire_known => k_is); (case nf_Wire_waiting => k_is); (case nf_Wire_came => k_is); (case v_ValueError => k_is); (case z_ValueError => k_is); (case z_abs => k_is)
    (case z_all => k_is); (case z_bool => k_is); (case z_int => k_is); (case z_isinstance => k_is); (case z_len => k_is); (case z_list => k_is); (case z_max => k_is); (case z_range => k_is)
    (case z_repr => k_is); (case z_str => k_is); (case z_tuple => k_is); (case hg_NoLetter => k_is); (case hk_NoLetter => k_is); (case hx_NoLetter => k_is); (case ha_NoLetter => k_is); (case hm_NoLetter => k_is)
    (case hn => k_is); (case ht => k_is); (case is_NoLetter => k_is); (case tx_NoLetter => k_is); (case is_BadText => k_is); (case tx_BadText => k_is); (case is_BadPlan => k_is); (case tx_BadPlan => k_is)
    (case is_BadArgs => k_is); (case tx_BadArgs => k_is); (case ss_NoLetter => k_is); (case sb_NoLetter => k_is); (case sf0 => k_is); (case sf1 => k_is); (case sf2 => k_is); (case st0 => k_is)
