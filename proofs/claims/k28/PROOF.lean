import PyProof.Rows.All
import Wide.All
import OpenK.AllK
import Wide.FinOn
import HandS.ForMost
import HandS.IsInst
import HandS.Flow
import HandS.TupAny
import PyProof.InstEq
import KE.KIsAll
import KE.DataCmp
import HandS.Style
import HandS.Codes
import PySem.Challenge.RW_farcalls_k28_wires_alike
set_option Elab.async false
set_option linter.all false
set_option maxRecDepth 100000
set_option maxHeartbeats 4000000
namespace Fc
open PySem L2

/-! ### objects apart from one another, by their addresses -/
structure Has (H : Hp) (os : List (Addr × HO)) : Prop where
  get : ∀ p ∈ os, H p.1 = some p.2
  nd : (os.map (·.1)).Nodup

theorem Has.at {H : Hp} {os : List (Addr × HO)} (h : Has H os) (i : Nat) {a : Addr} {o : HO} (e : os[i]? = some (a, o)) : H a = some o :=
  h.get (a, o) (List.mem_of_getElem? e)
theorem Has.head {H : Hp} {os : List (Addr × HO)} {a : Addr} {o : HO} (h : Has H ((a, o) :: os)) : H a = some o := h.get (a, o) List.mem_cons_self
theorem Has.tail {H : Hp} {os : List (Addr × HO)} {p : Addr × HO} (h : Has H (p :: os)) : Has H os :=
  ⟨fun q hq => h.get q (List.mem_cons_of_mem _ hq), (List.nodup_cons.mp h.nd).2⟩
theorem Has.nil {H : Hp} : Has H [] := ⟨fun p hp => absurd hp List.not_mem_nil, List.nodup_nil⟩
theorem Has.cons {H : Hp} {os : List (Addr × HO)} {a : Addr} {o : HO} (h : Has H os) (e : H a = some o) (n : a ∉ os.map (·.1)) : Has H ((a, o) :: os) :=
  ⟨fun q hq => by
    rcases List.mem_cons.mp hq with rfl | hq
    · exact e
    · exact h.get q hq, List.nodup_cons.mpr ⟨n, h.nd⟩⟩
theorem Has.fresh {H : Hp} {os : List (Addr × HO)} {p : Addr} (h : Has H os) (hp : H p = none) : p ∉ os.map (·.1) := by
  intro hm
  obtain ⟨q, hq, e⟩ := List.mem_map.mp hm
  have := h.get q hq
  rw [e, hp] at this
  cases this
/-- all that stands in os stands in the changed heap, too -/
theorem Has.keep {H H' : Hp} {os : List (Addr × HO)} (h : Has H os) (k : ∀ p ∈ os, H p.1 = some p.2 → H' p.1 = some p.2) : Has H' os :=
  ⟨fun p hp => k p hp (h.get p hp), h.nd⟩
theorem Has.other {H : Hp} {os : List (Addr × HO)} {a : Addr} {o : HO} (h : Has H os) (n : a ∉ os.map (·.1)) : Has (upd H a o) os :=
  h.keep fun p hp e => by
    have hne : p.1 ≠ a := fun z => n (z ▸ List.mem_map.mpr ⟨p, hp, rfl⟩)
    rw [upd_ne hne]
    exact e
theorem Has.new {H : Hp} {os : List (Addr × HO)} {p : Addr} {o : HO} (h : Has H os) (hp : H p = none) : Has (upd H p o) ((p, o) :: os) :=
  (h.other (h.fresh hp)).cons upd_same (h.fresh hp)
/-- a new object that isn't listed -/
theorem Has.over {H : Hp} {os : List (Addr × HO)} {p : Addr} {o : HO} (h : Has H os) (hp : H p = none) : Has (upd H p o) os := h.other (h.fresh hp)
theorem Has.put {H : Hp} {os : List (Addr × HO)} {a : Addr} {o u : HO} (h : Has H ((a, o) :: os)) : Has (upd H a u) ((a, u) :: os) :=
  (h.tail.other (List.nodup_cons.mp h.nd).1).cons upd_same (List.nodup_cons.mp h.nd).1
theorem Has.perm {H : Hp} {os os' : List (Addr × HO)} (h : Has H os) (p : os'.Perm os) : Has H os' :=
  ⟨fun q hq => h.get q (p.mem_iff.mp hq), ((p.map (·.1)).nodup_iff).mpr h.nd⟩
theorem Has.left {H : Hp} {xs ys : List (Addr × HO)} (h : Has H (xs ++ ys)) : Has H xs :=
  ⟨fun q hq => h.get q (List.mem_append_left _ hq), by
    have := h.nd
    rw [List.map_append] at this
    exact (List.nodup_append.mp this).1⟩
theorem Has.right {H : Hp} {xs ys : List (Addr × HO)} (h : Has H (xs ++ ys)) : Has H ys :=
  ⟨fun q hq => h.get q (List.mem_append_right _ hq), by
    have := h.nd
    rw [List.map_append] at this
    exact (List.nodup_append.mp this).2.1⟩
/-- the objects at these places of the head, in this order -/
def pickL (xs : List (Addr × HO)) (is : List Nat) : List (Addr × HO) := is.filterMap (xs[·]?)
theorem mem_pick {xs : List (Addr × HO)} {is : List Nat} {p : Addr × HO} (h : p ∈ pickL xs is) : p ∈ xs := by
  obtain ⟨i, _, e⟩ := List.mem_filterMap.mp h
  exact List.mem_of_getElem? e
theorem nd_pick {xs : List (Addr × HO)} (h : (xs.map (·.1)).Nodup) : ∀ {is : List Nat}, is.Nodup → ((pickL xs is).map (·.1)).Nodup
  | [], _ => List.nodup_nil
  | i :: is, hn => by
    have ih := nd_pick h (List.nodup_cons.mp hn).2
    unfold pickL at ih ⊢
    rw [List.filterMap_cons]
    cases e : xs[i]? with
    | none => exact ih
    | some p =>
      rw [List.map_cons]
      refine List.nodup_cons.mpr ⟨fun hm => ?_, ih⟩
      obtain ⟨q, hq, eq⟩ := List.mem_map.mp hm
      obtain ⟨j, hj, ej⟩ := List.mem_filterMap.mp hq
      have h1 : (xs.map (·.1))[i]? = some p.1 := by rw [List.getElem?_map, e]; rfl
      have h2 : (xs.map (·.1))[j]? = some p.1 := by rw [List.getElem?_map, ej]; exact congrArg some eq
      have hl : i < (xs.map (·.1)).length := by
        rcases Nat.lt_or_ge i (xs.map (·.1)).length with z | z
        · exact z
        · rw [List.getElem?_eq_none_iff.mpr z] at h1; cases h1
      have : i = j := (List.getElem?_inj hl h).mp (h1.trans h2.symm)
      subst this
      exact (List.nodup_cons.mp hn).1 hj
theorem Has.idx {H : Hp} {xs : List (Addr × HO)} (h : Has H xs) (is : List Nat) (hn : is.Nodup := by decide) : Has H (pickL xs is) :=
  ⟨fun p hp => h.get p (mem_pick hp), nd_pick h.nd hn⟩
theorem Has.pre {H : Hp} {xs R : List (Addr × HO)} (h : Has H (xs ++ R)) (is : List Nat) (hn : is.Nodup := by decide) : Has H (pickL xs is ++ R) := by
  refine ⟨fun p hp => ?_, ?_⟩
  · rcases List.mem_append.mp hp with hp | hp
    · exact h.get p (List.mem_append_left _ (mem_pick hp))
    · exact h.get p (List.mem_append_right _ hp)
  · have nd := h.nd
    rw [List.map_append] at nd ⊢
    obtain ⟨n1, n2, n3⟩ := List.nodup_append.mp nd
    refine List.nodup_append.mpr ⟨nd_pick n1 hn, n2, fun a ha b hb => n3 a ?_ b hb⟩
    obtain ⟨q, hq, e⟩ := List.mem_map.mp ha
    exact List.mem_map.mpr ⟨q, mem_pick hq, e⟩
theorem Has.swap {H : Hp} {p q : Addr × HO} {R : List (Addr × HO)} (h : Has H (p :: q :: R)) : Has H (q :: p :: R) := h.perm (List.Perm.swap _ _ _)
/-- the third one first -/
theorem Has.up2 {H : Hp} {p q r : Addr × HO} {R : List (Addr × HO)} (h : Has H (p :: q :: r :: R)) : Has H (r :: p :: q :: R) := h.pre (xs := [p, q, r]) [2, 0, 1]
/-- the first one third -/
theorem Has.dn2 {H : Hp} {p q r : Addr × HO} {R : List (Addr × HO)} (h : Has H (p :: q :: r :: R)) : Has H (q :: r :: p :: R) := h.pre (xs := [p, q, r]) [1, 2, 0]
theorem Has.dn3 {H : Hp} {p q r t : Addr × HO} {R : List (Addr × HO)} (h : Has H (p :: q :: r :: t :: R)) : Has H (q :: r :: t :: p :: R) := h.pre (xs := [p, q, r, t]) [1, 2, 3, 0]

/-! ### tuples stay -/
def Tk (H H' : Hp) : Prop := ∀ b xs, H b = some (.tup xs) → H' b = some (.tup xs)
theorem Tk.refl {H : Hp} : Tk H H := fun _ _ h => h
theorem Tk.trans {H H1 H2 : Hp} (a : Tk H H1) (b : Tk H1 H2) : Tk H H2 := fun c o h => b c o (a c o h)
theorem Tk.new {H : Hp} {p : Addr} {o : HO} (h : H p = none) : Tk H (upd H p o) := fun b xs e => by
  rw [upd_ne (ne_of_none e h)]
  exact e
theorem Tk.put {H : Hp} {p : Addr} {o u : HO} (h : H p = some o) (n : ∀ xs, o ≠ .tup xs) : Tk H (upd H p u) := fun b xs e => by
  have hne : b ≠ p := fun z => by
    subst z
    rw [h] at e
    exact n xs (Option.some.inj e)
  rw [upd_ne hne]
  exact e
theorem Tk.lst {H : Hp} {p : Addr} {ys : List V} {u : HO} (h : H p = some (.lst ys)) : Tk H (upd H p u) := Tk.put h fun _ z => nomatch z
theorem Tk.dK {H : Hp} {p : Addr} {ys : List (Key × V)} {u : HO} (h : H p = some (.dK ys)) : Tk H (upd H p u) := Tk.put h fun _ z => nomatch z
theorem Tk.ins {H : Hp} {p C dx : Addr} {fs : List (Str × V)} {u : HO} (h : H p = some (.ins C dx fs)) : Tk H (upd H p u) := Tk.put h fun _ z => nomatch z

/-! ### data that stays: None, truths, ints, texts, tuples of such -/
mutual
inductive Fz (H : Hp) : V → PyData → Prop
  | non : Fz H .non .none
  | bl (b : Bool) : Fz H (.bl b) (.bool b)
  | int (i : Int) : Fz H (.int i) (.int i)
  | str (x : Str) : Fz H (.str x) (.str x)
  | tup {a : Addr} {xs : List V} {ds : List PyData} : H a = some (.tup xs) → FzAll H xs ds → Fz H (.ref a) (.tuple ds)
inductive FzAll (H : Hp) : List V → List PyData → Prop
  | nil : FzAll H [] []
  | cons {v : V} {vs : List V} {d : PyData} {ds : List PyData} : Fz H v d → FzAll H vs ds → FzAll H (v :: vs) (d :: ds)
end
mutual
theorem Fz.keep {H H' : Hp} (k : Tk H H') : ∀ {v : V} {d : PyData}, Fz H v d → Fz H' v d
  | _, _, .non => .non
  | _, _, .bl b => .bl b
  | _, _, .int i => .int i
  | _, _, .str x => .str x
  | _, _, .tup e h => .tup (k _ _ e) (FzAll.keep k h)
theorem FzAll.keep {H H' : Hp} (k : Tk H H') : ∀ {v : List V} {d : List PyData}, FzAll H v d → FzAll H' v d
  | _, _, .nil => .nil
  | _, _, .cons h t => .cons (Fz.keep k h) (FzAll.keep k t)
end
mutual
theorem Fz.dp {K : PySem.W.Frag} {H : Hp} : ∀ {v : V} {d : PyData}, Fz H v d → Dp K H v d
  | _, _, .non => .non
  | _, _, .bl b => .bl b
  | _, _, .int i => .int i
  | _, _, .str x => .str x
  | _, _, .tup e h => .tup (SqT.of e) (FzAll.dp h)
theorem FzAll.dp {K : PySem.W.Frag} {H : Hp} : ∀ {v : List V} {d : List PyData}, FzAll H v d → DpAll K H v d
  | _, _, .nil => .nil
  | _, _, .cons h t => .cons (Fz.dp h) (FzAll.dp t)
end
theorem FzAll.length {H : Hp} : ∀ {v : List V} {d : List PyData}, FzAll H v d → v.length = d.length
  | _, _, .nil => rfl
  | _, _, .cons _ t => congrArg (· + 1) (FzAll.length t)
theorem FzAll.append {H : Hp} : ∀ {v v' : List V} {d d' : List PyData}, FzAll H v d → FzAll H v' d' → FzAll H (v ++ v') (d ++ d')
  | _, _, _, _, .nil, s => s
  | _, _, _, _, .cons h t, s => .cons h (FzAll.append t s)
theorem FzAll.drop {H : Hp} : ∀ {v : List V} {d : List PyData} (n : Nat), FzAll H v d → FzAll H (v.drop n) (d.drop n)
  | _, _, 0, h => h
  | _, _, _ + 1, .nil => .nil
  | _, _, n + 1, .cons _ t => FzAll.drop n t
theorem FzAll.take {H : Hp} : ∀ {v : List V} {d : List PyData} (n : Nat), FzAll H v d → FzAll H (v.take n) (d.take n)
  | _, _, 0, _ => .nil
  | _, _, _ + 1, .nil => .nil
  | _, _, n + 1, .cons h t => .cons h (FzAll.take n t)

/-! ### how great data is -/
structure Gd (b k : Nat) (d : PyData) : Prop where
  sh : d.showable = true
  ls : d.leavesShort 13 = true
  cl : d.canLay0 = true
  bk : d.bulk ≤ b
  dp : d.depth ≤ k
theorem Gd.mono {b b' k k' : Nat} {d : PyData} (h : Gd b k d) (hb : b ≤ b') (hk : k ≤ k') : Gd b' k' d := ⟨h.sh, h.ls, h.cl, Nat.le_trans h.bk hb, Nat.le_trans h.dp hk⟩
structure GdAll (b k : Nat) (ds : List PyData) : Prop where
  sh : PyData.showableAll ds = true
  ls : PyData.leavesShortAll 13 ds = true
  cl : PyData.canLayAll0 ds = true
  bk : PyData.bulkAll ds ≤ b
  dp : PyData.depthAll ds ≤ k
theorem GdAll.nil {k : Nat} : GdAll 0 k [] := ⟨rfl, rfl, rfl, Nat.le_refl _, Nat.zero_le _⟩
theorem GdAll.cons {b c k : Nat} {d : PyData} {ds : List PyData} (h : Gd b k d) (t : GdAll c k ds) : GdAll (b + 1 + c) k (d :: ds) := by
  refine ⟨?_, ?_, ?_, ?_, ?_⟩
  · simp only [PyData.showableAll, h.sh, t.sh, Bool.and_self]
  · simp only [PyData.leavesShortAll, h.ls, t.ls, Bool.and_self]
  · simp only [PyData.canLayAll0, h.cl, t.cl, Bool.and_self]
  · have h1 := h.bk
    have h2 := t.bk
    simp only [PyData.bulkAll]
    omega
  · have h1 := h.dp
    have h2 := t.dp
    simp only [PyData.depthAll]
    omega
theorem GdAll.of {b k : Nat} : ∀ {ds : List PyData}, (∀ d ∈ ds, Gd b k d) → GdAll ((b + 1) * ds.length) k ds
  | [], _ => GdAll.nil
  | d :: ds, h => by
    have t := GdAll.cons (h d List.mem_cons_self) (GdAll.of fun e he => h e (List.mem_cons_of_mem _ he))
    rw [List.length_cons, Nat.mul_succ, Nat.add_comm]
    exact t
theorem GdAll.mono {b b' k k' : Nat} {d : List PyData} (h : GdAll b k d) (hb : b ≤ b') (hk : k ≤ k') : GdAll b' k' d := ⟨h.sh, h.ls, h.cl, Nat.le_trans h.bk hb, Nat.le_trans h.dp hk⟩
theorem GdAll.tup {b k : Nat} {ds : List PyData} (h : GdAll b k ds) : Gd b (k + 1) (.tuple ds) :=
  ⟨by simp only [PyData.showable, h.sh], by simp only [PyData.leavesShort, h.ls], by simp only [PyData.canLay0, h.cl], by simp only [PyData.bulk]; exact h.bk, by
    have := h.dp
    simp only [PyData.depth]
    omega⟩
theorem GdAll.lst {b k : Nat} {ds : List PyData} (h : GdAll b k ds) : Gd b (k + 1) (.list ds) :=
  ⟨by simp only [PyData.showable, h.sh], by simp only [PyData.leavesShort, h.ls], by simp only [PyData.canLay0, h.cl], by simp only [PyData.bulk]; exact h.bk, by
    have := h.dp
    simp only [PyData.depth]
    omega⟩
theorem log2_lt {m : Nat} (h : m < 2 ^ 1920) : m.log2 < 1920 := by
  by_cases z : m = 0
  · subst z
    decide
  · exact (Nat.log2_lt z).mpr h
theorem Gd.int {i : Int} (h : i.natAbs < 10 ^ 12) : Gd 0 0 (.int i) := by
  have h1 := PyData.shown_int_le h
  refine ⟨?_, ?_, rfl, Nat.le_refl _, Nat.le_refl _⟩
  · simp only [PyData.showable, decide_eq_true_eq]
    exact log2_lt (Nat.lt_trans h (by decide))
  · simp only [PyData.leavesShort, decide_eq_true_eq]
    exact h1
theorem Gd.non : Gd 0 0 .none := ⟨rfl, rfl, rfl, Nat.le_refl _, Nat.le_refl _⟩
theorem Gd.bool {b : Bool} : Gd 0 0 (.bool b) := ⟨rfl, rfl, rfl, Nat.le_refl _, Nat.le_refl _⟩
theorem Gd.str {x : Str} {b : Nat} (h : (x.cps.toList.all fun c => decide (c < 16 ^ 8)) = true) (h1 : PyData.canLay0 (.str x) = true) (h2 : x.cps.size ≤ b) : Gd b 0 (.str x) :=
  ⟨rfl, by simp only [PyData.leavesShort]; exact h, h1, by simp only [PyData.bulk]; exact h2, by simp only [PyData.depth]; exact Nat.le_refl _⟩
theorem Gd.shaped {b k : Nat} {d : PyData} (h : Gd b k d) (hk : k ≤ 64) : SeqAt.shaped d = true := by
  have := h.dp
  unfold SeqAt.shaped
  rw [h.cl, decide_eq_true (by omega)]
  rfl
theorem Gd.fits {b k : Nat} {d : PyData} (h : Gd b k d) (hb : b ≤ 2 ^ 20) : d.shown.length ≤ sizeLine :=
  PyData.shown_fits_bulk (B := 13) (by decide) (by decide) h.ls (Nat.le_trans h.bk hb)
theorem Gd.noDict {b k : Nat} {d : PyData} (h : Gd b k d) : d.hasDict = false := PyData.hasDict_of_canLay d h.cl

/-! ### repr of data, where no repr is under way -/
def rRepr (K : PySem.W.Frag) : List V → Hp → VK → Prop := fun xs H Q => ∃ (a : Addr) (d : PyData), xs = [.ref a] ∧ Dp K H (.ref a) d ∧ Gd (2 ^ 20) 60 d ∧ Q (.str d.shown) H
theorem call_reprD {X : Cx} (hg : X.A.guards = some []) (hu : X.A.units + 64 < cLine) : CallR X (.builtin "repr") (rRepr X.K) := by
  intro pins s σ H xs us Q I r h
  obtain ⟨a, d, rfl, hd, g, q⟩ := h
  cases r with
  | cons r1 r2 =>
    cases r2
    cases r1
    obtain ⟨as, rd⟩ := Dp.reads I d (.ref a) (.ref a) hd rfl
    have := g.dp
    exact repr_of_reads' rd g.sh (PyData.noDict_hsm g.noDict) hg (by omega) (fun b o e => e)
      (fun h' u tk hk => ⟨.str d.shown, H, I.kept hk, ⟨u, rfl⟩, q⟩) (g.fits (Nat.le_refl _))
end Fc

set_option Elab.async false
set_option linter.all false
set_option maxRecDepth 100000
set_option maxHeartbeats 4000000
namespace Fc
open PySem L2 PySem.Spec PyProof.Rows

theorem same_new {H : Hp} {p : Addr} {o : HO} (h : H p = none) : Same H (upd H p o) := fun b u e => by
  rw [upd_ne (ne_of_none e h)]
  exact e
theorem same_tk {H H' : Hp} (h : Same H H') : Tk H H' := fun b xs e => h b _ e
theorem Has.same {H H' : Hp} {os : List (Addr × HO)} (h : Has H os) (s : Same H H') : Has H' os := h.keep fun p _ e => s _ _ e

/-! ### slices and sums of tuples that are tracked: some tuple of these items, be it the same one -/
def rSlX : V → Option Int → Option Int → Hp → VK → Prop := fun x lo hi H Q =>
  ∃ (a : Addr) (xs : List V), x = .ref a ∧ H a = some (.tup xs) ∧ ∀ (p : Addr) (H' : Hp), Same H H' → H' p = some (.tup (cutV xs lo hi)) → Q (.ref p) H'
theorem sl_tupX {X : Cx} : SlR X rSlX := by
  intro pins s σ H x v vl vu lo hi sl Q I rx hs pl pu h
  obtain ⟨a, xs, rfl, ha, q⟩ := h
  refine sl_tupA pins s σ H (.ref a) v vl vu lo hi sl Q I rx hs pl pu ⟨a, xs, rfl, SqT.of ha, fun hw => ?_, fun _ p hp => q p _ (same_new hp) upd_same⟩
  have e : cutV xs lo hi = xs := by
    unfold cutV
    rw [hw.1, hw.2, List.drop_zero, Nat.sub_zero, List.take_length]
  exact q a H (Same.refl H) (by rw [e]; exact ha)
def rCatX : R2 := fun x y H Q =>
  ∃ (a b : Addr) (xs ys : List V), x = .ref a ∧ y = .ref b ∧ H a = some (.tup xs) ∧ H b = some (.tup ys) ∧ xs.length + ys.length ≤ sizeLine ∧ ∀ (p : Addr) (H' : Hp), Same H H' → H' p = some (.tup (xs ++ ys)) → Q (.ref p) H'
theorem op_catX {X : Cx} : OpR X (binaryOp .Add) rCatX := by
  intro pins s σ H x y v u Q I rx ry h
  obtain ⟨a, b, xs, ys, rfl, rfl, ha, hb, hz, q⟩ := h
  refine op_catA pins s σ H (.ref a) (.ref b) v u Q I rx ry ⟨a, b, xs, ys, rfl, rfl, SqT.of ha, SqT.of hb, hz, fun e => ?_, fun _ e => ?_, fun _ _ p hp => q p _ (same_new hp) upd_same⟩
  · subst e
    exact q b H (Same.refl H) hb
  · subst e
    exact q a H (Same.refl H) (by rw [List.append_nil]; exact ha)
theorem cut_from {xs : List V} {k : Int} (h : 0 ≤ k) : cutV xs (some k) none = xs.drop k.toNat := by
  obtain ⟨n, rfl⟩ := Int.eq_ofNat_of_zero_le h
  unfold cutV
  rw [HT.sIx_nat, HT.sIx_none, Int.toNat_natCast]
  rcases Nat.le_total n xs.length with z | z
  · rw [Nat.min_eq_left z, List.take_of_length_le (by rw [List.length_drop]; omega)]
  · rw [Nat.min_eq_right z, List.drop_of_length_le (Nat.le_refl _), List.drop_of_length_le z, List.take_nil]
theorem cut_to {xs : List V} {k : Int} (h : 0 ≤ k) : cutV xs none (some k) = xs.take k.toNat := by
  obtain ⟨n, rfl⟩ := Int.eq_ofNat_of_zero_le h
  unfold cutV
  rw [HT.sIx_nat, HT.sIx_none, Int.toNat_natCast, List.drop_zero, Nat.sub_zero]
  rcases Nat.le_total n xs.length with z | z
  · rw [Nat.min_eq_left z]
  · rw [Nat.min_eq_right z, List.take_of_length_le (Nat.le_refl _), List.take_of_length_le z]

/-! ### rules by a K of their own -/
theorem call_isiE {X : Cx} {K : PySem.W.Frag} (h : X.K = K) : CallR X (.builtin "isinstance") (rIsi K) := h ▸ call_isi
theorem call_isiTE {X : Cx} {K : PySem.W.Frag} (h : X.K = K) : CallR X (.builtin "isinstance") (rIsiT K) := h ▸ call_isiT
def rLenE (K : PySem.W.Frag) : List V → Hp → VK → Prop := fun xs H Q => ∃ p ys, xs = [.ref p] ∧ (SqL K H p ys ∨ SqT K H p ys) ∧ Q (.int ys.length) H
theorem call_lenE {X : Cx} {K : PySem.W.Frag} (h : X.K = K) : CallR X (.builtin "len") (rLenE K) := h ▸ call_len_seq
def rListE (K : PySem.W.Frag) : List V → Hp → VK → Prop := fun xs H Q => ∃ p ys, xs = [.ref p] ∧ (SqL K H p ys ∨ SqT K H p ys) ∧ ∀ l, H l = none → Q (.ref l) (upd H l (.lst ys))
theorem call_listE {X : Cx} {K : PySem.W.Frag} (h : X.K = K) : CallR X (.type "list") (rListE K) := h ▸ call_list_of
def rTupleE (K : PySem.W.Frag) : List V → Hp → VK → Prop := fun xs H Q => ∃ p ys, xs = [.ref p] ∧ ((SqL K H p ys ∧ ∀ l, H l = none → Q (.ref l) (upd H l (.tup ys))) ∨ (SqT K H p ys ∧ Q (.ref p) H))
theorem call_tupleE {X : Cx} {K : PySem.W.Frag} (h : X.K = K) : CallR X (.type "tuple") (rTupleE K) := h ▸ call_tuple_of
theorem ix_listE {X : Cx} {K : PySem.W.Frag} (h : X.K = K) : IxR X (rIxL K) := h ▸ ix_list
theorem ix_tupE {X : Cx} {K : PySem.W.Frag} (h : X.K = K) : IxR X (rIxT K) := h ▸ ix_tup
theorem sl_listE {X : Cx} {K : PySem.W.Frag} (h : X.K = K) : SlR X (rSlL K) := h ▸ sl_list
theorem op_eqE {X : Cx} {K : PySem.W.Frag} (h : X.K = K) (hu : X.A.units + 64 < cLine) : OpR X (compareOp .Eq) (rEqD K) := h ▸ op_eqD hu
theorem op_neE {X : Cx} {K : PySem.W.Frag} (h : X.K = K) (hu : X.A.units + 64 < cLine) : OpR X (compareOp .NotEq) (rNeD K) := h ▸ op_neD hu
theorem call_reprE {X : Cx} {K : PySem.W.Frag} (h : X.K = K) (hg : X.A.guards = some []) (hu : X.A.units + 64 < cLine) : CallR X (.builtin "repr") (rRepr K) := h ▸ call_reprD hg hu

/-! ### defs that are called where no repr is under way -/
structure FnG (P : Program) (w : World) (K : PySem.W.Frag) (mg : Str → Option Value) (base : Heap) (CX : CXT) (k : Nat) (f : Addr) (fd : FuncData) (ps : List Str) (sp : Sp) : Prop where
  len : ∀ vs H Q E, sp vs H Q E → vs.length = ps.length
  run : ∀ (A : Around) (outer : List Env) (s : Shared) (H : Hp) (args : Args) (us : List Value) (vs : List V) (Q : VK) (E : XK),
    A.guards = some [] → Room k A → Env0 P w K mg base A outer s H → BindsTo s fd args (ps.zip us) → Vals vs us → sp vs H Q E →
    codeAny (model P w) A (.call (.ref f) args) (CR CX outer P w H s Q E) s
theorem FnG.mono {P : Program} {w : World} {K : PySem.W.Frag} {mg : Str → Option Value} {base : Heap} {CX : CXT} {j k : Nat} {f : Addr} {fd : FuncData} {ps : List Str} {sp : Sp}
    (F : FnG P w K mg base CX j f fd ps sp) (h : j ≤ k) : FnG P w K mg base CX k f fd ps sp :=
  ⟨F.len, fun A outer s H args us vs Q E hg hr => F.run A outer s H args us vs Q E hg (hr.mono h)⟩

theorem fun_okG {P : Program} {w : World} {K : PySem.W.Frag} {mg : Str → Option Value} {base : Heap} {x qual : Str} {st : Stmt} {f : Addr} {fd : FuncData} {N ps : List Str} {k : Nat} {sp : Sp}
    (F : Fun K x qual st f fd) (S : FnScope N ps (defScope st)) (len : ∀ vs H Q E, sp vs H Q E → vs.length = ps.length)
    (hbody : ∀ (cdv : Value) (A : Around) (outer : List Env) (s : Shared) (H : Hp) (vs : List V) (Q : VK) (E : XK),
      (A.deeper (envOfC qual (defScope st) s.heap.objs.size f cdv)).guards = some [] → Room k (A.deeper (envOfC qual (defScope st) s.heap.objs.size f cdv)) → sp vs H Q E →
      ∃ t, PSs (cxOf CX0 P w K mg base N qual (defScope st) f cdv A outer s H E).nox (defBody st) t ∧ t { nx := fun _ H' => Q .non H', rt := Q } (start N vs) H) :
    FnG P w K mg base CX0 (k + 1) f fd ps sp := by
  obtain ⟨oc, od, kV, doc, pm, an, cdv, ct, osl, rfl, lk, hcd⟩ := F.ex
  constructor
  · exact len
  · intro A outer s H args us vs Q E hg hr e0 hb r hsp
    have big : ∀ b o, base.get? b = some o → s.heap.get? b = some o := fun b o e => (e0.bs b o e).1
    have KX : K.In s.heap := e0.mod.kin.keeps big
    have kinds : ∀ y ∈ ps.zip us, (defScope st).names.lookup y.1 = some .local ∨
        ((defScope st).names.lookup y.1 = some .cell ∧ ((cellsFrom (s.heap.objs.size + 1) (defScope st).names []).lookup y.1).isSome = true) := by
      rintro ⟨n, v⟩ hy
      refine (S.par n (List.of_mem_zip hy).1).imp id fun q => ?_
      exact ⟨q, PySem.W.cellsFrom_some _ _ _ (.inl q)⟩
    refine codeAny_call_function hr.depth (KX _ _ lk) rfl S.co S.gen rfl (PySem.W.codeRec_of KX hcd) (hb _ _ _ _ ?_)
    refine wpAny_newFunctionEnv_cells S.kind kinds fun env he s1 xc => ?_
    cases he
    refine ⟨(e0.mod.nolimit.keeps big).keeps xc.toInCall.keep, codeAny_func ?_⟩
    obtain ⟨t, ht, hq⟩ := hbody cdv A outer s H vs Q E hg (hr.deeper _) hsp
    have I0 := inv_start (CX := CX0) (E := E) (cd := cdv) (f := f) (qual := qual) S hr.hd e0 (len _ _ _ _ hsp) r xc
    refine wpAny_mono (ht.nox.run [] s1 (start N vs) H _ I0 hq) ?_ (fun _ _ z => z)
    intro fl s2 z
    cases fl with
    | ret u => obtain ⟨v, σ2, H2, J, rv, q⟩ := z; exact ⟨v, H2, J.os, J.bare, J.base, J.hok, rv, q⟩
    | next => obtain ⟨σ2, H2, J, q⟩ := z; exact ⟨.non, H2, J.os, J.bare, J.base, J.hok, rfl, q⟩
    | brk => obtain ⟨_, _, _, q⟩ := z; exact q.elim
    | cont => obtain ⟨_, _, _, q⟩ := z; exact q.elim

section
variable {X : Cx} {CX : CXT} {k : Nat} {f : Addr} {fd : FuncData} {ps : List Str} {sp : Sp} {dvs : List V} {ds : List Value} {E : XK} {x : Str} {p pos : Pos} {e : Expr} {es : List Expr} {t : TA}
theorem run_fnG {pins : List (Addr × Obj)} {σ : L2.St} {H : Hp} {s : Shared} {Q : VK} {us : List Value} {vs : List V} (F : FnG X.prog X.w X.K X.mg X.base CX k f fd ps sp) (hgu : X.A.guards = some []) (hr : Room k X.A)
    (hb : Binds X.K fd ps ds) (hd : Vals dvs ds) (hx : Passes CX X E) (I : Inv X pins σ H s) (r : Vals vs us) (h : sp (vs ++ dvs) H Q E) :
    wpAny (model X.prog X.w) X.A (call (.ref f) us) (EP X pins σ Q) X.xe s := by
  have both : Vals (vs ++ dvs) (us ++ ds) := r.append hd
  have lens : (us ++ ds).length = ps.length := both.length.symm.trans (F.len _ _ _ _ h)
  refine wpAny_call (codeAny_mono (F.run X.A X.stack s H ⟨us, []⟩ (us ++ ds) (vs ++ dvs) Q E hgu hr I.env0 (hb s us I.kIn lens) both h) ?_)
  intro res s2 z
  match res, z with
  | .error er, z => exact hx pins σ H s er s2 I z
  | .ok (.ret u), z => exact I.after z
theorem pe_callG (F : FnG X.prog X.w X.K X.mg X.base CX k f fd ps sp) (hgu : X.A.guards = some []) (hr : Room k X.A) (hg : Gl X x) (hm : X.mg x = some (.ref f)) (hk : PySem.W.keepIn X.K (.ref f) = true)
    (hb : Binds X.K fd ps ds) (hd : Vals dvs ds) (hx : Passes CX X E) (ha : PA X (e :: es) t) (hdb : (x == ("__debug__" : Str)) = false := by decide)
    (he : starEach (e :: es) X.env = (false, eval e X.env) :: starEach es X.env := by rfl) (hpl : (backTo pos (starEach es X.env)).any (·.1) = false := by rfl) :
    PE X (.Call (.Name x p) (e :: es) [] pos) (tCall sp dvs E t) := by
  constructor
  intro pins s σ H Q I h
  refine wpAny_Call_Name_kw (ld_glob I hg hm ?_ hdb)
  refine PySem.W.callWith_K (h₀ := X.base) I.ok.mod.kin hk (thn (ha.run pos pins s σ H _ I h) ?_) he hpl
  rintro us s1 ⟨vs, H1, I1, r, q⟩
  exact ⟨I1.kIn, run_fnG F hgu hr hb hd hx I1 r q⟩
end

/-! ### the law's own call: no repr is under way there -/
section
variable {P : Program} {w : World} {K : PySem.W.Frag} {mg mb : Str → Option Value} {k : Nat} {fa a : Addr} {fd : FuncData} {x : Str} {sp : Sp} {s1 : Shared} {vs : List Value} {ns : List Int}
/-- over an abstract heap that tracks at most the script -/
theorem law_coreG (KX : K.In s1.heap) (hns : s1.heap.Ns mainGlobals mg) (hb : s1.heap.Ns builtinsNs mb) (hbb : ∀ x : Str, x ≠ "__name__" → mb x = bootBuiltins x) (hlim : s1.heap.NoLimit) (hge : s1.gens = #[])
    (ha : s1.heap.get? a = some { cls := .type "list", data := .seq vs.toArray }) (hr : Room k callerA)
    (F : ∀ base : Heap, K.In base → base.Ns mainGlobals mg → FnG P w K mg base CX0 k fa fd [x] sp) (hbind : ∀ (s : Shared) (u : Value), BindsTo s fd ⟨[u], []⟩ [(x, u)])
    (H : Hp) (only : Only H) (hsp : sp [.ref a] H (fun v _ => v = .bl true) fun _ _ _ => False)
    (hok : HOk P w H s1.heap) (at1 : ∀ b, H b ≠ none → b = a) (off : H a ≠ none → K.lookup a = none) :
    codeAny (model P w) callerA (.call (.ref fa) ⟨[.ref a], []⟩) (fun r s' => r = .ok (.ret (.bool true)) ∧ OldK s1.heap s'.heap ∧ s'.os = s1.os ∧ AllBare s'.gens) s1 := by
  have free : ∀ {b : Addr}, b ≠ a → H b = none := fun {b} h => Classical.byContradiction fun z => h (at1 b z)
  have hid : ∀ {b : Addr} {o : Obj}, s1.heap.get? b = some o → H b = none → (hidT s1.heap H).get? b = some o := fun e n => hidT_get e n
  have dictFree : ∀ {b : Addr} {o : Obj} {es : Array DictEntry} {ep : Nat}, s1.heap.get? b = some o → o.data = .dict es ep → H b = none := by
    intro b o es ep e d
    by_cases hb' : b = a
    · subst hb'
      rw [ha] at e
      cases e
      exact nomatch (show Data.seq vs.toArray _ = Data.dict es ep from d)
    · exact free hb'
  have nsOf : ∀ {b : Addr} {m : Str → Option Value}, s1.heap.Ns b m → (hidT s1.heap H).Ns b m := by
    rintro b m ⟨o, es, ep, e, d, r⟩
    exact ⟨o, es, ep, hid e (dictFree e d), d, r⟩
  have kin : K.In (hidT s1.heap H) := by
    intro b o e
    refine hid (KX b o e) (Classical.byContradiction fun z => ?_)
    have := at1 b z
    subst this
    rw [off z] at e
    cases e
  obtain ⟨mc, l1, l2⟩ := hlim
  have modOk : Mod K mg (hidT s1.heap H) := ⟨kin, nsOf hns, ⟨mb, nsOf hb, hbb⟩, ⟨mc, nsOf l1, l2⟩⟩
  have env : Env0 P w K mg (hidT s1.heap H) callerA [] s1 H :=
    ⟨rfl, modOk, fun b o e => of_hidT e, Nat.le_of_eq (hidT_size _ _), trivial, (fun b hb => nomatch (show b ∈ ([] : List Addr) from hb)), hok, .of_eq hge⟩
  refine codeAny_mono ((F _ kin (nsOf hns)).run callerA [] s1 H ⟨[.ref a], []⟩ [.ref a] [.ref a] _ _ rfl hr env (hbind s1 (.ref a)) (.cons rfl .nil) hsp) ?_
  intro res s2 z
  match res, z with
  | .error er, z => exact z.elim
  | .ok (.ret u), z =>
    obtain ⟨v, H2, os, bare, un, hok2, rv, q⟩ := z
    cases (show v = .bl true from q)
    cases (show u = Value.bool true from rv)
    refine ⟨rfl, OldK.of_keep fun b o e => ?_, os, bare⟩
    rcases only b with n | ⟨ob, xs, fz⟩
    · exact un.keep b o e n (fun z => nomatch (show b ∈ ([] : List Addr) from z)) (fun z => nomatch z)
    · obtain ⟨g1, _⟩ := hok b _ fz
      obtain ⟨g2, _⟩ := hok2 b _ (un.frzs b ob _ fz)
      rw [e] at g1
      cases g1
      exact g2
theorem law_callG (KX : K.In s1.heap) (hns : s1.heap.Ns mainGlobals mg) (hb : s1.heap.Ns builtinsNs mb) (hbb : ∀ x : Str, x ≠ "__name__" → mb x = bootBuiltins x) (hlim : s1.heap.NoLimit) (hge : s1.gens = #[])
    (ha : s1.heap.get? a = some { cls := .type "list", data := .seq vs.toArray }) (hi : IntsAre vs ns) (hl : ns.length ≤ sizeLine) (hr : Room k callerA)
    (F : ∀ base : Heap, K.In base → base.Ns mainGlobals mg → FnG P w K mg base CX0 k fa fd [x] sp) (hbind : ∀ (s : Shared) (u : Value), BindsTo s fd ⟨[u], []⟩ [(x, u)])
    (hsp : ∀ H : Hp, Only H → SqL K H a (ns.map V.int) → sp [.ref a] H (fun v _ => v = .bl true) fun _ _ _ => False) :
    codeAny (model P w) callerA (.call (.ref fa) ⟨[.ref a], []⟩) (fun r s' => r = .ok (.ret (.bool true)) ∧ OldK s1.heap s'.heap ∧ s'.os = s1.os ∧ AllBare s'.gens) s1 := by
  have rv := vals_ints hi
  have ll := hi.length
  cases hk : K.lookup a with
  | some o =>
    have e := KX a o hk
    rw [ha] at e
    cases e
    have only : Only (fun _ => none) := fun _ => .inl rfl
    refine law_coreG KX hns hb hbb hlim hge ha hr F hbind (fun _ => none) only (hsp _ only (.inr ?_)) ?_ (fun b z => absurd rfl z) (fun z => absurd rfl z)
    · refine ⟨_, vs.toArray, _, hk, rfl, rfl, rfl, ?_, by simpa using rv⟩
      rw [List.size_toArray, ll]
      exact hl
    · intro b u z
      exact nomatch (show (none : Option HO) = some u from z)
  | none =>
    let ob : Obj := { cls := .type "list", data := .seq vs.toArray }
    let H0 : Hp := fun b => if b = a then some (.frz ob (.lst (ns.map V.int))) else none
    have H0a : H0 a = some (.frz ob (.lst (ns.map V.int))) := if_pos rfl
    have H0n : ∀ {b : Addr}, b ≠ a → H0 b = none := fun h => if_neg h
    have only : Only H0 := by
      intro b
      by_cases h : b = a
      · subst h
        exact .inr ⟨ob, _, H0a⟩
      · exact .inl (H0n h)
    refine law_coreG KX hns hb hbb hlim hge ha hr F hbind H0 only (hsp _ only (.inl (.inr ⟨ob, H0a⟩))) ?_ ?_ (fun _ => hk)
    · intro b u z
      by_cases h : b = a
      · subst h
        rw [H0a] at z
        cases z
        exact ⟨ha, by rw [List.length_map]; exact hl, vs, _, rv, ha⟩
      · rw [H0n h] at z
        cases z
    · intro b z
      exact Classical.byContradiction fun h => z (H0n h)
end
/-- the goal that k_head leaves, from the promise of the law's def -/
theorem walk_ofG {l : PySem.W.OpenLaw} {n k : Nat} {q : Program} {loose : List Str} {XP : (Str → Option Value) → Heap → Prop} {YP : World → Heap → Prop} {d : DefRec} {K : Params → PySem.W.Frag} {sp : PySem.W.Frag → Sp} {x : Str}
    (hn : l.most = some n) (hn2 : n ≤ sizeLine) (hdf : d.params.defaults = []) (hr : Room k callerA)
    (hY : ∀ (w : World) (h : Heap), YP w h → (K w.params).In h)
    (F : ∀ (w : World) (mg : Str → Option Value) (fa : Addr) (h : Heap), (K w.params).In h → h.Ns mainGlobals mg → mg d.name = some (.ref fa) →
      ∃ fd : FuncData, (∀ (s : Shared) (u : Value), BindsTo s fd ⟨[u], []⟩ [(x, u)]) ∧
        ∀ base : Heap, (K w.params).In base → base.Ns mainGlobals mg → FnG l.prog w (K w.params) mg base CX0 k fa fd [x] (sp (K w.params)))
    (hsp : ∀ (K : PySem.W.Frag) (H : Hp) (a : Addr) (ns : List Int), ns.length ≤ n → Only H → SqL K H a (ns.map V.int) → sp K [.ref a] H (fun v _ => v = .bl true) fun _ _ _ => False) :
    PySem.W.WalkO q loose XP YP l.row.toRowW d [] (fun f vs => PySem.call f vs) := by
  refine Att.attach_call hn hdf ?_
  intro w s0 s1 mg mb fa o pm cd doc a vs ns G Y _ _ _ hmg hobj hints hlen hge
  obtain ⟨fd, hb, hF⟩ := F w mg fa _ (hY w _ Y) G.T.g hmg
  exact law_callG (hY w _ Y) G.T.g G.T.b G.T.builtins G.T.nolimit hge hobj hints (Nat.le_trans hlen hn2) hr hF hb fun H hO hS => hsp _ H a ns hlen hO hS
end Fc

set_option Elab.async false
set_option linter.all false
set_option maxRecDepth 100000
set_option maxHeartbeats 4000000
namespace Fc
open PySem L2 PySem.Spec PyProof.Rows
section
variable {X : Cx} {CX : CXT} {k : Nat} {f C : Addr} {fd : FuncData} {ps : List Str} {sp : Sp} {E : XK}
/-- a def's run, deeper in a built-in -/
theorem run_fnA {A : Around} {pins : List (Addr × Obj)} {σ : L2.St} {H : Hp} {s : Shared} {Q : VK} {us : List Value} {vs : List V} (hfr : A.frames = X.A.frames) (F : FnOk X.prog X.w X.K X.mg X.base CX k f fd ps sp) (hr : Room k A)
    (hb : Binds X.K fd ps []) (hx : Passes CX X E) (I : Inv X pins σ H s) (r : Vals vs us) (h : sp vs H Q E) :
    wpAny (model X.prog X.w) A (call (.ref f) us) (EP X pins σ Q) X.xe s := by
  have e := I.env0
  have e0 : Env0 X.prog X.w X.K X.mg X.base A X.stack s H := ⟨hfr.trans e.frames, e.mod, e.bs, e.bsz, e.funs, e.frf, e.hok, e.bare⟩
  have lens : (us ++ ([] : List Value)).length = ps.length := by
    rw [List.append_nil, ← r.length]
    exact F.len _ _ _ _ h
  have bd := hb s us I.kIn lens
  rw [List.append_nil] at bd
  refine wpAny_call (codeAny_mono (F.run A X.stack s H ⟨us, []⟩ us vs Q E hr e0 bd r h) ?_)
  intro res s2 z
  match res, z with
  | .error er, z => exact hx pins σ H s er s2 I z
  | .ok (.ret u), z => exact I.after z
/-- len(o), o of a class with its own __len__ -/
def rLenO (C : Addr) (sp : Sp) (E : XK) : List V → Hp → VK → Prop := fun xs H Q => ∃ (x dx : Addr) (fs : List (Str × V)), xs = [.ref x] ∧ H x = some (.ins C dx fs) ∧
  sp [.ref x] H (fun v H' => ∃ n : Int, v = .int n ∧ 0 ≤ n ∧ n < 2 ^ 63 ∧ Q (.int n) H') E
theorem call_lenO (hs : PySem.W.findIn X.K (.ref C) "__len__" = some (some (.ref f))) (hf : PySem.W.isFn X.K (.ref f) = true) (F : FnOk X.prog X.w X.K X.mg X.base CX k f fd ps sp) (hr : Room (k + 1) X.A)
    (hb : Binds X.K fd ps []) (hx : Passes CX X E) : CallR X (.builtin "len") (rLenO C sp E) := by
  intro pins s σ H xs us Q I r h
  obtain ⟨x, dx, fs, rfl, ex, q⟩ := h
  cases r with
  | cons r1 r2 =>
    cases r2
    cases r1
    obtain ⟨mA, O, _⟩ := ins_get I.hok ex
    obtain ⟨od, J, _⟩ := O.look
    obtain ⟨m, hF⟩ := I.fr
    refine PySem.W.len_K hF I.ok.mod.kin J hs hf (wpAny_mono (run_fnA (A := X.A.in1) (vs := [.ref x]) rfl F hr.in1 hb hx I (.cons rfl .nil) q) ?_ (fun _ _ z => z))
    rintro v s2 ⟨v', H2, I2, rv, n, rfl, n0, n1, q2⟩
    obtain ⟨t, rfl⟩ := rv
    exact ⟨⟨n0, n1⟩, .int n, H2, I2.tok _, ⟨_, rfl⟩, q2⟩
end
end Fc

set_option Elab.async false
set_option linter.all false
set_option maxRecDepth 100000
set_option maxHeartbeats 4000000
namespace Fc
open PySem L2 PySem.Spec PyProof.Rows
section
variable {prog : Program} {w : World} {A : Around} {E : Value → Shared → Prop} {s : Shared} {K : PySem.W.Frag} {x C f : Addr} {ox : Obj} {od : Option Obj}
/-- a special method that is a built-in of object's -/
theorem special_obj {M : Model} {name : Str} {id : String} {args : List Value} {Q : Option Value → Shared → Prop} (X : K.In s.heap) (I : PySem.W.InstAt s.heap x ox C od)
    (hs : PySem.W.findIn K (.ref C) name = some (some (.builtin id))) (hb : ∀ self, bindSpecial (.builtin id) self = pure (.builtin id, [self]))
    (h : wpAny M A (call (.builtin id) (.ref x :: args)) (fun v => Q (some v)) E s) : wpAny M A (callSpecialIfBound? (.ref x) name args) Q E s := by
  have last : wpAny M A (call (.builtin id) ([.ref x] ++ args) >>= fun v => pure (some v)) Q E s :=
    wpAny_bind (wpAny_mono h (fun v s2 z => wpAny_pure z) fun _ _ z => z)
  simp only [callSpecialIfBound?, bindSpecialIfBound?, hb]
  refine wpAny_holding (wpAny_bind (wpAny_bind (wpAny_bind (I.type.here ((PySem.W.looks_findIn X hs).here ?_)))))
  refine wpAny_bind (wpAny_askSetting (wpAny_ite ?_))
  split
  · refine wpAny_bind ?_
    rw [hb]
    exact wpAny_pure (wpAny_pure (by exact last))
  · refine wpAny_tryCatch (wpAny_bind ?_)
    rw [hb]
    exact wpAny_pure (wpAny_pure (by exact last))
/-- object.__ne__ by an own __eq__ -/
theorem ne_body {y : Value} {Q : Fin → Shared → Prop} (hu : A.units < cLine) (X : K.In s.heap) (I : PySem.W.InstAt s.heap x ox C od) (he : PySem.W.findIn K (.ref C) "__eq__" = some (some (.ref f))) (hf : PySem.W.isFn K (.ref f) = true)
    (h : wpAny (model prog w) A (call (.ref f) [.ref x, y]) (fun v s2 => ∃ b, v = .bool b ∧ Q (.done (.ret (.bool (!b)))) s2) E s) :
    wpAny (model prog w) A (Builtin.«object.__ne__» ⟨[.ref x, y], []⟩) Q E s := by
  unfold Builtin.«object.__ne__»
  refine wpAny_bind (wpAny_pure ?_)
  refine wpAny_bind (wpAny_cRoomFor hu ?_)
  refine wpAny_bind (m := callSpecialIfBound? (.ref x) (Str.ofString "__eq__") [y]) (PySem.W.ifBound_K X I he hf (wpAny_mono h ?_ fun _ _ z => z))
  rintro v s2 ⟨b, rfl, q⟩
  exact wpAny_bind (wpAny_truthy_bool (wpAny_pure q))
theorem ne_own {h0 : Heap} {L : Addr} {m : Str → Option Value} {y ty : Value} {Q : Value → Shared → Prop} (hu : A.units + 1 < cLine) (F : Fr h0 L s.heap m) (X0 : K.In h0) (I : PySem.W.InstAt s.heap x ox C od)
    (hty : PySem.W.Looks (model prog w) s.heap (typeOf y) ty) (hn : PySem.W.notFirst K C ty = true) (hne : PySem.W.findIn K (.ref C) "__ne__" = some (some (.builtin "object.__ne__")))
    (he : PySem.W.findIn K (.ref C) "__eq__" = some (some (.ref f))) (hf : PySem.W.isFn K (.ref f) = true) (hm : PySem.W.mroIn K C (.type "object") = some true)
    (h : wpAny (model prog w) A.in1 (call (.ref f) [.ref x, y]) (fun v s2 => ∃ b, v = .bool b ∧ Q (.bool (!b)) s2) E s) :
    wpAny (model prog w) A (richCompare .NotEq (.ref x) y) Q E s := by
  have X := X0.keeps F.keep
  have inst : PySem.W.Looks (model prog w) s.heap (isInstance (.ref x) (.type "object")) true := I.type.andThen (PySem.W.looks_mroIn X hm)
  have one : wpAny (model prog w) A (tryCompare (.ref x) (cmpInfo .NotEq).2.1 y) (fun r s2 => ∃ v, r = some v ∧ Q v s2) E s := by
    unfold tryCompare
    refine wpAny_bind (special_obj X I hne PySem.F.slot_object_ne.bind (wpAny_call (codeAny_call_builtin PySem.F.slot_object_ne.plain PySem.F.cmpEntry_ne (PySem.W.check_slot PySem.F.cmpKind_ne PySem.F.cmpSplit_ne inst (PySem.F.cmpArgs_ne _ _) ?_))))
    refine ne_body (A := A.in1) hu X I he hf (wpAny_mono h ?_ fun _ _ z => z)
    rintro v s2 ⟨b, rfl, q⟩
    exact ⟨b, rfl, wpAny_pure ⟨_, rfl, q⟩⟩
  unfold richCompare
  simp only [oneThing_ref]
  refine wpAny_holding (wpAny_bind (wpAny_cRoomFor (by omega) ?_))
  refine wpAny_bind (I.type.here (wpAny_bind (hty.here ?_)))
  have fin : wpAny (model prog w) A (tryCompare (.ref x) (cmpInfo .NotEq).2.1 y) (fun r s2 => ∃ v, r = some v ∧ Q v s2) E s := one
  split
  · rename_i apart
    have out : PySem.W.subIn K ty (.ref C) = some false := by
      cases Bool.or_eq_true_iff.mp hn with
      | inl z => exact absurd (beq_iff_eq.mp z).symm (by simpa using apart)
      | inr z => exact beq_iff_eq.mp z
    refine wpAny_bind ((PySem.W.looks_subIn X out).here ?_)
    simp only [Bool.false_eq_true, if_false]
    refine wpAny_bind (wpAny_mono fin ?_ fun _ _ z => z)
    rintro r s2 ⟨v, rfl, hq⟩
    exact wpAny_pure hq
  · refine wpAny_bind (wpAny_pure ?_)
    simp only [Bool.false_eq_true, if_false]
    refine wpAny_bind (wpAny_mono fin ?_ fun _ _ z => z)
    rintro r s2 ⟨v, rfl, hq⟩
    exact wpAny_pure hq
end
section
variable {X : Cx} {CX : CXT} {k : Nat} {f C : Addr} {fd : FuncData} {ps : List Str} {sp : Sp} {E : XK}
/-- o == y by an own __eq__ that answers with a truth -/
def rEqO (K : PySem.W.Frag) (C : Addr) (sp : Sp) (E : XK) (neg : Bool) : R2 := fun x y H Q => ∃ (a dx : Addr) (fs : List (Str × V)) (t : Value), x = .ref a ∧ H a = some (.ins C dx fs) ∧ TyX K H y t ∧ PySem.W.notFirst K C t = true ∧
  sp [.ref a, y] H (fun v H' => ∃ b : Bool, v = .bl b ∧ Q (.bl (if neg then !b else b)) H') E
theorem op_eqO {K : PySem.W.Frag} (hK : X.K = K) (hs : PySem.W.findIn X.K (.ref C) "__eq__" = some (some (.ref f))) (hf : PySem.W.isFn X.K (.ref f) = true) (F : FnOk X.prog X.w X.K X.mg X.base CX k f fd ps sp) (hr : Room k X.A)
    (hb : Binds X.K fd ps []) (hx : Passes CX X E) : OpR X (compareOp .Eq) (rEqO K C sp E false) := by
  subst hK
  intro pins s σ H x y u v Q I rx ry h
  obtain ⟨a, dx, fs, t, rfl, ea, ty, hn, q⟩ := h
  cases rx
  obtain ⟨mA, O, _⟩ := ins_get I.hok ea
  obtain ⟨od, J, _⟩ := O.look
  obtain ⟨m, hF⟩ := I.fr
  obtain ⟨P, Z, p, _⟩ := kit_of I ry ty
  show wpAny (model X.prog X.w) X.A (richCompare .Eq (.ref a) v) (EP X pins σ Q) X.xe s
  refine PySem.W.cmp_K (op := .Eq) hr.units0 hF I.ok.mod.kin J (Z.ty _ _ I.kIn p) hn hs hf (wpAny_mono (run_fnA (A := X.A) (vs := [.ref a, y]) rfl F hr hb hx I (.cons rfl (.cons ry .nil)) q) ?_ (fun _ _ z => z))
  rintro r s2 ⟨r', H2, I2, rr, b, rfl, q2⟩
  cases rr
  exact ⟨.bl b, H2, I2, rfl, q2⟩
theorem op_neO {K : PySem.W.Frag} (hK : X.K = K) (hne : PySem.W.findIn X.K (.ref C) "__ne__" = some (some (.builtin "object.__ne__"))) (hm : PySem.W.mroIn X.K C (.type "object") = some true)
    (hs : PySem.W.findIn X.K (.ref C) "__eq__" = some (some (.ref f))) (hf : PySem.W.isFn X.K (.ref f) = true) (F : FnOk X.prog X.w X.K X.mg X.base CX k f fd ps sp) (hr : Room (k + 1) X.A)
    (hb : Binds X.K fd ps []) (hx : Passes CX X E) : OpR X (compareOp .NotEq) (rEqO K C sp E true) := by
  subst hK
  intro pins s σ H x y u v Q I rx ry h
  obtain ⟨a, dx, fs, t, rfl, ea, ty, hn, q⟩ := h
  cases rx
  obtain ⟨mA, O, _⟩ := ins_get I.hok ea
  obtain ⟨od, J, _⟩ := O.look
  obtain ⟨m, hF⟩ := I.fr
  obtain ⟨P, Z, p, _⟩ := kit_of I ry ty
  show wpAny (model X.prog X.w) X.A (richCompare .NotEq (.ref a) v) (EP X pins σ Q) X.xe s
  refine ne_own (hu_of hr) hF I.ok.mod.kin J (Z.ty _ _ I.kIn p) hn hne hs hf hm (wpAny_mono (run_fnA (A := X.A.in1) (vs := [.ref a, y]) rfl F hr.in1 hb hx I (.cons rfl (.cons ry .nil)) q) ?_ (fun _ _ z => z))
  rintro r s2 ⟨r', H2, I2, rr, b, rfl, q2⟩
  cases rr
  exact ⟨b, rfl, .bl (!b), H2, I2, rfl, q2⟩
end
theorem kit_self {K : PySem.W.Frag} {C : Addr} : PySem.W.kitOne K (.ref C) (.ref C) = some true := if_pos (beq_self_eq_true _)
theorem kit_own {K : PySem.W.Frag} {C : Addr} {T : String} {b : Bool} (h : PySem.W.isClsIn K C = true) (ht : PySem.W.typeIn K (.ref C) = some (.type "type")) (hs : PySem.W.subIn K (.type T) (.ref C) = some b) : PySem.W.kitOne K (.type T) (.ref C) = some b := by
  have e : PySem.W.kitCls K (.type T) (.ref C) = some b := by
    unfold PySem.W.kitCls
    dsimp only
    rw [if_pos (by
      rw [ht, Bool.and_eq_true]
      exact ⟨h, beq_self_eq_true _⟩)]
    exact hs
  refine (if_neg ?_).trans e
  rw [beq_iff_eq]
  exact fun z => nomatch z
end Fc

set_option Elab.async false
set_option linter.all false
set_option maxRecDepth 100000
set_option maxHeartbeats 4000000
namespace Fc
open PySem L2
/-! ### the text by places -/
def top (i : Nat) : Stmt := PySem.Challenge.pw_farcalls_k28_wires_alike.main.body.getD i (.Pass ⟨0, 0, 0, 0⟩)
abbrev s_NoLetter_init : Stmt := inClass (top 2) 0
abbrev N_NoLetter_init : List Str := ["self", "asked"]
theorem sc_NoLetter_init : FnScope N_NoLetter_init ["self", "asked"] (defScope s_NoLetter_init) := ⟨rfl, rfl, rfl, by decide +kernel, rfl, by decide +kernel, by decide +kernel⟩
abbrev s_is_whole : Stmt := top 4
abbrev N_is_whole : List Str := ["thing"]
theorem sc_is_whole : FnScope N_is_whole ["thing"] (defScope s_is_whole) := ⟨rfl, rfl, rfl, by decide +kernel, rfl, by decide +kernel, by decide +kernel⟩
abbrev s_is_count : Stmt := top 7
abbrev N_is_count : List Str := ["thing"]
theorem sc_is_count : FnScope N_is_count ["thing"] (defScope s_is_count) := ⟨rfl, rfl, rfl, by decide +kernel, rfl, by decide +kernel, by decide +kernel⟩
abbrev s_is_letter : Stmt := top 8
abbrev N_is_letter : List Str := ["thing", "word", "first", "rows", "heard", "row"]
theorem sc_is_letter : FnScope N_is_letter ["thing"] (defScope s_is_letter) := ⟨rfl, rfl, rfl, by decide +kernel, rfl, by decide +kernel, by decide +kernel⟩
abbrev s_Wire_init : Stmt := inClass (top 9) 0
abbrev N_Wire_init : List Str := ["self"]
theorem sc_Wire_init : FnScope N_Wire_init ["self"] (defScope s_Wire_init) := ⟨rfl, rfl, rfl, by decide +kernel, rfl, by decide +kernel, by decide +kernel⟩
abbrev s_Wire_eq : Stmt := inClass (top 9) 1
abbrev N_Wire_eq : List Str := ["self", "other"]
theorem sc_Wire_eq : FnScope N_Wire_eq ["self", "other"] (defScope s_Wire_eq) := ⟨rfl, rfl, rfl, by decide +kernel, rfl, by decide +kernel, by decide +kernel⟩
abbrev s_Wire_len : Stmt := inClass (top 9) 2
abbrev N_Wire_len : List Str := ["self"]
theorem sc_Wire_len : FnScope N_Wire_len ["self"] (defScope s_Wire_len) := ⟨rfl, rfl, rfl, by decide +kernel, rfl, by decide +kernel, by decide +kernel⟩
abbrev s_Wire_put : Stmt := inClass (top 9) 3
abbrev N_Wire_put : List Str := ["self", "row"]
theorem sc_Wire_put : FnScope N_Wire_put ["self", "row"] (defScope s_Wire_put) := ⟨rfl, rfl, rfl, by decide +kernel, rfl, by decide +kernel, by decide +kernel⟩
abbrev s_Wire_letter : Stmt := inClass (top 9) 4
abbrev N_Wire_letter : List Str := ["self"]
theorem sc_Wire_letter : FnScope N_Wire_letter ["self"] (defScope s_Wire_letter) := ⟨rfl, rfl, rfl, by decide +kernel, rfl, by decide +kernel, by decide +kernel⟩
abbrev s_Wire_take : Stmt := inClass (top 9) 5
abbrev N_Wire_take : List Str := ["self", "letter", "word", "first", "rows", "heard", "found"]
theorem sc_Wire_take : FnScope N_Wire_take ["self", "letter"] (defScope s_Wire_take) := ⟨rfl, rfl, rfl, by decide +kernel, rfl, by decide +kernel, by decide +kernel⟩
abbrev s_Wire_heard : Stmt := inClass (top 9) 7
abbrev N_Wire_heard : List Str := ["self"]
theorem sc_Wire_heard : FnScope N_Wire_heard ["self"] (defScope s_Wire_heard) := ⟨rfl, rfl, rfl, by decide +kernel, rfl, by decide +kernel, by decide +kernel⟩
abbrev s_l_pen : Stmt := top 11
abbrev N_l_pen : List Str := ["_law_script"]
theorem sc_l_pen : FnScope N_l_pen ["_law_script"] (defScope s_l_pen) := ⟨rfl, rfl, rfl, by decide +kernel, rfl, by decide +kernel, by decide +kernel⟩
abbrev s_l_draw : Stmt := top 12
abbrev N_l_draw : List Str := ["_law_pen_here", "_law_many", "_law_digit", "_law_at", "_law_cell", "_law_number"]
theorem sc_l_draw : FnScope N_l_draw ["_law_pen_here", "_law_many"] (defScope s_l_draw) := ⟨rfl, rfl, rfl, by decide +kernel, rfl, by decide +kernel, by decide +kernel⟩
abbrev s_l_pick : Stmt := top 13
abbrev N_l_pick : List Str := ["_law_pen_here", "_law_some"]
theorem sc_l_pick : FnScope N_l_pick ["_law_pen_here", "_law_some"] (defScope s_l_pick) := ⟨rfl, rfl, rfl, by decide +kernel, rfl, by decide +kernel, by decide +kernel⟩
abbrev s_l_plain : Stmt := top 14
abbrev N_l_plain : List Str := ["_law_pen_here", "_law_some"]
theorem sc_l_plain : FnScope N_l_plain ["_law_pen_here"] (defScope s_l_plain) := ⟨rfl, rfl, rfl, by decide +kernel, rfl, by decide +kernel, by decide +kernel⟩
abbrev s_l_row_of : Stmt := top 15
abbrev N_l_row_of : List Str := ["_law_pen_here", "_law_k"]
theorem sc_l_row_of : FnScope N_l_row_of ["_law_pen_here"] (defScope s_l_row_of) := ⟨rfl, rfl, rfl, by decide +kernel, rfl, by decide +kernel, by decide +kernel⟩
abbrev s_l_made : Stmt := top 16
abbrev N_l_made : List Str := ["_law_pen_here", "_law_placed", "_law_taken", "_law_known", "_law_wire", "_law_at_once", "_law_k"]
theorem sc_l_made : FnScope N_l_made ["_law_pen_here", "_law_placed", "_law_taken", "_law_known"] (defScope s_l_made) := ⟨rfl, rfl, rfl, by decide +kernel, rfl, by decide +kernel, by decide +kernel⟩
abbrev s_law : Stmt := top 17
abbrev N_law : List Str := ["_law_script", "_law_pen_here", "_law_bout", "_law_placed", "_law_k", "_law_taken", "_law_known", "_law_one", "_law_others", "_law_row", "_law_more", "_law_came", "_law_heard", "_law_other", "_law_due", "_law_found"]
theorem sc_law : FnScope N_law ["_law_script"] (defScope s_law) := ⟨rfl, rfl, rfl, by decide +kernel, rfl, by decide +kernel, by decide +kernel⟩
end Fc

set_option Elab.async false
set_option linter.all false
set_option maxRecDepth 100000
set_option maxHeartbeats 4000000
namespace Fc
open PySem L2
/-! ### a def as the top has left it; the built-ins that are the built-ins -/
structure De (K : PySem.W.Frag) (mg : Str → Option Value) (x : Str) (st : Stmt) (ps : List Str) (f : Addr) (fd : FuncData) : Prop where
  F : Fun K x x st f fd
  b : Binds K fd ps []
  g : mg x = some (.ref f)
structure Bl (mg : Str → Option Value) : Prop where
  b_len : mg "len" = none
  b_isinstance : mg "isinstance" = none
  b_int : mg "int" = none
  b_bool : mg "bool" = none
  b_str : mg "str" = none
  b_list : mg "list" = none
  b_tuple : mg "tuple" = none
  b_range : mg "range" = none
  b_abs : mg "abs" = none
  b_min : mg "min" = none
  b_max : mg "max" = none
  b_all : mg "all" = none
  b_repr : mg "repr" = none
  b_dict : mg "dict" = none

/-! ### the pen -/
abbrev kS (x : Str) : Key := Sum.inr x
def penKv (c : Addr) (a l : Int) : List (Key × V) := [(kS "cells", .ref c), (kS "at", .int a), (kS "left", .int l)]
theorem n_ca : ¬ (kS "cells" = kS "at") := by decide +kernel
theorem n_cl : ¬ (kS "cells" = kS "left") := by decide +kernel
theorem n_al : ¬ (kS "at" = kS "left") := by decide +kernel
theorem pen_cells {c : Addr} {a l : Int} : valV (penKv c a l) (kS "cells") = some (.ref c) := valV_pos rfl
theorem pen_at {c : Addr} {a l : Int} : valV (penKv c a l) (kS "at") = some (.int a) := by
  unfold penKv
  rw [valV_neg n_ca, valV_pos rfl]
theorem pen_left {c : Addr} {a l : Int} : valV (penKv c a l) (kS "left") = some (.int l) := by
  unfold penKv
  rw [valV_neg n_cl, valV_neg n_al, valV_pos rfl]
theorem putK_old {κ : Type} [DecidableEq κ] {kvs : List (κ × V)} {k : κ} {v : V} (h : (valV kvs k).isSome = true) : putK kvs k v = kvs.map fun kv => if kv.1 = k then (kv.1, v) else kv := by
  unfold putK
  rw [valV_any, if_pos h]
theorem pen_setAt {c : Addr} {a l z : Int} : putK (penKv c a l) (kS "at") (.int z) = penKv c z l := by
  rw [putK_old (by rw [pen_at]; rfl)]
  unfold penKv
  rw [List.map_cons, List.map_cons, List.map_cons, List.map_nil, if_neg n_ca, if_pos rfl, if_neg (fun e => n_al e.symm)]
theorem pen_setLeft {c : Addr} {a l z : Int} : putK (penKv c a l) (kS "left") (.int z) = penKv c a z := by
  rw [putK_old (by rw [pen_left]; rfl)]
  unfold penKv
  rw [List.map_cons, List.map_cons, List.map_cons, List.map_nil, if_neg n_cl, if_neg n_al, if_pos rfl]
/-- what stands at a pen -/
structure Pen where
  c : Addr
  a : Int
  l : Int
  ns : List Int
def Pen.os (z : Pen) (p : Addr) : List (Addr × HO) := [(p, .dK (penKv z.c z.a z.l)), (z.c, .lst (z.ns.map V.int))]
structure Pen.Ok (z : Pen) (m : Nat) : Prop where
  a0 : 0 ≤ z.a
  am : z.a ≤ m
  l0 : 0 ≤ z.l
theorem Pen.Ok.mono {z : Pen} {m n : Nat} (h : z.Ok m) (hn : m ≤ n) : z.Ok n := ⟨h.a0, by have := h.am; omega, h.l0⟩
/-- at most so many draws are begun in all -/
abbrev lim : Nat := 2 ^ 40

def spPen (K : PySem.W.Frag) : Sp := fun vs H Q _ => ∃ (a : Addr) (ns : List Int) (R : List (Addr × HO)), vs = [.ref a] ∧ SqL K H a (ns.map V.int) ∧ Has H R ∧
  ∀ (p : Addr) (z : Pen) (H' : Hp), Has H' (z.os p ++ R) → z.Ok 0 → Tk H H' → Q (.ref p) H'
def spDraw : Sp := fun vs H Q _ => ∃ (p : Addr) (n : Int) (z : Pen) (m : Nat) (R : List (Addr × HO)), vs = [.ref p, .int n] ∧ 0 < n ∧ n < 1073741824 ∧ Has H (z.os p ++ R) ∧ z.Ok m ∧ m < lim ∧
  ∀ (d : Int) (z' : Pen) (H' : Hp), 0 ≤ d → d < n → Has H' (z'.os p ++ R) → z'.Ok (m + 1) → Tk H H' → Q (.int d) H'

section
variable {P : Program} {w : World} {K : PySem.W.Frag} {mg : Str → Option Value} {base : Heap}

theorem eqv_ints_nil (ns : List Int) : PyData.eqv (.list (ns.map .int)) (.list []) = ns.isEmpty := by
  cases ns <;> rfl
theorem dpAll_ints {K : PySem.W.Frag} {H : Hp} : ∀ ns : List Int, DpAll K H (ns.map V.int) (ns.map PyData.int)
  | [] => .nil
  | n :: ns => .cons (.int n) (dpAll_ints ns)
theorem gd_ints : ∀ ns : List Int, PyData.canLayAll0 (ns.map PyData.int) = true ∧ PyData.depthAll (ns.map PyData.int) = 0
  | [] => ⟨rfl, rfl⟩
  | n :: ns => by
    obtain ⟨h1, h2⟩ := gd_ints ns
    refine ⟨?_, ?_⟩
    · rw [List.map_cons]
      simp only [PyData.canLayAll0, PyData.canLay0, h1, Bool.and_self]
    · rw [List.map_cons]
      simp only [PyData.depthAll, PyData.depth, h2]
      rfl
theorem shaped_ints (ns : List Int) : SeqAt.shaped (.list (ns.map PyData.int)) = true := by
  obtain ⟨h1, h2⟩ := gd_ints ns
  unfold SeqAt.shaped
  simp only [PyData.canLay0, PyData.depth, h1, h2]
  rfl

theorem cmul_fmod {x b j : Int} (h0 : 0 < b) (h1 : b < 2 ^ 64) : CMul (x.fmod b) j := by
  have h2 := Int.fmod_nonneg_of_pos x h0
  have h3 := Int.fmod_lt_of_pos x h0
  exact .inl ⟨by omega, by omega⟩

theorem ok_l_draw {f : Addr} {fd : FuncData} (D : De K mg "_law_draw" s_l_draw ["_law_pen_here", "_law_many"] f fd) (B : Bl mg) : FnOk P w K mg base CX0 1 f fd ["_law_pen_here", "_law_many"] spDraw := by
  refine D.F.ok sc_l_draw (fun vs H Q E h => ?_) (fun cdv A outer s H vs Q E hr h => ?_)
  · obtain ⟨p, n, z, m, R, rfl, _⟩ := h
    rfl
  · obtain ⟨p, n, z, m, R, rfl, n0, n1, hh, zo, hm, k⟩ := h
    have hu := hu_of hr
    refine ⟨_, (pss_cons (ps_if (pt_cmpR op_gt (pe_dget hu (pv 0) pe_str (fun _ _ => rfl)) pe_int (nomark _))
        (pss_cons (ps_set (i := 2) sc_l_draw.nd rfl (Or.inl rfl) (pe_op op_modN (pe_dget hu (pv 0) pe_str (fun _ _ => rfl)) (pv 1)))
        (pss_cons (ps_dput hu (pv 0) pe_str (pe_op op_fdivN (pe_dget hu (pv 0) pe_str (fun _ _ => rfl)) (pv 1)) rfl)
        (pss_one (ps_ret (pv 2)))))
        pss_nil)
      (pss_cons (ps_set (i := 3) sc_l_draw.nd rfl (Or.inl rfl) (pe_dget hu (pv 0) pe_str (fun _ _ => rfl)))
      (pss_cons (ps_dput hu (pv 0) pe_str (pe_op op_add (pv 3) pe_int) rfl)
      (pss_cons (ps_set (i := 4) sc_l_draw.nd rfl (Or.inl rfl) pe_int)
      (pss_cons (ps_if (pt_cmpR (op_neE (K := K) rfl hr.units) (pe_dget hu (pv 0) pe_str (fun _ _ => rfl)) (pe_lst pa_nil) (nomark _))
        (pss_one (ps_set (i := 4) sc_l_draw.nd rfl (Or.inl rfl) (pe_ix (ix_listE (K := K) rfl) (pe_dget hu (pv 0) pe_str (fun _ _ => rfl)) (pe_op op_modN (pv 3) (pe_callB (call_lenE (K := K) rfl) (by rfl) B.b_len (by decide +kernel) (pa_cons (pe_dget hu (pv 0) pe_str (fun _ _ => rfl)) pa_nil))) (fun _ _ => rfl))))
        pss_nil)
      (pss_cons (ps_if (PW.pt (pw_and (pt_cmpR op_lt (pv 3) (pe_callB (call_lenE (K := K) rfl) (by rfl) B.b_len (by decide +kernel) (pa_cons (pe_dget hu (pv 0) pe_str (fun _ _ => rfl)) pa_nil)) (nomark _)) (pw_and1 (pt_cmpR op_ge (pe_callB call_abs (by rfl) B.b_abs (by decide +kernel) (pa_cons (pv 4) pa_nil)) (pe_op op_pow pe_int pe_int) (nomark _)))))
        (pss_cons (ps_dput hu (pv 0) pe_str (pe_op op_fdivN (pe_op op_sub (pe_callB call_abs (by rfl) B.b_abs (by decide +kernel) (pa_cons (pv 4) pa_nil)) (pe_op op_pow pe_int pe_int)) (pv 1)) rfl)
        (pss_one (ps_ret (pe_op op_modN (pe_op op_sub (pe_callB call_abs (by rfl) B.b_abs (by decide +kernel) (pa_cons (pv 4) pa_nil)) (pe_op op_pow pe_int pe_int)) (pv 1)))))
        pss_nil)
      (pss_cons (ps_set (i := 5) sc_l_draw.nd rfl (Or.inl rfl) (pe_op op_add (pe_op op_add (pe_op op_add (pe_op op_modN (pv 4) pe_int) (pe_op op_mul (pe_op op_mul pe_int (pv 3)) (pv 3))) (pe_op op_mul pe_int (pv 3))) pe_int))
      (pss_cons (ps_set (i := 5) sc_l_draw.nd rfl (Or.inl rfl) (pe_op op_modN (pe_op op_mul (pv 5) pe_int) pe_int))
      (pss_cons (ps_set (i := 5) sc_l_draw.nd rfl (Or.inl rfl) (pe_op op_modN (pe_op op_add (pe_op op_add (pe_op op_mul (pv 5) (pv 5)) (pe_op op_mul pe_int (pv 5))) (pv 3)) pe_int))
      (pss_one (ps_ret (pe_op op_modN (pe_op op_fdivN (pe_op op_modN (pe_op op_mul (pv 5) (pe_op op_add (pv 5) pe_int)) pe_int) pe_int) (pv 1))))))))))))), ?_⟩
    obtain ⟨c, a, l, ns⟩ := z
    obtain ⟨a0, am, l0⟩ := zo
    dsimp only at a0 am l0
    have hp : H p = some (.dK (penKv c a l)) := hh.at 0 rfl
    have hc : H c = some (.lst (ns.map V.int)) := hh.at 1 rfl
    have hm' : m < 1099511627776 := hm
    -- if pen['left'] > 0
    refine ⟨_, rfl, p, _, rfl, pen_left ▸ DGet.k (k := kS "left") hp, _, _, rfl, rfl, _, rfl, ?_⟩
    refine ite2 (fun hl => ?_) (fun hl => ?_)
    · refine ⟨_, rfl, p, _, rfl, pen_left ▸ DGet.k (k := kS "left") hp, _, rfl, _, _, rfl, rfl, (by omega), ?_⟩
      refine ⟨_, rfl, p, _, rfl, pen_left ▸ DGet.k (k := kS "left") hp, _, rfl, _, _, rfl, rfl, ⟨by omega, by omega⟩, _, rfl, p, _, rfl, DPut.k (k := kS "left") hp (by show 3 < sizeLine; decide), ?_⟩
      rw [pen_setLeft]
      have hd0 : 0 ≤ l.fdiv n := Int.fdiv_nonneg l0 (by omega)
      exact ⟨_, rfl, k _ ⟨c, a, l.fdiv n, ns⟩ _ (Int.fmod_nonneg_of_pos _ n0) (Int.fmod_lt_of_pos _ n0) (Has.put (os := (c, _) :: R) hh) ⟨a0, by dsimp only; omega, hd0⟩ (Tk.dK hp)⟩
    · refine ⟨_, rfl, p, _, rfl, pen_at ▸ DGet.k (k := kS "at") hp, ?_⟩
      refine ⟨_, rfl, _, _, rfl, rfl, _, rfl, p, _, rfl, DPut.k (k := kS "at") hp (by show 3 < sizeLine; decide), ?_⟩
      rw [pen_setAt]
      have h1 : Has _ ((p, .dK (penKv c (a + 1) l)) :: (c, .lst (ns.map V.int)) :: R) := Has.put (os := (c, _) :: R) hh
      have k1 : Tk H _ := Tk.dK (u := .dK (penKv c (a + 1) l)) hp
      -- if pen['cells'] != []
      refine ⟨_, rfl, p, _, rfl, pen_cells ▸ DGet.k (k := kS "cells") (h1.at 0 rfl), (by show 0 ≤ sizeLine; decide), fun q hq => ?_⟩
      have h2 := h1.over (o := .lst []) hq
      have h2' := h1.new (o := .lst []) hq
      have k2 : Tk H _ := k1.trans (Tk.new (o := .lst []) hq)
      have hp2 := h2.at 0 rfl
      have hc2 := h2.at 1 rfl
      refine ⟨.list (ns.map .int), .list [], .lst (SqL.of hc2) (dpAll_ints ns), .lst (SqL.of (h2'.at 0 rfl)) .nil, shaped_ints ns, rfl, _, rfl, ?_⟩
      rw [eqv_ints_nil]
      clear hp hc h1 k1 hh h2'
      refine ite2 (fun he => ?_) (fun he => ?_)
      · have hne : 0 < ns.length := by
          cases ns with
          | nil => cases he
          | cons x xs => exact Nat.succ_pos _
        have hb0 := Int.fmod_nonneg_of_pos a (b := (ns.length : Int)) (by omega)
        have hb1 := Int.fmod_lt_of_pos a (b := (ns.length : Int)) (by omega)
        obtain ⟨x, hx⟩ : ∃ x, ns[(a.fmod (ns.length : Int)).toNat]? = some x := ⟨_, List.getElem?_eq_getElem (by omega)⟩
        have hat : atI (ns.map V.int) (a.fmod (ns.length : Int)) = some (.int x) := by
          unfold atI ixN
          rw [List.length_map, if_pos hb0, if_pos hb1]
          show (ns.map V.int)[(a.fmod (ns.length : Int)).toNat]? = some (.int x)
          rw [List.getElem?_map, hx]
          rfl
        refine ⟨_, rfl, p, _, rfl, pen_cells ▸ DGet.k (k := kS "cells") hp2, _, rfl, _, rfl, p, _, rfl, pen_cells ▸ DGet.k (k := kS "cells") hp2, c, _, rfl, .inl (SqL.of hc2), ?_⟩
        rw [List.length_map]
        refine ⟨_, _, rfl, rfl, (by omega), c, _, _, _, rfl, rfl, SqL.of hc2, hat, ?_⟩
        clear hb0 hb1 hx hat
        -- if at < len(pen['cells']) and abs(cell) >= 10 ** 18
        refine ⟨_, rfl, _, rfl, p, _, rfl, pen_cells ▸ DGet.k (k := kS "cells") hp2, c, _, rfl, .inl (SqL.of hc2), ?_⟩
        rw [List.length_map]
        refine ⟨_, _, rfl, rfl, _, rfl, ?_⟩
        refine ite2 (fun h5 => ?_) (fun h5 => ?_)
        · refine ⟨_, rfl, _, rfl, _, _, rfl, rfl, ⟨by decide, by decide, by decide⟩, _, _, rfl, rfl, _, rfl, ?_⟩
          refine ite2 (fun h6 => ?_) (fun h6 => ?_)
          · rw [decide_eq_true_eq] at h6
            refine ⟨_, rfl, _, rfl, _, _, rfl, rfl, ⟨by decide, by decide, by decide⟩, _, _, rfl, rfl, _, rfl, _, _, rfl, rfl, ⟨by omega, by omega⟩, _, rfl, p, _, rfl, DPut.k (k := kS "left") hp2 (by show 3 < sizeLine; decide), ?_⟩
            rw [pen_setLeft]
            refine ⟨_, rfl, _, rfl, _, _, rfl, rfl, ⟨by decide, by decide, by decide⟩, _, _, rfl, rfl, _, rfl, _, _, rfl, rfl, (by omega), ?_⟩
            have hl2 := Int.fdiv_nonneg (Int.sub_nonneg_of_le h6) (Int.le_of_lt n0)
            exact k _ ⟨c, a + 1, _, ns⟩ _ (Int.fmod_nonneg_of_pos _ n0) (Int.fmod_lt_of_pos _ n0) (Has.put (os := (c, _) :: R) h2) ⟨by dsimp only; omega, by dsimp only; omega, hl2⟩ (k2.trans (Tk.dK hp2))
          · refine ⟨_, rfl, _, _, rfl, rfl, (by show (_ : Int) ≠ 0; decide), _, rfl, _, _, rfl, rfl, .inl ⟨by decide, by decide⟩, _, rfl, _, _, rfl, rfl, .inr ⟨by omega, by omega⟩, _, _, rfl, rfl, _, rfl, _, _, rfl, rfl, .inl ⟨by decide, by decide⟩, _, _, rfl, rfl, _, _, rfl, rfl, ?_⟩
            refine ⟨_, rfl, _, _, rfl, rfl, .inr ⟨by decide, by decide⟩, _, _, rfl, rfl, (by show (_ : Int) ≠ 0; decide), ?_⟩
            refine ⟨_, rfl, _, rfl, _, _, rfl, rfl, cmul_fmod (by decide) (by decide), _, rfl, _, _, rfl, rfl, .inl ⟨by decide, by decide⟩, _, _, rfl, rfl, _, rfl, _, _, rfl, rfl, _, _, rfl, rfl, (by show (_ : Int) ≠ 0; decide), ?_⟩
            refine ⟨_, rfl, _, rfl, _, _, rfl, rfl, _, _, rfl, rfl, cmul_fmod (by decide) (by decide), _, _, rfl, rfl, (by show (_ : Int) ≠ 0; decide), _, _, rfl, rfl, ⟨by decide, by decide⟩, _, rfl, _, _, rfl, rfl, (by omega), ?_⟩
            exact k _ ⟨c, a + 1, l, ns⟩ _ (Int.fmod_nonneg_of_pos _ n0) (Int.fmod_lt_of_pos _ n0) h2 ⟨by dsimp only; omega, by dsimp only; omega, l0⟩ k2
        · refine iteF ?_
          refine ⟨_, rfl, _, _, rfl, rfl, (by show (_ : Int) ≠ 0; decide), _, rfl, _, _, rfl, rfl, .inl ⟨by decide, by decide⟩, _, rfl, _, _, rfl, rfl, .inr ⟨by omega, by omega⟩, _, _, rfl, rfl, _, rfl, _, _, rfl, rfl, .inl ⟨by decide, by decide⟩, _, _, rfl, rfl, _, _, rfl, rfl, ?_⟩
          refine ⟨_, rfl, _, _, rfl, rfl, .inr ⟨by decide, by decide⟩, _, _, rfl, rfl, (by show (_ : Int) ≠ 0; decide), ?_⟩
          refine ⟨_, rfl, _, rfl, _, _, rfl, rfl, cmul_fmod (by decide) (by decide), _, rfl, _, _, rfl, rfl, .inl ⟨by decide, by decide⟩, _, _, rfl, rfl, _, rfl, _, _, rfl, rfl, _, _, rfl, rfl, (by show (_ : Int) ≠ 0; decide), ?_⟩
          refine ⟨_, rfl, _, rfl, _, _, rfl, rfl, _, _, rfl, rfl, cmul_fmod (by decide) (by decide), _, _, rfl, rfl, (by show (_ : Int) ≠ 0; decide), _, _, rfl, rfl, ⟨by decide, by decide⟩, _, rfl, _, _, rfl, rfl, (by omega), ?_⟩
          exact k _ ⟨c, a + 1, l, ns⟩ _ (Int.fmod_nonneg_of_pos _ n0) (Int.fmod_lt_of_pos _ n0) h2 ⟨by dsimp only; omega, by dsimp only; omega, l0⟩ k2
      · -- if at < len(pen['cells']) and abs(cell) >= 10 ** 18
        refine ⟨_, rfl, _, rfl, p, _, rfl, pen_cells ▸ DGet.k (k := kS "cells") hp2, c, _, rfl, .inl (SqL.of hc2), ?_⟩
        rw [List.length_map]
        refine ⟨_, _, rfl, rfl, _, rfl, ?_⟩
        refine ite2 (fun h5 => ?_) (fun h5 => ?_)
        · refine ⟨_, rfl, _, rfl, _, _, rfl, rfl, ⟨by decide, by decide, by decide⟩, _, _, rfl, rfl, _, rfl, ?_⟩
          refine ite2 (fun h6 => ?_) (fun h6 => ?_)
          · rw [decide_eq_true_eq] at h6
            refine ⟨_, rfl, _, rfl, _, _, rfl, rfl, ⟨by decide, by decide, by decide⟩, _, _, rfl, rfl, _, rfl, _, _, rfl, rfl, ⟨by omega, by omega⟩, _, rfl, p, _, rfl, DPut.k (k := kS "left") hp2 (by show 3 < sizeLine; decide), ?_⟩
            rw [pen_setLeft]
            refine ⟨_, rfl, _, rfl, _, _, rfl, rfl, ⟨by decide, by decide, by decide⟩, _, _, rfl, rfl, _, rfl, _, _, rfl, rfl, (by omega), ?_⟩
            have hl2 := Int.fdiv_nonneg (Int.sub_nonneg_of_le h6) (Int.le_of_lt n0)
            exact k _ ⟨c, a + 1, _, ns⟩ _ (Int.fmod_nonneg_of_pos _ n0) (Int.fmod_lt_of_pos _ n0) (Has.put (os := (c, _) :: R) h2) ⟨by dsimp only; omega, by dsimp only; omega, hl2⟩ (k2.trans (Tk.dK hp2))
          · refine ⟨_, rfl, _, _, rfl, rfl, (by show (_ : Int) ≠ 0; decide), _, rfl, _, _, rfl, rfl, .inl ⟨by decide, by decide⟩, _, rfl, _, _, rfl, rfl, .inr ⟨by omega, by omega⟩, _, _, rfl, rfl, _, rfl, _, _, rfl, rfl, .inl ⟨by decide, by decide⟩, _, _, rfl, rfl, _, _, rfl, rfl, ?_⟩
            refine ⟨_, rfl, _, _, rfl, rfl, .inr ⟨by decide, by decide⟩, _, _, rfl, rfl, (by show (_ : Int) ≠ 0; decide), ?_⟩
            refine ⟨_, rfl, _, rfl, _, _, rfl, rfl, cmul_fmod (by decide) (by decide), _, rfl, _, _, rfl, rfl, .inl ⟨by decide, by decide⟩, _, _, rfl, rfl, _, rfl, _, _, rfl, rfl, _, _, rfl, rfl, (by show (_ : Int) ≠ 0; decide), ?_⟩
            refine ⟨_, rfl, _, rfl, _, _, rfl, rfl, _, _, rfl, rfl, cmul_fmod (by decide) (by decide), _, _, rfl, rfl, (by show (_ : Int) ≠ 0; decide), _, _, rfl, rfl, ⟨by decide, by decide⟩, _, rfl, _, _, rfl, rfl, (by omega), ?_⟩
            exact k _ ⟨c, a + 1, l, ns⟩ _ (Int.fmod_nonneg_of_pos _ n0) (Int.fmod_lt_of_pos _ n0) h2 ⟨by dsimp only; omega, by dsimp only; omega, l0⟩ k2
        · refine iteF ?_
          refine ⟨_, rfl, _, _, rfl, rfl, (by show (_ : Int) ≠ 0; decide), _, rfl, _, _, rfl, rfl, .inl ⟨by decide, by decide⟩, _, rfl, _, _, rfl, rfl, .inr ⟨by omega, by omega⟩, _, _, rfl, rfl, _, rfl, _, _, rfl, rfl, .inl ⟨by decide, by decide⟩, _, _, rfl, rfl, _, _, rfl, rfl, ?_⟩
          refine ⟨_, rfl, _, _, rfl, rfl, .inr ⟨by decide, by decide⟩, _, _, rfl, rfl, (by show (_ : Int) ≠ 0; decide), ?_⟩
          refine ⟨_, rfl, _, rfl, _, _, rfl, rfl, cmul_fmod (by decide) (by decide), _, rfl, _, _, rfl, rfl, .inl ⟨by decide, by decide⟩, _, _, rfl, rfl, _, rfl, _, _, rfl, rfl, _, _, rfl, rfl, (by show (_ : Int) ≠ 0; decide), ?_⟩
          refine ⟨_, rfl, _, rfl, _, _, rfl, rfl, _, _, rfl, rfl, cmul_fmod (by decide) (by decide), _, _, rfl, rfl, (by show (_ : Int) ≠ 0; decide), _, _, rfl, rfl, ⟨by decide, by decide⟩, _, rfl, _, _, rfl, rfl, (by omega), ?_⟩
          exact k _ ⟨c, a + 1, l, ns⟩ _ (Int.fmod_nonneg_of_pos _ n0) (Int.fmod_lt_of_pos _ n0) h2 ⟨by dsimp only; omega, by dsimp only; omega, l0⟩ k2
end
end Fc

set_option Elab.async false
set_option linter.all false
set_option maxRecDepth 100000
set_option maxHeartbeats 4000000
namespace Fc
open PySem L2
theorem valV_out {kvs : List (Key × V)} {k : Key} (h : k ∉ kvs.map (·.1)) : valV kvs k = none := by
  cases e : valV kvs k with
  | none => rfl
  | some v => exact absurd (valV_in e) h
theorem mergeK_app : ∀ (more acc : List (Key × V)), ((acc ++ more).map (·.1)).Nodup → mergeK acc more = acc ++ more
  | [], acc, _ => by rw [List.append_nil]; rfl
  | (k, v) :: more, acc, h => by
    have hk : k ∉ acc.map (·.1) := by
      intro hm
      rw [List.map_append, List.map_cons] at h
      exact (List.nodup_append.mp h).2.2 k hm k List.mem_cons_self rfl
    show mergeK (putK acc k v) more = acc ++ (k, v) :: more
    rw [putK_new v (valV_out hk), mergeK_app more (acc ++ [(k, v)]) (by rw [List.append_assoc]; exact h), List.append_assoc]
    rfl
theorem mergeK_nd {kvs : List (Key × V)} (h : (kvs.map (·.1)).Nodup) : mergeK [] kvs = kvs := by
  have := mergeK_app kvs [] (by rw [List.nil_append]; exact h)
  rwa [List.nil_append] at this
theorem nd_pen {c : Addr} {a l : Int} : ((penKv c a l).map (·.1)).Nodup := by
  show [kS "cells", kS "at", kS "left"].Nodup
  decide +kernel
theorem atI_mem {xs : List V} {i : Int} (h0 : 0 ≤ i) (h1 : i < (xs.length : Int)) : ∃ v, atI xs i = some v ∧ v ∈ xs := by
  have hl : i.toNat < xs.length := by omega
  refine ⟨xs[i.toNat], ?_, List.getElem_mem hl⟩
  unfold atI ixN
  rw [if_pos h0, if_pos h1]
  show xs[i.toNat]? = _
  exact List.getElem?_eq_getElem hl

/-- a worth without holds; a row -/
def WOk (H : Hp) (v : V) : Prop := ∃ d, Fz H v d ∧ Gd 20 1 d
theorem WOk.keep {H H' : Hp} {v : V} (k : Tk H H') (h : WOk H v) : WOk H' v := let ⟨d, f, g⟩ := h; ⟨d, f.keep k, g⟩
def RowOk (H : Hp) (v : V) : Prop := ∃ (a : Addr) (xs : List V) (ds : List PyData), v = .ref a ∧ H a = some (.tup xs) ∧ FzAll H xs ds ∧ GdAll 80 1 ds
theorem RowOk.keep {H H' : Hp} {v : V} (k : Tk H H') (h : RowOk H v) : RowOk H' v := let ⟨a, xs, ds, e, f, g, q⟩ := h; ⟨a, xs, ds, e, k _ _ f, g.keep k, q⟩
def Rows (H : Hp) (vs : List V) : Prop := ∀ v ∈ vs, RowOk H v
theorem Rows.keep {H H' : Hp} {vs : List V} (k : Tk H H') (h : Rows H vs) : Rows H' vs := fun v hv => (h v hv).keep k
theorem fz_list {H : Hp} : ∀ {vs : List V}, (∀ v ∈ vs, WOk H v) → ∃ ds, FzAll H vs ds ∧ ∀ d ∈ ds, Gd 20 1 d
  | [], _ => ⟨[], .nil, fun d hd => absurd hd List.not_mem_nil⟩
  | v :: vs, h => by
    obtain ⟨d, f, g⟩ := h v List.mem_cons_self
    obtain ⟨ds, fs, gs⟩ := fz_list fun u hu => h u (List.mem_cons_of_mem _ hu)
    refine ⟨d :: ds, .cons f fs, fun e he => ?_⟩
    rcases List.mem_cons.mp he with rfl | he
    · exact g
    · exact gs e he
theorem wok_str {H : Hp} {x : Str} (h : (x.cps.toList.all fun c => decide (c < 16 ^ 8)) = true) (h1 : PyData.canLay0 (.str x) = true) (h2 : x.cps.size ≤ 20) : WOk H (.str x) :=
  ⟨_, .str x, (Gd.str h h1 h2).mono (Nat.le_refl _) (by decide)⟩
theorem wok_int {H : Hp} {i : Int} (h : i.natAbs < 10 ^ 12) : WOk H (.int i) := ⟨_, .int i, (Gd.int h).mono (by decide) (by decide)⟩

def spPick (K : PySem.W.Frag) : Sp := fun vs H Q _ => ∃ (p l : Addr) (xs : List V) (z : Pen) (m : Nat) (R : List (Addr × HO)), vs = [.ref p, .ref l] ∧ 0 < xs.length ∧ xs.length < 1000 ∧ Has H (z.os p ++ (l, .lst xs) :: R) ∧ z.Ok m ∧ m < lim ∧
  ∀ (v : V) (z' : Pen) (H' : Hp), v ∈ xs → Has H' (z'.os p ++ (l, .lst xs) :: R) → z'.Ok (m + 1) → Tk H H' → Q v H'
def spPlain : Sp := fun vs H Q _ => ∃ (p : Addr) (z : Pen) (m : Nat) (R : List (Addr × HO)), vs = [.ref p] ∧ Has H (z.os p ++ R) ∧ z.Ok m ∧ m + 4 < lim ∧
  ∀ (v : V) (z' : Pen) (H' : Hp), WOk H' v → Has H' (z'.os p ++ R) → z'.Ok (m + 4) → Tk H H' → Q v H'
def spRowOf : Sp := fun vs H Q _ => ∃ (p : Addr) (z : Pen) (m : Nat) (R : List (Addr × HO)), vs = [.ref p] ∧ Has H (z.os p ++ R) ∧ z.Ok m ∧ m + 13 < lim ∧
  ∀ (v : V) (z' : Pen) (H' : Hp), (∃ (a : Addr) (xs : List V) (ds : List PyData), v = .ref a ∧ H' a = some (.tup xs) ∧ FzAll H' xs ds ∧ GdAll 63 1 ds ∧ xs.length ≤ 3) → Has H' (z'.os p ++ R) → z'.Ok (m + 13) → Tk H H' → Q v H'

section
variable {P : Program} {w : World} {K : PySem.W.Frag} {mg : Str → Option Value} {base : Heap}
theorem ok_l_pen {f : Addr} {fd : FuncData} (D : De K mg "_law_pen" s_l_pen ["_law_script"] f fd) (B : Bl mg) : FnOk P w K mg base CX0 1 f fd ["_law_script"] (spPen K) := by
  refine D.F.ok sc_l_pen (fun vs H Q E h => ?_) (fun cdv A outer s H vs Q E hr h => ?_)
  · obtain ⟨a, ns, R, rfl, _⟩ := h
    rfl
  · obtain ⟨a, ns, R, rfl, hs, hh, k⟩ := h
    refine ⟨_, (pss_one (ps_ret (pe_disp (pps_cons pe_str (pe_callTy (call_listE (K := K) rfl) (by rfl) B.b_list (by decide +kernel) (pa_cons (pe_slice (sl_listE (K := K) rfl) (pv 0) po_none (po_some pe_int)) pa_nil)) (pps_cons pe_str pe_int (pps_cons pe_str pe_int pps_nil))) (by rfl) (by rfl) (fun z => by cases z) (by decide)))), ?_⟩
    intro d hd
    refine ⟨_, rfl, _, rfl, a, _, rfl, (same_new hd).seq hs, fun q hq => ⟨q, _, rfl, .inl (SqL.of upd_same), fun l hl => ?_⟩⟩
    obtain ⟨ms, hms⟩ : ∃ ms : List Int, cutV (ns.map V.int) none (some 63) = ms.map V.int := by
      unfold cutV
      exact ⟨(ns.drop _).take _, by rw [List.map_take, List.map_drop]⟩
    rw [hms] at hl ⊢
    have h1 := hh.new (o := .dK []) hd
    have h2 := h1.over (o := .lst (ms.map V.int)) hq
    have h3 := h2.new (o := .lst (ms.map V.int)) hl
    refine ⟨h3.at 1 rfl, penKv l 0 0, rfl, (by show 3 ≤ 15; decide), ?_⟩
    rw [mergeK_nd nd_pen]
    have h4 := (h3.swap).put (u := .dK (penKv l 0 0))
    exact k d ⟨l, 0, 0, ms⟩ _ h4 ⟨Int.le_refl _, Int.le_refl _, Int.le_refl _⟩ (((Tk.new hd).trans (Tk.new hq)).trans ((Tk.new hl).trans (Tk.dK (h3.at 1 rfl))))
theorem ok_l_pick {f f1 : Addr} {fd fd1 : FuncData} (D : De K mg "_law_pick" s_l_pick ["_law_pen_here", "_law_some"] f fd) (B : Bl mg) (D_l_draw : De K mg "_law_draw" s_l_draw ["_law_pen_here", "_law_many"] f1 fd1) :
    FnOk P w K mg base CX0 2 f fd ["_law_pen_here", "_law_some"] (spPick K) := by
  have G_l_draw := ok_l_draw (P := P) (w := w) (base := base) D_l_draw B
  refine D.F.ok sc_l_pick (fun vs H Q E h => ?_) (fun cdv A outer s H vs Q E hr h => ?_)
  · obtain ⟨p, l, xs, z, m, R, rfl, _⟩ := h
    rfl
  · obtain ⟨p, l, xs, z, m, R, rfl, l0, l1, hh, zo, hm, k⟩ := h
    refine ⟨_, (pss_one (ps_ret (pe_ix (ix_listE (K := K) rfl) (pv 1) (pe_call G_l_draw (hr.mono (by decide)) (by rfl) D_l_draw.g D_l_draw.F.kp D_l_draw.b .nil pass0 (pa_cons (pv 0) (pa_cons (pe_callB (call_lenE (K := K) rfl) (by rfl) B.b_len (by decide +kernel) (pa_cons (pv 1) pa_nil)) pa_nil))) (fun _ _ => rfl)))), ?_⟩
    refine ⟨_, rfl, _, rfl, _, rfl, l, xs, rfl, .inl (SqL.of (hh.at 2 rfl)), p, _, z, m, _, rfl, by omega, by omega, hh, zo, hm, fun d z' H' d0 d1 h' zo' tk => ?_⟩
    obtain ⟨v, e, hv⟩ := atI_mem d0 d1
    exact ⟨l, xs, _, v, rfl, rfl, SqL.of (h'.at 2 rfl), e, k v z' H' hv h' zo' tk⟩
theorem ok_l_plain {f f1 f2 : Addr} {fd fd1 fd2 : FuncData} (D : De K mg "_law_plain" s_l_plain ["_law_pen_here"] f fd) (B : Bl mg) (D_l_draw : De K mg "_law_draw" s_l_draw ["_law_pen_here", "_law_many"] f1 fd1)
    (D_l_pick : De K mg "_law_pick" s_l_pick ["_law_pen_here", "_law_some"] f2 fd2) : FnOk P w K mg base CX0 3 f fd ["_law_pen_here"] spPlain := by
  have G_l_draw := ok_l_draw (P := P) (w := w) (base := base) D_l_draw B
  have G_l_pick := ok_l_pick (P := P) (w := w) (base := base) D_l_pick B D_l_draw
  refine D.F.ok sc_l_plain (fun vs H Q E h => ?_) (fun cdv A outer s H vs Q E hr h => ?_)
  · obtain ⟨p, z, m, R, rfl, _⟩ := h
    rfl
  · obtain ⟨p, z, m, R, rfl, hh, zo, hm, k⟩ := h
    refine ⟨_, (pss_cons (ps_set (i := 1) sc_l_plain.nd rfl (Or.inl rfl) (pe_lst (pa_cons pe_non (pa_cons pe_int (pa_cons pe_int (pa_cons (pe_call G_l_draw (hr.mono (by decide)) (by rfl) D_l_draw.g D_l_draw.F.kp D_l_draw.b .nil pass0 (pa_cons (pv 0) (pa_cons pe_int pa_nil))) (pa_cons (pe_call G_l_pick (hr.mono (by decide)) (by rfl) D_l_pick.g D_l_pick.F.kp D_l_pick.b .nil pass0 (pa_cons (pv 0) (pa_cons (pe_lst (pa_cons (pe_un un_neg pe_int) (pa_cons pe_int (pa_cons pe_int (pa_cons pe_int (pa_cons pe_int (pa_cons (pe_un un_neg pe_int) pa_nil))))))) pa_nil))) pa_nil)))))))
      (pss_cons (ps_set (i := 1) sc_l_plain.nd rfl (Or.inl rfl) (pe_op op_cat (pv 1) (pe_lst (pa_cons (pe_call G_l_pick (hr.mono (by decide)) (by rfl) D_l_pick.g D_l_pick.F.kp D_l_pick.b .nil pass0 (pa_cons (pv 0) (pa_cons (pe_lst (pa_cons pe_str (pa_cons pe_str (pa_cons pe_str (pa_cons pe_str (pa_cons pe_str (pa_cons pe_str pa_nil))))))) pa_nil))) (pa_cons (pe_tup (pa_cons pe_int (pa_cons pe_str pa_nil))) (pa_cons (pe_tup (pa_cons pe_str (pa_cons pe_str pa_nil))) (pa_cons (pe_tup pa_nil) pa_nil)))))))
      (pss_one (ps_ret (pe_ix (ix_listE (K := K) rfl) (pv 1) (pe_call G_l_draw (hr.mono (by decide)) (by rfl) D_l_draw.g D_l_draw.F.kp D_l_draw.b .nil pass0 (pa_cons (pv 0) (pa_cons pe_int pa_nil))) (fun _ _ => rfl)))))), ?_⟩
    refine ⟨_, rfl, p, 12, z, m, R, rfl, by decide, by decide, hh, zo, by omega, fun d z1 H1 d0 d1 h1 zo1 k1 => ?_⟩
    refine ⟨_, rfl, _, rfl, _, rfl, (by show 6 ≤ sizeLine; decide), fun l1 hl1 => ?_⟩
    have h1' := h1.new (o := .lst [.int (-9), .int 10, .int 99, .int 100, .int 999999999, .int (-999999999)]) hl1
    refine ⟨p, l1, _, z1, m + 1, R, rfl, (by decide), (by decide), h1'.dn2, zo1, by omega, fun v2 z2 H2 hv2 h2 zo2 k2 => ?_⟩
    refine ⟨(by show 5 ≤ sizeLine; decide), fun s1 hs1 => ?_⟩
    have w2 : ∀ H, WOk H v2 := fun H => by
      have : v2 = .int (-9) ∨ v2 = .int 10 ∨ v2 = .int 99 ∨ v2 = .int 100 ∨ v2 = .int 999999999 ∨ v2 = .int (-999999999) := by
        simpa using hv2
      rcases this with rfl | rfl | rfl | rfl | rfl | rfl <;> exact wok_int (by decide)
    have h3 := ((h2.up2).tail).new (o := .lst [.non, .int 0, .int 1, .int d, v2]) hs1
    refine ⟨_, rfl, _, rfl, (by show 6 ≤ sizeLine; decide), fun l2 hl2 => ?_⟩
    have h3' := h3.new (o := .lst [.str "a", .str "ab", .str "b", .str "to", .str "zzzzzzzz", .str "odd"]) hl2
    refine ⟨p, l2, _, z2, m + 2, (s1, _) :: R, rfl, (by decide), (by decide), h3'.pre (xs := [_, _, _, _]) [2, 3, 0, 1], zo2, by omega, fun v3 z3 H3 hv3 h4 zo3 k3 => ?_⟩
    have w3 : ∀ H, WOk H v3 := fun H => by
      have : v3 = .str "a" ∨ v3 = .str "ab" ∨ v3 = .str "b" ∨ v3 = .str "to" ∨ v3 = .str "zzzzzzzz" ∨ v3 = .str "odd" := by
        simpa using hv3
      rcases this with rfl | rfl | rfl | rfl | rfl | rfl <;> exact wok_str (by decide +kernel) (by decide +kernel) (by decide +kernel)
    refine ⟨(by show 2 ≤ sizeLine; decide), fun t1 ht1 => ⟨(by show 2 ≤ sizeLine; decide), fun t2 ht2 => ⟨(by show 0 ≤ sizeLine; decide), fun t3 ht3 => ⟨(by show 4 ≤ sizeLine; decide), fun s2 hs2 => ?_⟩⟩⟩⟩
    have h5 := ((((h4.over (o := .tup [.int 1, .str "a"]) ht1).over (o := .tup [.str "to", .str "a"]) ht2).over (o := .tup []) ht3).new (o := .lst [v3, .ref t1, .ref t2, .ref t3]) hs2)
    refine ⟨s1, s2, _, _, rfl, rfl, h5.at 4 rfl, h5.at 0 rfl, (by show 5 + 4 ≤ sizeLine; decide), fun s3 hs3 => ?_⟩
    have h6 := (h5.new (o := .lst ([.non, .int 0, .int 1, .int d, v2] ++ [v3, .ref t1, .ref t2, .ref t3])) hs3).pre (xs := [_, _, _, _, _, _]) [2, 3, 0]
    refine ⟨_, rfl, _, rfl, p, 9, z3, m + 3, (s3, _) :: R, rfl, by decide, by decide, h6, zo3, by omega, fun e z4 H4 e0 e1 h7 zo4 k4 => ?_⟩
    obtain ⟨v, ev, hv⟩ := atI_mem (xs := [V.non, .int 0, .int 1, .int d, v2] ++ [v3, .ref t1, .ref t2, .ref t3]) e0 e1
    have kA := ((Tk.new (o := .tup [.int 1, .str "a"]) ht1).trans (Tk.new (o := .tup [.str "to", .str "a"]) ht2)).trans ((Tk.new (o := .tup []) ht3).trans ((Tk.new (o := .lst [v3, .ref t1, .ref t2, .ref t3]) hs2).trans ((Tk.new hs3).trans k4)))
    have kB := ((Tk.new (o := .tup [.str "to", .str "a"]) ht2).trans (Tk.new (o := .tup []) ht3)).trans ((Tk.new (o := .lst [v3, .ref t1, .ref t2, .ref t3]) hs2).trans ((Tk.new hs3).trans k4))
    have kC := (Tk.new (o := .tup []) ht3).trans ((Tk.new (o := .lst [v3, .ref t1, .ref t2, .ref t3]) hs2).trans ((Tk.new hs3).trans k4))
    have kD := (Tk.new (o := .lst [v3, .ref t1, .ref t2, .ref t3]) hs2).trans ((Tk.new hs3).trans k4)
    have e1' := kB t1 _ upd_same
    have e2' := kC t2 _ upd_same
    have e3' := kD t3 _ upd_same
    have g1 : Gd 1 0 (.str "a") := Gd.str (by decide +kernel) (by decide +kernel) (by decide +kernel)
    have g2 : Gd 2 0 (.str "to") := Gd.str (by decide +kernel) (by decide +kernel) (by decide +kernel)
    have wv : WOk H4 v := by
      have : v = .non ∨ v = .int 0 ∨ v = .int 1 ∨ v = .int d ∨ v = v2 ∨ v = v3 ∨ v = .ref t1 ∨ v = .ref t2 ∨ v = .ref t3 := by
        simpa using hv
      rcases this with rfl | rfl | rfl | rfl | rfl | rfl | rfl | rfl | rfl
      · exact ⟨_, .non, Gd.non.mono (by decide) (by decide)⟩
      · exact wok_int (by decide)
      · exact wok_int (by decide)
      · exact wok_int (by omega)
      · exact w2 _
      · exact w3 _
      · exact ⟨_, .tup e1' (.cons (.int 1) (.cons (.str "a") .nil)), (GdAll.tup (GdAll.cons (Gd.int (by decide)) (GdAll.cons g1 GdAll.nil))).mono (by decide) (by decide)⟩
      · exact ⟨_, .tup e2' (.cons (.str "to") (.cons (.str "a") .nil)), (GdAll.tup (GdAll.cons g2 (GdAll.cons g1 GdAll.nil))).mono (by decide) (by decide)⟩
      · exact ⟨_, .tup e3' .nil, (GdAll.tup (GdAll.nil (k := 0))).mono (by decide) (by decide)⟩
    refine ⟨s3, _, _, v, rfl, rfl, SqL.of (h7.at 2 rfl), ev, k v z4 H4 wv (h7.up2).tail (zo4.mono (by omega)) ?_⟩
    exact k1.trans ((Tk.new hl1).trans (k2.trans ((Tk.new hs1).trans ((Tk.new hl2).trans (k3.trans kA)))))
theorem ok_l_row_of {f f1 f2 f3 : Addr} {fd fd1 fd2 fd3 : FuncData} (D : De K mg "_law_row_of" s_l_row_of ["_law_pen_here"] f fd) (B : Bl mg) (D_l_draw : De K mg "_law_draw" s_l_draw ["_law_pen_here", "_law_many"] f1 fd1)
    (D_l_pick : De K mg "_law_pick" s_l_pick ["_law_pen_here", "_law_some"] f2 fd2) (D_l_plain : De K mg "_law_plain" s_l_plain ["_law_pen_here"] f3 fd3) : FnOk P w K mg base CX0 4 f fd ["_law_pen_here"] spRowOf := by
  have G_l_draw := ok_l_draw (P := P) (w := w) (base := base) D_l_draw B
  have G_l_plain := ok_l_plain (P := P) (w := w) (base := base) D_l_plain B D_l_draw D_l_pick
  refine D.F.ok sc_l_row_of (fun vs H Q E h => ?_) (fun cdv A outer s H vs Q E hr h => ?_)
  · obtain ⟨p, z, m, R, rfl, _⟩ := h
    rfl
  · obtain ⟨p, z, m, R, rfl, hh, zo, hm, k⟩ := h
    refine ⟨_, (pss_one (ps_ret (pe_callTy (call_tupleE (K := K) rfl) (by rfl) B.b_tuple (by decide +kernel) (pa_cons (pe_lc (own := [("_law_k", 1)]) (g := gName 1) (tt := tYes) rfl sc_l_row_of.nd (pi_range1 (by rfl) B.b_range (pa_cons (pe_call G_l_draw (hr.mono (by decide)) (by rfl) D_l_draw.g D_l_draw.F.kp D_l_draw.b .nil pass0 (pa_cons (pv 0) (pa_cons pe_int pa_nil))) pa_nil)) (blkOk_by (own := [("_law_k", 1)]) (N := N_l_row_of) (sc := defScope s_l_row_of) (by decide +kernel)) (fun _ _ _ _ _ => pg_name (i := 1) sc_l_row_of.nd rfl (Or.inl rfl)) (fun _ _ _ _ _ => pts_nil) (fun _ _ _ _ _ => (pe_call G_l_plain (hr.mono (by decide)) (by rfl) D_l_plain.g D_l_plain.F.kp D_l_plain.b .nil pass0 (pa_cons (pv 0) pa_nil)))) pa_nil)))), ?_⟩
    refine ⟨_, rfl, p, 4, z, m, R, rfl, by decide, by decide, hh, zo, by omega, fun d z1 H1 d0 d1 h1 zo1 k1 => ?_⟩
    refine ⟨d, rfl, by omega, by omega, fun D hD => ?_⟩
    refine lc_range (lo := 0) (n := d.toNat) (fun i H2 => ∃ (z2 : Pen) (ys : List V), ys.length = i ∧ (∀ v ∈ ys, WOk H2 v) ∧ Has H2 ((D, .lst ys) :: (z2.os p ++ R)) ∧ z2.Ok (m + 1 + 4 * i) ∧ Tk H1 H2) ?_ ?_ ?_
    · exact ⟨z1, [], rfl, fun v hv => absurd hv List.not_mem_nil, h1.new hD, zo1.mono (by omega), Tk.new hD⟩
    · rintro i H2 hi ⟨z2, ys, ly, wy, h2, zo2, k2⟩
      refine ⟨rfl, ?_⟩
      refine ⟨_, rfl, p, z2, m + 1 + 4 * i, (D, .lst ys) :: R, rfl, h2.dn2, zo2, by omega, fun v z3 H3 wv h3 zo3 k3 => ?_⟩
      have h3' : Has H3 ((D, .lst ys) :: (z3.os p ++ R)) := h3.up2
      refine ⟨ys, h3'.head, (by rw [ly]; exact small1000 (by omega)), z3, ys ++ [v], ?_, ?_, h3'.put, zo3.mono (by omega), k2.trans (k3.trans (Tk.lst h3'.head))⟩
      · rw [List.length_append, ly]
        rfl
      · intro u hu
        rcases List.mem_append.mp hu with hu | hu
        · exact ((wy u hu).keep k3).keep (Tk.lst h3'.head)
        · rw [List.mem_singleton.mp hu]
          exact wv.keep (Tk.lst h3'.head)
    · rintro H2 ⟨z2, ys, ly, wy, h2, zo2, k2⟩
      refine ⟨D, ys, rfl, .inl ⟨SqL.of h2.head, fun t ht => ?_⟩⟩
      have k3 := Tk.new (o := .tup ys) ht
      obtain ⟨ds, fs, gs⟩ := fz_list fun v hv => (wy v hv).keep k3
      have hl := fs.length
      exact k (.ref t) z2 _ ⟨t, ys, ds, rfl, upd_same, fs, (GdAll.of gs).mono (by omega) (Nat.le_refl _), by omega⟩ (h2.tail.over ht) (zo2.mono (by omega)) (k1.trans (k2.trans k3))
end
end Fc

set_option Elab.async false
set_option linter.all false
set_option maxRecDepth 100000
set_option maxHeartbeats 4000000
namespace Fc
open PySem L2
/-! ### wires -/
structure Wc (K : PySem.W.Frag) (mg : Str → Option Value) (C fI : Addr) (fdI : FuncData) (tR : Tok) : Prop where
  cl : Cls K C
  nk : NoAttr K C "known"
  nw : NoAttr K C "waiting"
  nc : NoAttr K C "came"
  g : mg "Wire" = some (.ref C)
  mk_ : Mk K C fI
  FI : Fun K "__init__" "Wire.__init__" s_Wire_init fI fdI
  b_init : Binds K fdI ["self"] []
  g_ROWS : mg "ROWS" = some (.str "rows" tR)
structure Me (K : PySem.W.Frag) (C : Addr) (x qual : Str) (st : Stmt) (ps : List Str) (f : Addr) (fd : FuncData) : Prop where
  m : Meth K C x f
  F : Fun K x qual st f fd
  b : Binds K fd ps []

def wFs (kn : Int) (l : Addr) (cm : Int) : List (Str × V) := [("known", .int kn), ("waiting", .ref l), ("came", .int cm)]
theorem n_kw : ¬ (("known" : Str) = "waiting") := by decide +kernel
theorem n_kc : ¬ (("known" : Str) = "came") := by decide +kernel
theorem n_wc : ¬ (("waiting" : Str) = "came") := by decide +kernel
theorem putF_nil {f : Str} {v : V} : putF f v [] = [(f, v)] := rfl
theorem putF_pos {f : Str} {v x : V} {r : List (Str × V)} : putF f v ((f, x) :: r) = (f, v) :: r := if_pos rfl
theorem putF_neg {f g : Str} {v x : V} {r : List (Str × V)} (h : ¬ g = f) : putF f v ((g, x) :: r) = (g, x) :: putF f v r := if_neg h
theorem wFs_eq (kn : Int) (l : Addr) (cm : Int) : putF "came" (.int cm) (putF "waiting" (.ref l) (putF "known" (.int kn) [])) = wFs kn l cm := by
  rw [putF_nil, putF_neg n_kw, putF_nil, putF_neg n_kc, putF_neg n_wc, putF_nil]
  rfl
theorem wFs_known (kn : Int) (l : Addr) (cm : Int) : (wFs kn l cm).lookup ("known" : Str) = some (.int kn) := by
  rw [← wFs_eq, lookup_putF, if_neg n_kc, lookup_putF, if_neg n_kw, lookup_putF, if_pos rfl]
theorem wFs_waiting (kn : Int) (l : Addr) (cm : Int) : (wFs kn l cm).lookup ("waiting" : Str) = some (.ref l) := by
  rw [← wFs_eq, lookup_putF, if_neg n_wc, lookup_putF, if_pos rfl]
theorem wFs_came (kn : Int) (l : Addr) (cm : Int) : (wFs kn l cm).lookup ("came" : Str) = some (.int cm) := by
  rw [← wFs_eq, lookup_putF, if_pos rfl]
theorem wFs_no (kn : Int) (l : Addr) (cm : Int) {m : Str} (h1 : ¬ m = "came") (h2 : ¬ m = "waiting") (h3 : ¬ m = "known") : (wFs kn l cm).lookup m = none := by
  rw [← wFs_eq, lookup_putF, if_neg h1, lookup_putF, if_neg h2, lookup_putF, if_neg h3]
  rfl
theorem wFs_setCame (kn : Int) (l : Addr) (cm z : Int) : putF "came" (.int z) (wFs kn l cm) = wFs kn l z := by
  unfold wFs
  rw [putF_neg n_kc, putF_neg n_wc, putF_pos]
theorem wFs_setWaiting (kn : Int) (l k : Addr) (cm : Int) : putF "waiting" (.ref k) (wFs kn l cm) = wFs kn k cm := by
  unfold wFs
  rw [putF_neg n_kw, putF_pos]
theorem wFs_setKnown (kn : Int) (l : Addr) (cm z : Int) : putF "known" (.int z) (wFs kn l cm) = wFs z l cm := by
  unfold wFs
  rw [putF_pos]
theorem wFs_len (kn : Int) (l : Addr) (cm : Int) : (wFs kn l cm).length < 1000 := by
  show 3 < 1000
  decide

/-- what stands at a wire -/
def wOs (C : Addr) (x dx l : Addr) (kn cm : Int) (ws : List V) : List (Addr × HO) := [(x, .ins C dx (wFs kn l cm)), (l, .lst ws)]
/-- a letter that has the form of one -/
structure Let (H : Hp) (a b : Addr) (f h : Int) (rows : List V) : Prop where
  at_ : H a = some (.tup [.str "rows", .int f, .ref b, .int h])
  in_ : H b = some (.tup rows)
  f0 : 0 ≤ f
  h0 : 0 ≤ h
  len : rows.length ≤ 1000
  row : ∀ v ∈ rows, ∃ (c : Addr) (xs : List V), v = .ref c ∧ H c = some (.tup xs)
theorem Let.keep {H H' : Hp} {a b : Addr} {f h : Int} {rows : List V} (l : Let H a b f h rows) (k : Tk H H') : Let H' a b f h rows :=
  ⟨k _ _ l.at_, k _ _ l.in_, l.f0, l.h0, l.len, fun v hv => let ⟨c, xs, e, z⟩ := l.row v hv; ⟨c, xs, e, k _ _ z⟩⟩

def spWInit (C : Addr) : Sp := fun vs H Q _ => ∃ (x dx : Addr) (R : List (Addr × HO)), vs = [.ref x] ∧ Has H ((x, .ins C dx []) :: R) ∧
  ∀ (l : Addr) (H' : Hp), Has H' (wOs C x dx l 0 0 [] ++ R) → Tk H H' → Q .non H'
def spWPut (C : Addr) : Sp := fun vs H Q _ => ∃ (x dx l : Addr) (kn cm : Int) (ws : List V) (v : V) (R : List (Addr × HO)), vs = [.ref x, v] ∧ Has H (wOs C x dx l kn cm ws ++ R) ∧ ws.length < 1000 ∧
  ∀ H' : Hp, Has H' (wOs C x dx l kn cm (ws ++ [v]) ++ R) → Tk H H' → Q (.int (kn + ws.length)) H'
def spWLetter (C : Addr) : Sp := fun vs H Q _ => ∃ (x dx l : Addr) (kn cm : Int) (ws : List V), vs = [.ref x] ∧ Has H (wOs C x dx l kn cm ws) ∧ ws.length ≤ 1000 ∧
  ∀ (a b : Addr) (H' : Hp), H' a = some (.tup [.str "rows", .int kn, .ref b, .int cm]) → H' b = some (.tup ws) → Same H H' → Q (.ref a) H'
def spWHeard (C : Addr) : Sp := fun vs H Q _ => ∃ (x dx l : Addr) (kn cm : Int) (ws : List V), vs = [.ref x] ∧ Has H (wOs C x dx l kn cm ws) ∧ Q (.int cm) H
def spWUnheard (C : Addr) : Sp := fun vs H Q _ => ∃ (x dx l : Addr) (kn cm : Int) (ws : List V) (R : List (Addr × HO)), vs = [.ref x] ∧ Has H (wOs C x dx l kn cm ws ++ R) ∧
  ∀ (q : Addr) (H' : Hp), H q = none → Has H' ((q, .lst ws) :: (wOs C x dx l kn cm ws ++ R)) → Same H H' → Q (.ref q) H'
def spWLen (C : Addr) : Sp := fun vs H Q _ => ∃ (x dx l : Addr) (kn cm : Int) (ws : List V), vs = [.ref x] ∧ Has H (wOs C x dx l kn cm ws) ∧ Q (.int ws.length) H
/-- a right letter is taken -/
def spWTake (C : Addr) : Sp := fun vs H Q _ => ∃ (x dx l a b : Addr) (kn cm f h : Int) (ws rows : List V) (R : List (Addr × HO)), vs = [.ref x, .ref a] ∧ Has H (wOs C x dx l kn cm ws ++ R) ∧ Let H a b f h rows ∧
  f ≤ cm ∧ h ≤ kn + ws.length ∧ ∀ (q l' : Addr) (H' : Hp),
    Has H' ((q, .lst (rows.drop (cm - f).toNat)) :: (wOs C x dx l' (if kn < h then h else kn) (cm + (rows.drop (cm - f).toNat).length) (ws.drop (h - kn).toNat) ++ R)) → Tk H H' → Q (.ref q) H'
def spIsWhole : Sp := fun vs H Q _ => ∃ i : Int, vs = [.int i] ∧ Q (.bl true) H
def spIsCount : Sp := fun vs H Q _ => ∃ i : Int, vs = [.int i] ∧ 0 ≤ i ∧ Q (.bl true) H
def spIsLetter : Sp := fun vs H Q _ => ∃ (a b : Addr) (f h : Int) (rows : List V), vs = [.ref a] ∧ Let H a b f h rows ∧ ∀ H', Same H H' → Q (.bl true) H'

section
variable {P : Program} {w : World} {K : PySem.W.Frag} {mg : Str → Option Value} {base : Heap} {C fI : Addr} {fdI : FuncData} {tR : Tok}
theorem ok_is_whole {f : Addr} {fd : FuncData} (D : De K mg "is_whole" s_is_whole ["thing"] f fd) (B : Bl mg) : FnOk P w K mg base CX0 1 f fd ["thing"] spIsWhole := by
  refine D.F.ok sc_is_whole (fun vs H Q E h => ?_) (fun cdv A outer s H vs Q E hr h => ?_)
  · obtain ⟨i, rfl, _⟩ := h
    rfl
  · obtain ⟨i, rfl, q⟩ := h
    refine ⟨_, (pss_one (ps_ret (pe_and (pe_callB (call_isiE (K := K) rfl) (by rfl) B.b_isinstance (by decide +kernel) (pa_cons (pv 0) (pa_cons (pe_bltn (v := .ty "int") (by rfl) B.b_int (by decide +kernel) rfl) pa_nil))) (pe_one (pe_not (pe_callB (call_isiE (K := K) rfl) (by rfl) B.b_isinstance (by decide +kernel) (pa_cons (pv 0) (pa_cons (pe_bltn (v := .ty "bool") (by rfl) B.b_bool (by decide +kernel) rfl) pa_nil)))))))), ?_⟩
    refine ⟨_, rfl, _, _, _, _, true, rfl, .ty _, .base (.int i), kit_ty (by decide +kernel), _, rfl, ?_⟩
    refine iteT ?_
    exact ⟨_, rfl, _, _, _, _, false, rfl, .ty _, .base (.int i), kit_ty (by decide +kernel), _, rfl, q⟩
theorem ok_is_count {f f1 : Addr} {fd fd1 : FuncData} (D : De K mg "is_count" s_is_count ["thing"] f fd) (B : Bl mg) (D_is_whole : De K mg "is_whole" s_is_whole ["thing"] f1 fd1) : FnOk P w K mg base CX0 2 f fd ["thing"] spIsCount := by
  have G_is_whole := ok_is_whole (P := P) (w := w) (base := base) D_is_whole B
  refine D.F.ok sc_is_count (fun vs H Q E h => ?_) (fun cdv A outer s H vs Q E hr h => ?_)
  · obtain ⟨i, rfl, _⟩ := h
    rfl
  · obtain ⟨i, rfl, h0, q⟩ := h
    refine ⟨_, (pss_one (ps_ret (pe_and (pe_call G_is_whole (hr.mono (by decide)) (by rfl) D_is_whole.g D_is_whole.F.kp D_is_whole.b .nil pass0 (pa_cons (pv 0) pa_nil)) (pe_one (pe_cmpR op_ge (pv 0) pe_int (nomark _)))))), ?_⟩
    refine ⟨_, rfl, i, rfl, _, rfl, ?_⟩
    refine iteT ?_
    refine ⟨_, rfl, _, _, rfl, rfl, ?_⟩
    show Q (.bl (decide (0 ≤ i))) H
    rw [decide_eq_true h0]
    exact q
theorem ok_is_letter {f f1 f2 : Addr} {fd fd1 fd2 : FuncData} (D : De K mg "is_letter" s_is_letter ["thing"] f fd) (B : Bl mg) (W : Wc K mg C fI fdI tR) (D_is_whole : De K mg "is_whole" s_is_whole ["thing"] f1 fd1)
    (D_is_count : De K mg "is_count" s_is_count ["thing"] f2 fd2) : FnOk P w K mg base CX0 3 f fd ["thing"] spIsLetter := by
  have G_is_count := ok_is_count (P := P) (w := w) (base := base) D_is_count B D_is_whole
  refine D.F.ok sc_is_letter (fun vs H Q E h => ?_) (fun cdv A outer s H vs Q E hr h => ?_)
  · obtain ⟨a, b, f, h, rows, rfl, _⟩ := h
    rfl
  · obtain ⟨a, b, f, h, rows, rfl, L, k⟩ := h
    refine ⟨_, (pss_cons (ps_if (PW.pt (pw_or (pt_not (pt_val (pe_callB (call_isiE (K := K) rfl) (by rfl) B.b_isinstance (by decide +kernel) (pa_cons (pv 0) (pa_cons (pe_bltn (v := .ty "tuple") (by rfl) B.b_tuple (by decide +kernel) rfl) pa_nil))))) (pw_or (pt_cmpR op_ne (pe_callB (call_lenE (K := K) rfl) (by rfl) B.b_len (by decide +kernel) (pa_cons (pv 0) pa_nil)) pe_int (nomark _)) (pw_or (pt_not (pt_val (pe_callB (call_isiE (K := K) rfl) (by rfl) B.b_isinstance (by decide +kernel) (pa_cons (pe_ix (ix_tupE (K := K) rfl) (pv 0) pe_int (fun _ _ => rfl)) (pa_cons (pe_bltn (v := .ty "str") (by rfl) B.b_str (by decide +kernel) rfl) pa_nil))))) (pw_or1 (pt_cmpR op_ne (pe_ix (ix_tupE (K := K) rfl) (pv 0) pe_int (fun _ _ => rfl)) (pe_glob (v := .str "rows") rfl W.g_ROWS ⟨_, rfl⟩) (nomark _)))))))
        (pss_one (ps_ret pe_bl))
        pss_nil)
      (pss_cons (ps_asg (pv 0) (pg_tup rfl (pgs_cons (pg_name (i := 1) sc_is_letter.nd rfl (Or.inl rfl)) (pgs_cons (pg_name (i := 2) sc_is_letter.nd rfl (Or.inl rfl)) (pgs_cons (pg_name (i := 3) sc_is_letter.nd rfl (Or.inl rfl)) (pgs_cons (pg_name (i := 4) sc_is_letter.nd rfl (Or.inl rfl)) pgs_nil))))))
      (pss_cons (ps_if (PW.pt (pw_or (pt_not (pt_val (pe_call G_is_count (hr.mono (by decide)) (by rfl) D_is_count.g D_is_count.F.kp D_is_count.b .nil pass0 (pa_cons (pv 2) pa_nil)))) (pw_or (pt_not (pt_val (pe_call G_is_count (hr.mono (by decide)) (by rfl) D_is_count.g D_is_count.F.kp D_is_count.b .nil pass0 (pa_cons (pv 4) pa_nil)))) (pw_or1 (pt_not (pt_val (pe_callB (call_isiE (K := K) rfl) (by rfl) B.b_isinstance (by decide +kernel) (pa_cons (pv 3) (pa_cons (pe_bltn (v := .ty "tuple") (by rfl) B.b_tuple (by decide +kernel) rfl) pa_nil)))))))))
        (pss_one (ps_ret pe_bl))
        pss_nil)
      (pss_one (ps_ret (pe_callB (cr_all rfl) (by rfl) B.b_all (by decide +kernel) (pa_cons (pe_lc (own := [("row", 5)]) (g := gName 5) (tt := tYes) rfl sc_is_letter.nd (pi_tup (pv 3)) (blkOk_by (own := [("row", 5)]) (N := N_is_letter) (sc := defScope s_is_letter) (by decide +kernel)) (fun _ _ _ _ _ => pg_name (i := 5) sc_is_letter.nd rfl (Or.inl rfl)) (fun _ _ _ _ _ => pts_nil) (fun _ _ _ _ _ => (pe_callB (call_isiE (K := K) rfl) (by rfl) B.b_isinstance (by decide +kernel) (pa_cons (pv 5) (pa_cons (pe_bltn (v := .ty "tuple") (by rfl) B.b_tuple (by decide +kernel) rfl) pa_nil))))) pa_nil))))))), ?_⟩
    refine ⟨_, rfl, _, _, _, _, true, rfl, .ty _, .base (.tup L.at_), kit_ty (by decide +kernel), _, rfl, ?_⟩
    refine iteF ?_
    refine ⟨_, rfl, a, _, rfl, .inr (SqT.of L.at_), rfl, _, rfl, ?_⟩
    refine iteF ?_
    refine ⟨_, rfl, a, _, _, _, rfl, rfl, SqT.of L.at_, rfl, _, _, _, _, true, rfl, .ty _, .base (.str _), kit_ty (by decide +kernel), _, rfl, ?_⟩
    refine iteF ?_
    refine ⟨_, rfl, a, _, _, _, rfl, rfl, SqT.of L.at_, rfl, rfl, _, rfl, ?_⟩
    refine iteNS rfl ?_
    refine ⟨_, rfl, a, _, rfl, SqT.of L.at_, rfl, _, _, rfl, _, _, rfl, _, _, rfl, _, _, rfl, rfl, ?_⟩
    refine ⟨_, rfl, f, rfl, L.f0, _, rfl, ?_⟩
    refine iteF ?_
    refine ⟨_, rfl, h, rfl, L.h0, _, rfl, ?_⟩
    refine iteF ?_
    refine ⟨_, rfl, _, _, _, _, true, rfl, .ty _, .base (.tup L.in_), kit_ty (by decide +kernel), _, rfl, ?_⟩
    refine iteF ?_
    refine ⟨_, rfl, b, rfl, ⟨_, SqT.of L.in_⟩, fun D hD => ?_⟩
    refine lc_tup (K := K) (a := b) (xs := rows) (fun i H2 => Same H H2 ∧ H2 D = some (.lst ((List.replicate i true).map V.bl))) ?_ ?_ ?_ ?_
    · exact ⟨same_new hD, upd_same⟩
    · rintro i H2 _ ⟨s2, _⟩
      exact SqT.of (s2 _ _ L.in_)
    · rintro i x H2 hx ⟨s2, d2⟩
      obtain ⟨c, xs, rfl, hc⟩ := L.row x (List.mem_of_getElem? hx)
      have hi : i < rows.length := (List.getElem?_eq_some_iff.mp hx).1
      have hl := L.len
      refine ⟨rfl, ?_⟩
      refine ⟨_, rfl, _, _, _, _, true, rfl, .ty _, .base (.tup (s2 _ _ hc)), kit_ty (by decide +kernel), _, d2, ?_, fun b o e => ?_, ?_⟩
      · rw [List.length_map, List.length_replicate]
        exact small1000 (by omega)
      · rw [upd_ne (ne_of_none e hD)]
        exact s2 _ _ e
      · rw [upd_same, List.replicate_succ', List.map_append]
        rfl
    · rintro H2 ⟨s2, d2⟩
      refine ⟨D, _, rfl, SqL.of d2, ?_⟩
      have : (List.replicate rows.length true).all id = true := by simp
      rw [this]
      exact k H2 s2
end
end Fc

set_option Elab.async false
set_option linter.all false
set_option maxRecDepth 100000
set_option maxHeartbeats 4000000
namespace Fc
open PySem L2
section
variable {P : Program} {w : World} {K : PySem.W.Frag} {mg : Str → Option Value} {base : Heap} {C fI : Addr} {fdI : FuncData} {tR : Tok}
theorem ok_Wire_init (W : Wc K mg C fI fdI tR) : FnOk P w K mg base CX0 1 fI fdI ["self"] (spWInit C) := by
  refine W.FI.ok sc_Wire_init (fun vs H Q E h => ?_) (fun cdv A outer s H vs Q E hr h => ?_)
  · obtain ⟨x, dx, R, rfl, _⟩ := h
    rfl
  · obtain ⟨x, dx, R, rfl, hh, k⟩ := h
    refine ⟨_, (pss_cons (ps_fld (pv 0) pe_int rfl)
      (pss_cons (ps_fld (pv 0) (pe_lst pa_nil) rfl)
      (pss_one (ps_fld (pv 0) pe_int rfl)))), ?_⟩
    refine ⟨_, rfl, x, C, dx, _, rfl, hh.head, W.cl, W.nk, (by show 0 < 1000; decide), ?_⟩
    have h1 := hh.put (u := .ins C dx (putF "known" (.int 0) []))
    refine ⟨(by show 0 ≤ sizeLine; decide), fun l hl => ?_⟩
    have h2 := h1.new (o := .lst []) hl
    refine ⟨_, rfl, x, C, dx, _, rfl, h2.at 1 rfl, W.cl, W.nw, (by show 1 < 1000; decide), ?_⟩
    have h3 := (h2.swap).put (u := .ins C dx (putF "waiting" (.ref l) (putF "known" (.int 0) [])))
    refine ⟨_, rfl, x, C, dx, _, rfl, h3.head, W.cl, W.nc, (by rw [putF_nil, putF_neg n_kw, putF_nil]; show 2 < 1000; decide), ?_⟩
    have h4 := h3.put (u := .ins C dx (putF "came" (.int 0) (putF "waiting" (.ref l) (putF "known" (.int 0) []))))
    have tk := (Tk.ins (u := .ins C dx (putF "known" (.int 0) [])) hh.head).trans ((Tk.new (o := .lst []) hl).trans ((Tk.ins (h2.at 1 rfl)).trans (Tk.ins (u := .ins C dx (putF "came" (.int 0) (putF "waiting" (.ref l) (putF "known" (.int 0) [])))) h3.head)))
    rw [wFs_eq] at h4 tk
    exact k l _ h4 tk
theorem ok_Wire_put {f : Addr} {fd : FuncData} (M : Me K C "put" "Wire.put" s_Wire_put ["self", "row"] f fd) (W : Wc K mg C fI fdI tR) (B : Bl mg) : FnOk P w K mg base CX0 1 f fd ["self", "row"] (spWPut C) := by
  refine M.F.ok sc_Wire_put (fun vs H Q E h => ?_) (fun cdv A outer s H vs Q E hr h => ?_)
  · obtain ⟨x, dx, l, kn, cm, ws, v, R, rfl, _⟩ := h
    rfl
  · obtain ⟨x, dx, l, kn, cm, ws, v, R, rfl, hh, hl, k⟩ := h
    refine ⟨_, (pss_cons (ps_expr (pe_bm PySem.F.plainAttrs_list PySem.F.slot_list_append PySem.F.type_list_append mt_append (pe_fld (pv 0) rfl) (pa_cons (pv 1) pa_nil)))
      (pss_one (ps_ret (pe_op op_sub (pe_op op_add (pe_fld (pv 0) rfl) (pe_callB (call_lenE (K := K) rfl) (by rfl) B.b_len (by decide +kernel) (pa_cons (pe_fld (pv 0) rfl) pa_nil))) pe_int)))), ?_⟩
    have hx := hh.at 0 rfl
    have hw := hh.at 1 rfl
    refine ⟨_, rfl, x, C, dx, _, _, rfl, hx, W.cl, W.nw, wFs_waiting _ _ _, .inl ⟨rfl, _, SqL.of hw⟩, _, rfl, l, _, _, rfl, rfl, hw, small1000 (by omega), ?_⟩
    have h1 : Has _ ((l, .lst (ws ++ [v])) :: (x, .ins C dx (wFs kn l cm)) :: R) := Has.put hh.swap
    refine ⟨_, rfl, x, C, dx, _, _, rfl, h1.at 1 rfl, W.cl, W.nk, wFs_known _ _ _, _, rfl, x, C, dx, _, _, rfl, h1.at 1 rfl, W.cl, W.nw, wFs_waiting _ _ _, l, _, rfl, .inl (SqL.of (h1.at 0 rfl)), _, _, rfl, rfl, _, _, rfl, rfl, ?_⟩
    have e : kn + ((ws ++ [v]).length : Int) - 1 = kn + ws.length := by
      rw [List.length_append, List.length_singleton]
      omega
    show Q (.int (kn + ((ws ++ [v]).length : Int) - 1)) _
    rw [e]
    exact k _ h1.swap (Tk.lst hw)
theorem ok_Wire_letter {f : Addr} {fd : FuncData} (M : Me K C "letter" "Wire.letter" s_Wire_letter ["self"] f fd) (W : Wc K mg C fI fdI tR) (B : Bl mg) : FnOk P w K mg base CX0 1 f fd ["self"] (spWLetter C) := by
  refine M.F.ok sc_Wire_letter (fun vs H Q E h => ?_) (fun cdv A outer s H vs Q E hr h => ?_)
  · obtain ⟨x, dx, l, kn, cm, ws, rfl, _⟩ := h
    rfl
  · obtain ⟨x, dx, l, kn, cm, ws, rfl, hh, hl, k⟩ := h
    refine ⟨_, (pss_one (ps_ret (pe_tup (pa_cons (pe_glob (v := .str "rows") rfl W.g_ROWS ⟨_, rfl⟩) (pa_cons (pe_fld (pv 0) rfl) (pa_cons (pe_callTy (call_tupleE (K := K) rfl) (by rfl) B.b_tuple (by decide +kernel) (pa_cons (pe_fld (pv 0) rfl) pa_nil)) (pa_cons (pe_fld (pv 0) rfl) pa_nil))))))), ?_⟩
    have hx := hh.at 0 rfl
    have hw := hh.at 1 rfl
    refine ⟨_, rfl, x, C, dx, _, _, rfl, hx, W.cl, W.nk, wFs_known _ _ _, _, rfl, x, C, dx, _, _, rfl, hx, W.cl, W.nw, wFs_waiting _ _ _, l, _, rfl, .inl ⟨SqL.of hw, fun b hb => ?_⟩⟩
    have s1 := same_new (o := .tup ws) hb
    refine ⟨_, rfl, x, C, dx, _, _, rfl, s1 _ _ hx, W.cl, W.nc, wFs_came _ _ _, (by show 4 ≤ sizeLine; decide), fun a ha => ?_⟩
    refine k a b _ upd_same ?_ (s1.trans (same_new ha))
    exact same_new ha _ _ upd_same
theorem ok_Wire_heard {f : Addr} {fd : FuncData} (M : Me K C "heard" "Wire.heard" s_Wire_heard ["self"] f fd) (W : Wc K mg C fI fdI tR) : FnOk P w K mg base CX0 1 f fd ["self"] (spWHeard C) := by
  refine M.F.ok sc_Wire_heard (fun vs H Q E h => ?_) (fun cdv A outer s H vs Q E hr h => ?_)
  · obtain ⟨x, dx, l, kn, cm, ws, rfl, _⟩ := h
    rfl
  · obtain ⟨x, dx, l, kn, cm, ws, rfl, hh, k⟩ := h
    refine ⟨_, (pss_one (ps_ret (pe_fld (pv 0) rfl))), ?_⟩
    exact ⟨_, rfl, x, C, dx, _, _, rfl, hh.at 0 rfl, W.cl, W.nc, wFs_came _ _ _, k⟩
theorem ok_Wire_take {f f1 f2 f3 : Addr} {fd fd1 fd2 fd3 : FuncData} (M : Me K C "take" "Wire.take" s_Wire_take ["self", "letter"] f fd) (W : Wc K mg C fI fdI tR) (B : Bl mg) (D_is_whole : De K mg "is_whole" s_is_whole ["thing"] f1 fd1)
    (D_is_count : De K mg "is_count" s_is_count ["thing"] f2 fd2) (D_is_letter : De K mg "is_letter" s_is_letter ["thing"] f3 fd3) : FnOk P w K mg base CX0 4 f fd ["self", "letter"] (spWTake C) := by
  have G_is_letter := ok_is_letter (P := P) (w := w) (base := base) D_is_letter B W D_is_whole D_is_count
  refine M.F.ok sc_Wire_take (fun vs H Q E h => ?_) (fun cdv A outer s H vs Q E hr h => ?_)
  · obtain ⟨x, dx, l, a, b, kn, cm, f, h, ws, rows, R, rfl, _⟩ := h
    rfl
  · obtain ⟨x, dx, l, a, b, kn, cm, f, h, ws, rows, R, rfl, hh0, L0, hf, hhd, k0⟩ := h
    refine ⟨_, (pss_cons (ps_if (pt_not (pt_val (pe_call G_is_letter (hr.mono (by decide)) (by rfl) D_is_letter.g D_is_letter.F.kp D_is_letter.b .nil pass0 (pa_cons (pv 1) pa_nil))))
        (pss_one ps_never)
        pss_nil)
      (pss_cons (ps_asg (pv 1) (pg_tup rfl (pgs_cons (pg_name (i := 2) sc_Wire_take.nd rfl (Or.inl rfl)) (pgs_cons (pg_name (i := 3) sc_Wire_take.nd rfl (Or.inl rfl)) (pgs_cons (pg_name (i := 4) sc_Wire_take.nd rfl (Or.inl rfl)) (pgs_cons (pg_name (i := 5) sc_Wire_take.nd rfl (Or.inl rfl)) pgs_nil))))))
      (pss_cons (ps_if (PW.pt (pw_or (pt_cmpR op_gt (pv 3) (pe_fld (pv 0) rfl) (nomark _)) (pw_or1 (pt_cmpR op_gt (pv 5) (pe_op op_add (pe_fld (pv 0) rfl) (pe_callB (call_lenE (K := K) rfl) (by rfl) B.b_len (by decide +kernel) (pa_cons (pe_fld (pv 0) rfl) pa_nil))) (nomark _)))))
        (pss_one ps_never)
        pss_nil)
      (pss_cons (ps_set (i := 6) sc_Wire_take.nd rfl (Or.inl rfl) (pe_callTy (call_listE (K := K) rfl) (by rfl) B.b_list (by decide +kernel) (pa_cons (pe_slice sl_tupX (pv 4) (po_some (pe_op op_sub (pe_fld (pv 0) rfl) (pv 3))) po_none) pa_nil)))
      (pss_cons (ps_fldaug (pv 0) (pe_callB (call_lenE (K := K) rfl) (by rfl) B.b_len (by decide +kernel) (pa_cons (pv 6) pa_nil)) in_add)
      (pss_cons (ps_if (pt_cmpR op_gt (pv 5) (pe_fld (pv 0) rfl) (nomark _))
        (pss_cons (ps_fld (pv 0) (pe_slice (sl_listE (K := K) rfl) (pe_fld (pv 0) rfl) (po_some (pe_op op_sub (pv 5) (pe_fld (pv 0) rfl))) po_none) rfl)
        (pss_one (ps_fld (pv 0) (pv 5) rfl)))
        pss_nil)
      (pss_one (ps_ret (pv 6))))))))), ?_⟩
    refine ⟨_, rfl, a, b, f, h, rows, rfl, L0, fun H0 s0 => ⟨_, rfl, ?_⟩⟩
    refine iteF ?_
    have hh := hh0.same s0
    have L := L0.keep (same_tk s0)
    have k := fun q l' H' a => (fun c => k0 q l' H' a ((same_tk s0).trans c))
    clear k0 hh0 L0
    have hx := hh.at 0 rfl
    have hw := hh.at 1 rfl
    refine ⟨_, rfl, a, _, rfl, SqT.of L.at_, rfl, _, _, rfl, _, _, rfl, _, _, rfl, _, _, rfl, rfl, ?_⟩
    refine ⟨_, rfl, _, rfl, x, C, dx, _, _, rfl, hx, W.cl, W.nc, wFs_came _ _ _, _, _, rfl, rfl, _, rfl, ?_⟩
    rw [decide_eq_false (show ¬ cm < f by omega)]
    refine iteF ?_
    refine ⟨_, rfl, _, rfl, x, C, dx, _, _, rfl, hx, W.cl, W.nk, wFs_known _ _ _, _, rfl, x, C, dx, _, _, rfl, hx, W.cl, W.nw, wFs_waiting _ _ _, l, _, rfl, .inl (SqL.of hw), _, _, rfl, rfl, _, _, rfl, rfl, _, rfl, ?_⟩
    rw [decide_eq_false (show ¬ kn + (ws.length : Int) < h by omega)]
    refine iteF ?_
    refine ⟨_, rfl, _, rfl, x, C, dx, _, _, rfl, hx, W.cl, W.nc, wFs_came _ _ _, _, rfl, _, _, rfl, rfl, _, rfl, b, rows, rfl, L.in_, fun p H1 s1 hp => ⟨p, _, rfl, .inr (SqT.of hp), fun q hq => ?_⟩⟩
    rw [cut_from (show 0 ≤ cm - f by omega)] at hp ⊢
    have h1 := (hh.same s1).new (o := .lst (rows.drop (cm - f).toNat)) hq
    refine ⟨_, rfl, x, C, dx, _, _, rfl, h1.at 1 rfl, W.cl, W.nc, wFs_came _ _ _, _, rfl, q, _, rfl, .inl (SqL.of h1.head), _, _, rfl, rfl, dx, _, h1.at 1 rfl, wFs_len _ _ _, ?_⟩
    rw [wFs_setCame]
    have h2 := (h1.swap).put (u := .ins C dx (wFs kn l (cm + (rows.drop (cm - f).toNat).length)))
    have k2 := (same_tk s1).trans ((Tk.new (o := .lst (rows.drop (cm - f).toNat)) hq).trans (Tk.ins (u := .ins C dx (wFs kn l (cm + (rows.drop (cm - f).toNat).length))) (h1.at 1 rfl)))
    refine ⟨_, rfl, _, rfl, x, C, dx, _, _, rfl, h2.head, W.cl, W.nk, wFs_known _ _ _, _, _, rfl, rfl, _, rfl, ?_⟩
    refine ite2 (fun hkh => ?_) (fun hkh => ?_)
    · rw [decide_eq_true_eq] at hkh
      refine ⟨_, rfl, x, C, dx, _, _, rfl, h2.head, W.cl, W.nw, wFs_waiting _ _ _, _, rfl, _, rfl, x, C, dx, _, _, rfl, h2.head, W.cl, W.nk, wFs_known _ _ _, _, _, rfl, rfl, _, rfl, l, ws, rfl, SqL.of (h2.at 2 rfl), fun l2 hl2 => ?_⟩
      rw [cut_from (show 0 ≤ h - kn by omega)]
      have h3 := h2.new (o := .lst (ws.drop (h - kn).toNat)) hl2
      refine ⟨_, rfl, x, C, dx, _, rfl, h3.at 1 rfl, W.cl, W.nw, wFs_len _ _ _, ?_⟩
      rw [wFs_setWaiting]
      have h4 := (h3.swap).put (u := .ins C dx (wFs kn l2 (cm + (rows.drop (cm - f).toNat).length)))
      refine ⟨_, rfl, _, rfl, x, C, dx, _, rfl, h4.head, W.cl, W.nk, wFs_len _ _ _, ?_⟩
      rw [wFs_setKnown]
      have h5 := h4.put (u := .ins C dx (wFs h l2 (cm + (rows.drop (cm - f).toNat).length)))
      refine ⟨_, rfl, ?_⟩
      have k3 := k2.trans ((Tk.new (o := .lst (ws.drop (h - kn).toNat)) hl2).trans ((Tk.ins (h3.at 1 rfl)).trans (Tk.ins (u := .ins C dx (wFs h l2 (cm + (rows.drop (cm - f).toNat).length))) h4.head)))
      refine k q l2 _ ?_ k3
      rw [if_pos hkh]
      exact h5.pre (xs := [_, _, _, _]) [2, 0, 1]
    · have hkh' : ¬ kn < h := fun z => hkh (decide_eq_true z)
      refine ⟨_, rfl, ?_⟩
      have k3 := fun H1 => k q l H1
      simp only [if_neg hkh', show (h - kn).toNat = 0 by omega, List.drop_zero] at k3
      exact k3 _ h2.swap k2
end
end Fc

set_option Elab.async false
set_option linter.all false
set_option maxRecDepth 100000
set_option maxHeartbeats 4000000
namespace Fc
open PySem L2
/-! ### the data of rows and letters -/
theorem rows_fz {H : Hp} : ∀ {vs : List V}, Rows H vs → ∃ ds, FzAll H vs ds ∧ ∀ d ∈ ds, Gd 80 2 d
  | [], _ => ⟨[], .nil, fun d hd => absurd hd List.not_mem_nil⟩
  | v :: vs, h => by
    obtain ⟨a, xs, ds, rfl, e, f, g⟩ := h v List.mem_cons_self
    obtain ⟨es, fs, gs⟩ := rows_fz fun u hu => h u (List.mem_cons_of_mem _ hu)
    refine ⟨.tuple ds :: es, .cons (.tup e f) fs, fun c hc => ?_⟩
    rcases List.mem_cons.mp hc with rfl | hc
    · exact g.tup
    · exact gs c hc
theorem g_rows : Gd 4 0 (.str "rows") := Gd.str (by decide +kernel) (by decide +kernel) (by decide +kernel)
def letD (f h : Int) (ds : List PyData) : PyData := .tuple [.str "rows", .int f, .tuple ds, .int h]
theorem let_gd {f h : Int} {ds : List PyData} (hf : f.natAbs < 10 ^ 12) (hh : h.natAbs < 10 ^ 12) (g : ∀ d ∈ ds, Gd 80 2 d) (hl : ds.length ≤ 1000) : Gd (2 ^ 20) 4 (letD f h ds) := by
  have g1 : GdAll (81 * ds.length) 2 ds := GdAll.of g
  have g2 := GdAll.cons (g_rows.mono (Nat.le_refl _) (by decide : 0 ≤ 3)) (GdAll.cons ((Gd.int hf).mono (Nat.le_refl _) (by decide : 0 ≤ 3)) (GdAll.cons g1.tup (GdAll.cons ((Gd.int hh).mono (Nat.le_refl _) (by decide : 0 ≤ 3)) GdAll.nil)))
  exact (GdAll.tup g2).mono (by omega) (Nat.le_refl _)
theorem let_fz {H : Hp} {a b : Addr} {f h : Int} {rows : List V} {ds : List PyData} (ha : H a = some (.tup [.str "rows", .int f, .ref b, .int h])) (hb : H b = some (.tup rows)) (hd : FzAll H rows ds) : Fz H (.ref a) (letD f h ds) :=
  .tup ha (.cons (.str _) (.cons (.int _) (.cons (.tup hb hd) (.cons (.int _) .nil))))
theorem lst_gd {ds : List PyData} (g : ∀ d ∈ ds, Gd 80 2 d) (hl : ds.length ≤ 1000) : Gd (2 ^ 20) 60 (.list ds) :=
  (GdAll.lst (GdAll.of g)).mono (by omega) (by decide)
theorem Rows.drop {H : Hp} {vs : List V} (h : Rows H vs) (n : Nat) : Rows H (vs.drop n) := fun v hv => h v (List.mem_of_mem_drop hv)
theorem Rows.take {H : Hp} {vs : List V} (h : Rows H vs) (n : Nat) : Rows H (vs.take n) := fun v hv => h v (List.mem_of_mem_take hv)
theorem Rows.tups {H : Hp} {vs : List V} (h : Rows H vs) : ∀ v ∈ vs, ∃ (c : Addr) (xs : List V), v = .ref c ∧ H c = some (.tup xs) := fun v hv =>
  let ⟨a, xs, _, e, f, _⟩ := h v hv
  ⟨a, xs, e, f⟩

theorem Has.make {H : Hp} {R : List (Addr × HO)} {x dx : Addr} {o : HO} (h : Has H R) (nx : H x = none) (nd : H dx = none) (ne : dx ≠ x) : Has (upd (upd H dx (.own x)) x o) ((x, o) :: R) :=
  (h.over nd).new (by rw [upd_ne ne.symm]; exact nx)
theorem Tk.make {H : Hp} {x dx : Addr} {o : HO} (nx : H x = none) (nd : H dx = none) (ne : dx ≠ x) : Tk H (upd (upd H dx (.own x)) x o) :=
  (Tk.new nd).trans (Tk.new (by rw [upd_ne ne.symm]; exact nx))
theorem same_mut {H H' : Hp} {t : Addr} {o : HO} (s : Same H H') (h : H t = none) : Same H (upd H' t o) := fun b u e => by
  rw [upd_ne (ne_of_none e h)]
  exact s b u e
theorem ite_dec {c A B : Prop} [Decidable c] (hc : c) (h : A) : if decide c = true then A else B := by
  rw [if_pos (decide_eq_true hc)]
  exact h
end Fc

set_option Elab.async false
set_option linter.all false
set_option maxRecDepth 100000
set_option maxHeartbeats 8000000
namespace Fc
open PySem L2
/-! ### what == asks of the class -/
structure W2 (K : PySem.W.Frag) (C : Addr) : Prop where
  ne : PySem.W.findIn K (.ref C) "__ne__" = some (some (.builtin "object.__ne__"))
  hm : PySem.W.mroIn K C (.type "object") = some true
  ha : PySem.W.findIn K (.ref C) "__class__" = some (some (.builtin "object.__class__"))
  hn : PySem.W.specialIn K (.builtin "object.__class__") "__get__" = some (some (.builtin "getset_descriptor.__get__"))
  ht : PySem.W.takesIn K (.builtin "object.__class__") = some true
  kC : PySem.W.kitOne K (.ref C) (.ref C) = some true
  kI : PySem.W.kitOne K (.type "int") (.ref C) = some false
  kL : PySem.W.kitOne K (.type "list") (.ref C) = some false
  kT : PySem.W.kitOne K (.type "tuple") (.ref C) = some false
  nC : PySem.W.notFirst K C (.ref C) = true
  nI : PySem.W.notFirst K C (.type "int") = true
  nL : PySem.W.notFirst K C (.type "list") = true
  nT : PySem.W.notFirst K C (.type "tuple") = true
def wD (kn : Int) (ds : List PyData) (cm : Int) : PyData := .tuple [.int kn, .list ds, .int cm]
def dueD (ds : List PyData) (n m : Int) : PyData := .tuple [.list ds, .int n, .int m]
theorem eqvAll_len : ∀ {xs ys : List PyData}, PyData.eqvAll xs ys = true → xs.length = ys.length
  | [], [], _ => rfl
  | x :: xs, y :: ys, h => by
    simp only [PyData.eqvAll, Bool.and_eq_true] at h
    rw [List.length_cons, List.length_cons, eqvAll_len h.2]
  | [], _ :: _, h => by simp [PyData.eqvAll] at h
  | _ :: _, [], h => by simp [PyData.eqvAll] at h
theorem eqvAll_comm (xs ys : List PyData) : PyData.eqvAll xs ys = PyData.eqvAll ys xs := by
  have := PySem.W.eqv_comm (.list xs) (.list ys)
  simpa only [PyData.eqv] using this
theorem due_eq {dv dw : List PyData} {k h n m : Int} (k0 : 0 ≤ k) (k1 : k ≤ dv.length) (h0 : 0 ≤ h) (h1 : h ≤ dw.length) :
    PyData.eqv (wD k (dv.drop k.toNat) n) (wD h (dw.drop h.toNat) m) = PyData.eqv (dueD (dw.drop h.toNat) dw.length m) (dueD (dv.drop k.toNat) dv.length n) := by
  unfold wD dueD
  simp only [PyData.eqv, PyData.eqvAll, Bool.and_true]
  rw [eqvAll_comm (dw.drop h.toNat) (dv.drop k.toNat)]
  cases e : PyData.eqvAll (dv.drop k.toNat) (dw.drop h.toNat) with
  | false => simp
  | true =>
    have l := eqvAll_len e
    rw [List.length_drop, List.length_drop] at l
    have e1 : (k == h) = ((dw.length : Int) == (dv.length : Int)) := by
      rw [Bool.eq_iff_iff, beq_iff_eq, beq_iff_eq]
      omega
    have e2 : (n == m) = (m == n) := by
      rw [Bool.eq_iff_iff, beq_iff_eq, beq_iff_eq]
      exact ⟨fun z => z.symm, fun z => z.symm⟩
    rw [e1, e2, Bool.true_and, Bool.true_and]
theorem wD_comm (k : Int) (ds : List PyData) (n h : Int) (es : List PyData) (m : Int) : PyData.eqv (wD h es m) (wD k ds n) = PyData.eqv (wD k ds n) (wD h es m) := PySem.W.eqv_comm _ _
theorem wD_refl {k n : Int} {ds : List PyData} (g : ∀ d ∈ ds, Gd 80 2 d) : PyData.eqv (wD k ds n) (wD k ds n) = true := by
  have e : PyData.eqvAll ds ds = true := by
    have g1 : Gd _ _ (.list ds) := (GdAll.of g).lst
    have := PySem.SeqAt.eqv_refl (.list ds) g1.cl
    simpa only [PyData.eqv] using this
  unfold wD
  simp only [PyData.eqv, PyData.eqvAll, Bool.and_true, e, beq_self_eq_true]
theorem wD_gd {k n : Int} {ds : List PyData} (hk : k.natAbs < 10 ^ 12) (hn : n.natAbs < 10 ^ 12) (g : ∀ d ∈ ds, Gd 80 2 d) : SeqAt.shaped (wD k ds n) = true := by
  have q := GdAll.cons ((Gd.int hk).mono (Nat.le_refl _) (by decide : 0 ≤ 3)) (GdAll.cons ((GdAll.of g).lst) (GdAll.cons ((Gd.int hn).mono (Nat.le_refl _) (by decide : 0 ≤ 3)) GdAll.nil))
  exact (GdAll.tup q).shaped (by decide)
theorem dueD_gd {k n : Int} {ds : List PyData} (hk : k.natAbs < 10 ^ 12) (hn : n.natAbs < 10 ^ 12) (g : ∀ d ∈ ds, Gd 80 2 d) : SeqAt.shaped (dueD ds k n) = true := by
  have q := GdAll.cons ((GdAll.of g).lst) (GdAll.cons ((Gd.int hk).mono (Nat.le_refl _) (by decide : 0 ≤ 3)) (GdAll.cons ((Gd.int hn).mono (Nat.le_refl _) (by decide : 0 ≤ 3)) GdAll.nil))
  exact (GdAll.tup q).shaped (by decide)
/-- the own ==: with another wire, or with what is none -/
def spWEq (K : PySem.W.Frag) (C : Addr) : Sp := fun vs H Q _ => ∃ (x dx l : Addr) (kn cm : Int) (ws : List V) (v : V), vs = [.ref x, v] ∧ H x = some (.ins C dx (wFs kn l cm)) ∧ H l = some (.lst ws) ∧
  ((∃ (y dy l' : Addr) (kn' cm' : Int) (ws' : List V) (ds ds' : List PyData), v = .ref y ∧ H y = some (.ins C dy (wFs kn' l' cm')) ∧ H l' = some (.lst ws') ∧ FzAll H ws ds ∧ FzAll H ws' ds' ∧ (∀ d ∈ ds, Gd 80 2 d) ∧ (∀ d ∈ ds', Gd 80 2 d) ∧
      kn.natAbs < 10 ^ 12 ∧ cm.natAbs < 10 ^ 12 ∧ kn'.natAbs < 10 ^ 12 ∧ cm'.natAbs < 10 ^ 12 ∧ ∀ H', Same H H' → Q (.bl (PyData.eqv (wD kn ds cm) (wD kn' ds' cm'))) H') ∨
   (∃ t : Value, TyX K H v t ∧ PySem.W.kitOne K t (.ref C) = some false ∧ Q (.bl false) H))
section
variable {P : Program} {w : World} {K : PySem.W.Frag} {mg : Str → Option Value} {base : Heap} {C fI : Addr} {fdI : FuncData} {tR : Tok}
theorem ty_wire {H : Hp} {x dx : Addr} {fs : List (Str × V)} (c : Cls K C) (W2 : W2 K C) (h : H x = some (.ins C dx fs)) : TyX K H (.ref x) (.ref C) := .base (.ins h c W2.ha W2.hn W2.ht W2.hm)
theorem ok_Wire_eq {f : Addr} {fd : FuncData} (M : Me K C "__eq__" "Wire.__eq__" s_Wire_eq ["self", "other"] f fd) (W : Wc K mg C fI fdI tR) (W2 : W2 K C) (B : Bl mg) : FnOk P w K mg base CX0 1 f fd ["self", "other"] (spWEq K C) := by
  refine M.F.ok sc_Wire_eq (fun vs H Q E h => ?_) (fun cdv A outer s H vs Q E hr h => ?_)
  · obtain ⟨x, dx, l, kn, cm, ws, v, rfl, _⟩ := h
    rfl
  · obtain ⟨x, dx, l, kn, cm, ws, v, rfl, hx, hl, hv⟩ := h
    refine ⟨_, (pss_cons (ps_if (pt_not (pt_val (pe_callB (call_isiE (K := K) rfl) (by rfl) B.b_isinstance (by decide +kernel) (pa_cons (pv 1) (pa_cons (pe_glob (v := .ref C) rfl W.g rfl) pa_nil)))))
        (pss_one (ps_ret pe_bl))
        pss_nil)
      (pss_one (ps_ret (pe_cmpR (op_eqE (K := K) rfl hr.units) (pe_tup (pa_cons (pe_fld (pv 0) rfl) (pa_cons (pe_fld (pv 0) rfl) (pa_cons (pe_fld (pv 0) rfl) pa_nil)))) (pe_tup (pa_cons (pe_fld (pv 1) rfl) (pa_cons (pe_fld (pv 1) rfl) (pa_cons (pe_fld (pv 1) rfl) pa_nil)))) (nomark _))))), ?_⟩
    rcases hv with ⟨y, dy, l', kn', cm', ws', ds, ds', rfl, hy, hl', fz, fz', gd, gd', b1, b2, b3, b4, k⟩ | ⟨t, ty, kt, q⟩
    · refine ⟨_, rfl, _, _, _, _, true, rfl, .own C, ty_wire W.cl W2 hy, W2.kC, _, rfl, ?_⟩
      refine iteF ?_
      refine ⟨_, rfl, x, C, dx, _, _, rfl, hx, W.cl, W.nk, wFs_known _ _ _, _, rfl, x, C, dx, _, _, rfl, hx, W.cl, W.nw, wFs_waiting _ _ _, _, rfl, x, C, dx, _, _, rfl, hx, W.cl, W.nc, wFs_came _ _ _, (by show 3 ≤ sizeLine; decide), fun t1 ht1 => ?_⟩
      have s1 := same_new (o := .tup [.int kn, .ref l, .int cm]) ht1
      refine ⟨_, rfl, y, C, dy, _, _, rfl, s1 _ _ hy, W.cl, W.nk, wFs_known _ _ _, _, rfl, y, C, dy, _, _, rfl, s1 _ _ hy, W.cl, W.nw, wFs_waiting _ _ _, _, rfl, y, C, dy, _, _, rfl, s1 _ _ hy, W.cl, W.nc, wFs_came _ _ _, (by show 3 ≤ sizeLine; decide), fun t2 ht2 => ?_⟩
      have s2 := s1.trans (same_new (o := .tup [.int kn', .ref l', .int cm']) ht2)
      refine ⟨wD kn ds cm, wD kn' ds' cm', .tup (SqT.of (same_new ht2 _ _ upd_same)) (.cons (.int _) (.cons (.lst (SqL.of (s2 _ _ hl)) (fz.keep (same_tk s2)).dp) (.cons (.int _) .nil))), .tup (SqT.of upd_same) (.cons (.int _) (.cons (.lst (SqL.of (s2 _ _ hl')) (fz'.keep (same_tk s2)).dp) (.cons (.int _) .nil))), wD_gd b1 b2 gd, wD_gd b3 b4 gd', ?_⟩
      exact k _ s2
    · refine ⟨_, rfl, _, _, _, _, false, rfl, .own C, ty, kt, _, rfl, ?_⟩
      refine iteT ?_
      exact q
end
end Fc

set_option Elab.async false
set_option linter.all false
set_option maxRecDepth 100000
set_option maxHeartbeats 8000000
namespace Fc
open PySem L2
theorem drop_max {vs : List V} {k h : Int} (k0 : 0 ≤ k) : (vs.drop k.toNat).drop (h - k).toNat = vs.drop (if k < h then h else k).toNat := by
  rw [List.drop_drop]
  split
  · rw [show k.toNat + (h - k).toNat = h.toNat by omega]
  · rw [show k.toNat + (h - k).toNat = k.toNat by omega]
theorem atI_nat' {xs : List V} {k : Nat} (h : k < xs.length) : atI xs (0 + (k : Int)) = some xs[k] := by
  rw [Int.zero_add]
  exact atI_nat (List.getElem?_eq_getElem h)
/-- a wire of such a history -/
def spMade (C : Addr) : Sp := fun args H Q _ => ∃ (p pl cl : Addr) (kn : Int) (z : Pen) (m : Nat) (R : List (Addr × HO)) (vs us : List V), args = [.ref p, .ref pl, .ref cl, .int kn] ∧ Has H (z.os p ++ R) ∧ (pl, .lst vs) ∈ R ∧ (cl, .lst us) ∈ R ∧
  Rows H vs ∧ Rows H us ∧ 0 ≤ kn ∧ kn ≤ vs.length ∧ vs.length ≤ 20 ∧ us.length ≤ 20 ∧ z.Ok m ∧ m + 100 < lim ∧
  ∀ (x dx l : Addr) (z' : Pen) (H' : Hp), Has H' (z'.os p ++ (wOs C x dx l kn us.length (vs.drop kn.toNat) ++ R)) → z'.Ok (m + 100) → Tk H H' → Q (.ref x) H'
section
variable {P : Program} {w : World} {K : PySem.W.Frag} {mg : Str → Option Value} {base : Heap} {C fI : Addr} {fdI : FuncData} {tR : Tok}
theorem ok_l_made {f g1 g2 g3 g4 g5 g6 : Addr} {fd d1 d2 d3 d4 d5 d6 : FuncData} (D : De K mg "_law_made" s_l_made ["_law_pen_here", "_law_placed", "_law_taken", "_law_known"] f fd) (B : Bl mg) (W : Wc K mg C fI fdI tR)
    (D_l_draw : De K mg "_law_draw" s_l_draw ["_law_pen_here", "_law_many"] g1 d1) (D_is_whole : De K mg "is_whole" s_is_whole ["thing"] g2 d2) (D_is_count : De K mg "is_count" s_is_count ["thing"] g3 d3)
    (D_is_letter : De K mg "is_letter" s_is_letter ["thing"] g4 d4) (M_put : Me K C "put" "Wire.put" s_Wire_put ["self", "row"] g5 d5) (M_take : Me K C "take" "Wire.take" s_Wire_take ["self", "letter"] g6 d6) :
    FnOk P w K mg base CX0 5 f fd ["_law_pen_here", "_law_placed", "_law_taken", "_law_known"] (spMade C) := by
  have G_l_draw := ok_l_draw (P := P) (w := w) (base := base) D_l_draw B
  have G_Wire_init := ok_Wire_init (P := P) (w := w) (base := base) W
  have G_Wire_put := ok_Wire_put (P := P) (w := w) (base := base) M_put W B
  have G_Wire_take := ok_Wire_take (P := P) (w := w) (base := base) M_take W B D_is_whole D_is_count D_is_letter
  refine D.F.ok sc_l_made (fun vs H Q E h => ?_) (fun cdv A outer s H vs Q E hr h => ?_)
  · obtain ⟨p, pl, cl, kn, z, m, R, vs, us, rfl, _⟩ := h
    rfl
  · obtain ⟨p, pl, cl, kn, z, m, R, vs, us, rfl, hh, mp, mc, rv, ru, k0, k1, lv, lu, zo, hm, k⟩ := h
    have hu := hu_of hr
    refine ⟨_, (pss_cons (ps_par (i := 4) (j := 5) (by rfl) sc_l_made.nd rfl rfl (by decide) rfl rfl (pa_cons (pe_make0 W.mk_ G_Wire_init (hr.mono (by decide)) rfl W.g W.b_init .nil pass0) (pa_cons (pe_cmpR op_eq (pe_call G_l_draw (hr.mono (by decide)) (by rfl) D_l_draw.g D_l_draw.F.kp D_l_draw.b .nil pass0 (pa_cons (pv 0) (pa_cons pe_int pa_nil))) pe_int (nomark _)) pa_nil)) (by rfl))
      (pss_cons (ps_for PassesOwn.never rfl (pi_range1 (by rfl) B.b_range (pa_cons (pe_callB (call_lenE (K := K) rfl) (by rfl) B.b_len (by decide +kernel) (pa_cons (pv 1) pa_nil)) pa_nil)) (pg_name (i := 6) sc_l_made.nd rfl (Or.inl rfl))
        (pss_cons (ps_expr (pe_meth (pv 4) W.cl M_put.m G_Wire_put (hr.mono (by decide)) M_put.b .nil pass0 (pa_cons (pe_ix (ix_listE (K := K) rfl) (pv 1) (pv 6) (fun _ _ => rfl)) pa_nil)))
        (pss_one (ps_if (PW.pt (pw_and (pt_not (pt_val (pv 5))) (pw_and1 (pt_cmpR op_eq (pe_call G_l_draw (hr.mono (by decide)) (by rfl) D_l_draw.g D_l_draw.F.kp D_l_draw.b .nil pass0 (pa_cons (pv 0) (pa_cons pe_int pa_nil))) pe_int (nomark _)))))
          (pss_one (ps_expr (pe_meth (pv 4) W.cl M_take.m G_Wire_take (hr.mono (by decide)) M_take.b .nil pass0 (pa_cons (pe_tup (pa_cons pe_str (pa_cons pe_int (pa_cons (pe_tup pa_nil) (pa_cons (pe_callB (call_min2 rfl) (by rfl) B.b_min (by decide +kernel) (pa_cons (pv 3) (pa_cons (pe_call G_l_draw (hr.mono (by decide)) (by rfl) D_l_draw.g D_l_draw.F.kp D_l_draw.b .nil pass0 (pa_cons (pv 0) (pa_cons (pe_op op_add (pv 6) pe_int) pa_nil))) pa_nil))) pa_nil))))) pa_nil))))
          pss_nil))))
      (C8.pss_cut (ps_if (pt_not (pt_val (pv 5)))
        (pss_one (ps_for PassesOwn.never rfl (pi_range1 (by rfl) B.b_range (pa_cons (pe_callB (call_lenE (K := K) rfl) (by rfl) B.b_len (by decide +kernel) (pa_cons (pv 2) pa_nil)) pa_nil)) (pg_name (i := 6) sc_l_made.nd rfl (Or.inl rfl))
          (pss_one (ps_expr (pe_meth (pv 4) W.cl M_take.m G_Wire_take (hr.mono (by decide)) M_take.b .nil pass0 (pa_cons (pe_tup (pa_cons pe_str (pa_cons (pv 6) (pa_cons (pe_tup (pa_cons (pe_ix (ix_listE (K := K) rfl) (pv 2) (pv 6) (fun _ _ => rfl)) pa_nil)) (pa_cons pe_int pa_nil))))) pa_nil))))))
        pss_nil)
      (pss_cons (ps_expr (pe_meth (pv 4) W.cl M_take.m G_Wire_take (hr.mono (by decide)) M_take.b .nil pass0 (pa_cons (pe_tup (pa_cons pe_str (pa_cons pe_int (pa_cons (pe_callTy (call_tupleE (K := K) rfl) (by rfl) B.b_tuple (by decide +kernel) (pa_cons (pv 2) pa_nil)) (pa_cons (pv 3) pa_nil))))) pa_nil)))
      (pss_one (ps_ret (pv 4))))))), ?_⟩
    have hm' : m + 100 < 1099511627776 := hm
    intro x dx nx nd ne
    refine ⟨x, dx, _, rfl, hh.make nx nd ne, fun l H1 h1 k1' => ⟨rfl, ?_⟩⟩
    have h1' : Has H1 (z.os p ++ (wOs C x dx l 0 0 [] ++ R)) := h1.pre (xs := [_, _, _, _]) [2, 3, 0, 1]
    refine ⟨_, rfl, p, 2, z, m, _, rfl, by decide, by decide, h1', zo, by show _ < 1099511627776; omega, fun d z2 H2 d0 d1 h2 zo2 k2 => ⟨rfl, _, _, rfl, ?_⟩⟩
    have kA : Tk H H2 := (Tk.make nx nd ne).trans (k1'.trans k2)
    -- 0 p, 1 c, 2 x, 3 l, R
    have inR : ∀ {H3 : Hp} {z3 : Pen} {o : List (Addr × HO)}, Has H3 (z3.os p ++ (o ++ R)) → H3 pl = some (.lst vs) ∧ H3 cl = some (.lst us) := fun h3 =>
      ⟨h3.get (pl, .lst vs) (List.mem_append_right _ (List.mem_append_right _ mp)), h3.get (cl, .lst us) (List.mem_append_right _ (List.mem_append_right _ mc))⟩
    generalize hat : decide (V.int d = V.int 0) = once
    -- for k in range(len(placed))
    refine ⟨_, rfl, pl, vs, rfl, .inl (SqL.of (inR h2).1), _, rfl, by omega, by omega, for_range (lo := 0) (n := ((vs.length : Int)).toNat) (fun i σ H3 => ∃ (v6 : Option V) (l : Addr) (ki : Int) (z3 : Pen), σ = [some (.ref p), some (.ref pl), some (.ref cl), some (.int kn), some (.ref x), some (.bl once), v6] ∧
      Has H3 (z3.os p ++ (wOs C x dx l ki 0 ((vs.take i).drop ki.toNat) ++ R)) ∧ 0 ≤ ki ∧ ki ≤ kn ∧ ki ≤ i ∧ z3.Ok (m + 1 + 2 * i) ∧ Tk H H3) ?_ ?_ ?_⟩
    · exact ⟨none, l, 0, z2, rfl, h2, Int.le_refl _, k0, Int.le_refl _, zo2, kA⟩
    · rintro i σ H3 hi ⟨v6, l3, ki, z3, rfl, h3, ki0, ki1, ki2, zo3, k3⟩
      have hi' : i < vs.length := by omega
      have e1 : (vs.take i).drop ki.toNat ++ [vs[i]] = (vs.take (i + 1)).drop ki.toNat := by
        rw [List.take_add_one, List.getElem?_eq_getElem hi', Option.toList_some, List.drop_append_of_le_length (by rw [List.length_take]; omega)]
      refine ⟨_, rfl, x, dx, _, rfl, h3.at 2 rfl, wFs_no _ _ _ (by decide +kernel) (by decide +kernel) (by decide +kernel), _, rfl, _, rfl, pl, _, _, _, rfl, rfl, SqL.of (inR h3).1, atI_nat' hi', x, dx, l3, ki, 0, _, _, _, rfl, h3.pre (xs := [_, _, _, _]) [2, 3, 0, 1], (by rw [List.length_drop, List.length_take]; omega), fun H4 h4 k4 => ?_⟩
      rw [e1] at h4
      have h4' : Has H4 (z3.os p ++ (wOs C x dx l3 ki 0 ((vs.take (i + 1)).drop ki.toNat) ++ R)) := h4.pre (xs := [_, _, _, _]) [2, 3, 0, 1]
      refine ⟨_, rfl, _, rfl, ?_⟩
      refine ite2 (fun ho => ?_) (fun ho => ?_)
      · refine ⟨_, rfl, p, 2, z3, _, _, rfl, by decide, by decide, h4', zo3, by show _ < 1099511627776; omega, fun d5 z5 H5 d50 d51 h5 zo5 k5 => ⟨rfl, _, rfl, ?_⟩⟩
        refine ite2 (fun ho2 => ?_) (fun ho2 => ?_)
        · refine ⟨_, rfl, x, dx, _, rfl, h5.at 2 rfl, wFs_no _ _ _ (by decide +kernel) (by decide +kernel) (by decide +kernel), (by show 0 ≤ sizeLine; decide), fun t0 ht0 => ?_⟩
          have h6 := h5.over (o := .tup []) ht0
          refine ⟨_, rfl, _, rfl, _, rfl, _, _, rfl, rfl, p, _, z5, _, _, rfl, by omega, by omega, h6, zo5, by show _ < 1099511627776; omega, fun d7 z7 H7 d70 d71 h7 zo7 k7 => ⟨_, _, rfl, (by show 4 ≤ sizeLine; decide), fun t1 ht1 => ?_⟩⟩
          have h8 := h7.over (o := .tup [.str "rows", .int 0, .ref t0, .int (if d7 < kn then d7 else kn)]) ht1
          have t0' : upd H7 t1 (.tup [.str "rows", .int 0, .ref t0, .int (if d7 < kn then d7 else kn)]) t0 = some (.tup []) := same_new ht1 _ _ (k7 _ _ upd_same)
          refine ⟨x, dx, l3, t1, t0, ki, 0, 0, _, _, [], _, rfl, h8.pre (xs := [_, _, _, _]) [2, 3, 0, 1], ⟨upd_same, t0', Int.le_refl _, (by split <;> omega), (by decide), fun v hv => absurd hv List.not_mem_nil⟩, Int.le_refl _, (by rw [List.length_drop, List.length_take]; split <;> omega), fun fo l9 H9 h9 k9 => ?_⟩
          rw [drop_max ki0] at h9
          -- 0 fo, 1 x, 2 l, 3 p, 4 c, R
          refine ⟨_, l9, _, z7, rfl, h9.pre (xs := [_, _, _, _, _]) [3, 4, 1, 2], (by split <;> omega), (by split <;> (try split) <;> omega), (by split <;> (try split) <;> omega), zo7.mono (by omega), k3.trans (k4.trans (k5.trans ((Tk.new ht0).trans (k7.trans ((Tk.new ht1).trans k9)))))⟩
        · exact ⟨_, l3, ki, z5, rfl, h5, ki0, ki1, by omega, zo5.mono (by omega), k3.trans (k4.trans k5)⟩
      · refine iteF ?_
        exact ⟨_, l3, ki, z3, rfl, h4', ki0, ki1, by omega, zo3.mono (by omega), k3.trans k4⟩
    · rintro σ H3 ⟨v6, l3, ki, z3, rfl, h3, ki0, ki1, ki2, zo3, k3⟩
      rw [show ((vs.length : Int)).toNat = vs.length from Int.toNat_natCast _, List.take_length] at h3
      -- if not at_once
      refine ⟨fun σ' H' => ∃ (v6 : Option V) (l : Addr) (ci : Int), σ' = [some (.ref p), some (.ref pl), some (.ref cl), some (.int kn), some (.ref x), some (.bl once), v6] ∧
        Has H' (z3.os p ++ (wOs C x dx l ki ci (vs.drop ki.toNat) ++ R)) ∧ 0 ≤ ci ∧ ci ≤ us.length ∧ Tk H H', ?_, ?_⟩
      · refine ⟨_, rfl, _, rfl, ?_⟩
        refine ite2 (fun ho => ?_) (fun ho => ?_)
        · refine ⟨_, rfl, cl, us, rfl, .inl (SqL.of (inR h3).2), _, rfl, by omega, by omega, for_range (lo := 0) (n := ((us.length : Int)).toNat) (fun i σ H4 => ∃ (v6 : Option V) (l : Addr), σ = [some (.ref p), some (.ref pl), some (.ref cl), some (.int kn), some (.ref x), some (.bl once), v6] ∧
            Has H4 (z3.os p ++ (wOs C x dx l ki i (vs.drop ki.toNat) ++ R)) ∧ Tk H H4) ?_ ?_ ?_⟩
          · exact ⟨v6, l3, rfl, h3, k3⟩
          · rintro i σ H4 hi ⟨v6', l4, rfl, h4, k4⟩
            have hi' : i < us.length := by omega
            refine ⟨_, rfl, x, dx, _, rfl, h4.at 2 rfl, wFs_no _ _ _ (by decide +kernel) (by decide +kernel) (by decide +kernel), _, rfl, _, rfl, _, rfl, cl, _, _, _, rfl, rfl, SqL.of (inR h4).2, atI_nat' hi', (by show 1 ≤ sizeLine; decide), fun t0 ht0 => ⟨(by show 4 ≤ sizeLine; decide), fun t1 ht1 => ?_⟩⟩
            have h5 := (h4.over (o := .tup [us[i]]) ht0).over (o := .tup [.str "rows", .int (0 + (i : Int)), .ref t0, .int 0]) ht1
            have k5 := (same_new (o := .tup [us[i]]) ht0).trans (same_new (o := .tup [.str "rows", .int (0 + (i : Int)), .ref t0, .int 0]) ht1)
            have r5 := (ru.keep k4).keep (same_tk k5)
            refine ⟨x, dx, l4, t1, t0, ki, i, 0 + (i : Int), 0, _, [us[i]], _, rfl, h5.pre (xs := [_, _, _, _]) [2, 3, 0, 1], ⟨upd_same, same_new ht1 _ _ upd_same, by omega, Int.le_refl _, (by show 1 ≤ 1000; decide), fun v hv => ?_⟩, by omega, by omega, fun fo l6 H6 h6 k6 => ?_⟩
            · rw [List.mem_singleton.mp hv]
              obtain ⟨c, xs, _, e, hc, _⟩ := r5 us[i] (List.getElem_mem hi')
              exact ⟨c, xs, e, hc⟩
            · rw [show ((i : Int) - (0 + (i : Int))).toNat = 0 by omega, List.drop_zero, show ((0 : Int) - ki).toNat = 0 by omega, List.drop_zero, show (if ki < 0 then (0 : Int) else ki) = ki by split <;> omega] at h6
              exact ⟨_, l6, rfl, h6.pre (xs := [_, _, _, _, _]) [3, 4, 1, 2], k4.trans ((same_tk k5).trans k6)⟩
          · rintro σ H4 ⟨v6', l4, rfl, h4, k4⟩
            exact ⟨v6', l4, _, rfl, h4, by omega, by omega, k4⟩
        · exact ⟨v6, l3, 0, rfl, h3, Int.le_refl _, by omega, k3⟩
      · rintro σ' H4 ⟨v6', l4, ci, rfl, h4, ci0, ci1, k4⟩
        -- wire.take(("rows", 0, tuple(taken), known))
        refine ⟨_, rfl, x, dx, _, rfl, h4.at 2 rfl, wFs_no _ _ _ (by decide +kernel) (by decide +kernel) (by decide +kernel), _, rfl, cl, us, rfl, .inl ⟨SqL.of (inR h4).2, fun t0 ht0 => ⟨_, rfl, (by show 4 ≤ sizeLine; decide), fun t1 ht1 => ?_⟩⟩⟩
        have h5 := (h4.over (o := .tup us) ht0).over (o := .tup [.str "rows", .int 0, .ref t0, .int kn]) ht1
        have k5 := (same_new (o := .tup us) ht0).trans (same_new (o := .tup [.str "rows", .int 0, .ref t0, .int kn]) ht1)
        have r5 := (ru.keep k4).keep (same_tk k5)
        refine ⟨x, dx, l4, t1, t0, ki, ci, 0, kn, _, us, _, rfl, h5.pre (xs := [_, _, _, _]) [2, 3, 0, 1], ⟨upd_same, same_new ht1 _ _ upd_same, Int.le_refl _, k0, by omega, r5.tups⟩, ci0, (by rw [List.length_drop]; omega), fun fo l6 H6 h6 k6 => ⟨_, rfl, ?_⟩⟩
        rw [drop_max ki0, show (if ki < kn then kn else ki) = kn by split <;> omega, show ci + ((us.drop (ci - 0).toNat).length : Int) = us.length by rw [List.length_drop]; omega] at h6
        exact k x dx l6 z3 H6 (h6.pre (xs := [_, _, _, _, _]) [3, 4, 1, 2]) (zo3.mono (by omega)) (k4.trans ((same_tk k5).trans k6))
end
end Fc

set_option Elab.async false
set_option linter.all false
set_option maxRecDepth 100000
set_option maxHeartbeats 16000000
namespace Fc
open PySem L2
def spLaw (K : PySem.W.Frag) : Sp := fun vs H Q _ => ∃ (a : Addr) (ns : List Int), vs = [.ref a] ∧ SqL K H a (ns.map V.int) ∧ ns.length ≤ 63 ∧ ∀ H', Q (.bl true) H'
/-- a row within a bound -/
def RowB (b : Nat) (H : Hp) (v : V) : Prop := ∃ (a : Addr) (xs : List V) (ds : List PyData), v = .ref a ∧ H a = some (.tup xs) ∧ FzAll H xs ds ∧ GdAll b 1 ds ∧ xs.length + 60 ≤ b
theorem RowB.keep {b : Nat} {H H' : Hp} {v : V} (k : Tk H H') (h : RowB b H v) : RowB b H' v := let ⟨a, xs, ds, e, f, g, q, l⟩ := h; ⟨a, xs, ds, e, k _ _ f, g.keep k, q, l⟩
theorem RowB.row {b : Nat} {H : Hp} {v : V} (hb : b ≤ 80) (h : RowB b H v) : RowOk H v := let ⟨a, xs, ds, e, f, g, q, _⟩ := h; ⟨a, xs, ds, e, f, g, q.mono hb (Nat.le_refl _)⟩
def RowsB (b : Nat) (H : Hp) (vs : List V) : Prop := ∀ v ∈ vs, RowB b H v
theorem RowsB.keep {b : Nat} {H H' : Hp} {vs : List V} (k : Tk H H') (h : RowsB b H vs) : RowsB b H' vs := fun v hv => (h v hv).keep k
theorem RowsB.rows {b : Nat} {H : Hp} {vs : List V} (hb : b ≤ 80) (h : RowsB b H vs) : Rows H vs := fun v hv => (h v hv).row hb
theorem RowsB.nil {b : Nat} {H : Hp} : RowsB b H [] := fun v hv => absurd hv List.not_mem_nil
theorem Rows.snoc {H : Hp} {vs : List V} {v : V} (h : Rows H vs) (hv : RowOk H v) : Rows H (vs ++ [v]) := fun u hu => by
  rcases List.mem_append.mp hu with hu | hu
  · exact h u hu
  · rw [List.mem_singleton.mp hu]
    exact hv
theorem Rows.append {H : Hp} {vs us : List V} (h : Rows H vs) (hv : Rows H us) : Rows H (vs ++ us) := fun u hu => by
  rcases List.mem_append.mp hu with hu | hu
  · exact h u hu
  · exact hv u hu
theorem row_nil {H : Hp} {e : Addr} (h : H e = some (.tup [])) : RowOk H (.ref e) := ⟨e, [], [], rfl, h, .nil, GdAll.nil.mono (by decide) (Nat.le_refl _)⟩
/-- one of the others -/
def OthOk (H : Hp) (R : List (Addr × HO)) (v : V) : Prop := ∃ (t m c : Addr) (h : Int) (ms cs : List V), v = .ref t ∧ H t = some (.tup [.ref m, .ref c, .int h]) ∧ (m, .lst ms) ∈ R ∧ (c, .lst cs) ∈ R ∧ Rows H ms ∧ Rows H cs ∧ 0 ≤ h ∧ h ≤ ms.length ∧ ms.length ≤ 20 ∧ cs.length ≤ 20
theorem OthOk.keep {H H' : Hp} {R : List (Addr × HO)} {v : V} (k : Tk H H') (o : OthOk H R v) : OthOk H' R v :=
  let ⟨t, m, c, h, ms, cs, e, ht, q1, q2, r1, r2, z⟩ := o
  ⟨t, m, c, h, ms, cs, e, k _ _ ht, q1, q2, r1.keep k, r2.keep k, z⟩
theorem cut_mem {xs : List V} {lo hi : Option Int} {v : V} (h : v ∈ cutV xs lo hi) : v ∈ xs := List.mem_of_mem_drop (List.mem_of_mem_take h)
theorem row_cat {b : Nat} {H H' : Hp} {x : Str} {u r : Addr} {v : V} {a : Addr} {xs : List V} {ds : List PyData} (gx : Gd 1 0 (.str x)) (k : Tk H H') (fa : FzAll H xs ds) (ga : GdAll b 1 ds) (lx : xs.length + 60 ≤ b) (hr : H' r = some (.tup ([.str x] ++ xs))) : RowB (b + 2) H' (.ref r) := by
  refine ⟨r, _, .str x :: ds, rfl, hr, .cons (.str x) (fa.keep k), (GdAll.cons (gx.mono (Nat.le_refl _) (by decide)) ga).mono (by omega) (Nat.le_refl _), ?_⟩
  rw [List.length_append, List.length_singleton]
  omega
section
variable {P : Program} {w : World} {K : PySem.W.Frag} {mg : Str → Option Value} {base : Heap} {C fI : Addr} {fdI : FuncData} {tR : Tok}
theorem ok_law {f : Addr} {fd : FuncData} {g1 g2 g3 g4 g5 g6 g7 g8 g9 g10 g11 g12 g13 : Addr} {d1 d2 d3 d4 d5 d6 d7 d8 d9 d10 d11 d12 d13 : FuncData}
    (D : De K mg "law" s_law ["_law_script"] f fd) (B : Bl mg) (W : Wc K mg C fI fdI tR) (W2 : W2 K C)
    (D_l_pen : De K mg "_law_pen" s_l_pen ["_law_script"] g1 d1) (D_l_draw : De K mg "_law_draw" s_l_draw ["_law_pen_here", "_law_many"] g2 d2) (D_l_pick : De K mg "_law_pick" s_l_pick ["_law_pen_here", "_law_some"] g3 d3)
    (D_l_plain : De K mg "_law_plain" s_l_plain ["_law_pen_here"] g4 d4) (D_l_row_of : De K mg "_law_row_of" s_l_row_of ["_law_pen_here"] g5 d5)
    (D_l_made : De K mg "_law_made" s_l_made ["_law_pen_here", "_law_placed", "_law_taken", "_law_known"] g6 d6) (D_is_whole : De K mg "is_whole" s_is_whole ["thing"] g7 d7) (D_is_count : De K mg "is_count" s_is_count ["thing"] g8 d8)
    (D_is_letter : De K mg "is_letter" s_is_letter ["thing"] g9 d9) (M_put : Me K C "put" "Wire.put" s_Wire_put ["self", "row"] g10 d10) (M_letter : Me K C "letter" "Wire.letter" s_Wire_letter ["self"] g11 d11)
    (M_take : Me K C "take" "Wire.take" s_Wire_take ["self", "letter"] g12 d12) (M_eq : Me K C "__eq__" "Wire.__eq__" s_Wire_eq ["self", "other"] g13 d13) : FnOk P w K mg base CX0 6 f fd ["_law_script"] (spLaw K) := by
  have G_l_pen := ok_l_pen (P := P) (w := w) (base := base) D_l_pen B
  have G_l_draw := ok_l_draw (P := P) (w := w) (base := base) D_l_draw B
  have G_l_row_of := ok_l_row_of (P := P) (w := w) (base := base) D_l_row_of B D_l_draw D_l_pick D_l_plain
  have G_l_made := ok_l_made (P := P) (w := w) (base := base) D_l_made B W D_l_draw D_is_whole D_is_count D_is_letter M_put M_take
  have G_Wire_init := ok_Wire_init (P := P) (w := w) (base := base) W
  have G_Wire_letter := ok_Wire_letter (P := P) (w := w) (base := base) M_letter W B
  have G_Wire_eq := ok_Wire_eq (P := P) (w := w) (base := base) M_eq W W2 B
  refine D.F.ok sc_law (fun vs H Q E h => ?_) (fun cdv A outer s H vs Q E hr h => ?_)
  · obtain ⟨a, ns, rfl, _⟩ := h
    rfl
  · obtain ⟨sc, ns, rfl, hS, hn, k⟩ := h
    have hu := hu_of hr
    refine ⟨_, (pss_cons (ps_set (i := 1) sc_law.nd rfl (Or.inr rfl) (pe_call G_l_pen (hr.mono (by decide)) (by rfl) D_l_pen.g D_l_pen.F.kp D_l_pen.b .nil pass0 (pa_cons (pv 0) pa_nil)))
      (pss_cons (ps_for PassesOwn.never rfl (pi_range1 (by rfl) B.b_range (pa_cons pe_int pa_nil)) (pg_name (i := 2) sc_law.nd rfl (Or.inl rfl))
        (pss_cons (ps_setLc (i := 3) (own := [("_law_k", 4)]) (g := gName 4) (tt := tYes) rfl sc_law.nd rfl rfl (sw_true rfl rfl rfl (by decide +kernel)) (pi_range1 (by rfl) B.b_range (pa_cons (pe_call G_l_draw (hr.mono (by decide)) (by rfl) D_l_draw.g D_l_draw.F.kp D_l_draw.b .nil pass0 (pa_cons (pv 1) (pa_cons pe_int pa_nil))) pa_nil)) (blkOk_by (own := [("_law_k", 4)]) (N := N_law) (sc := defScope s_law) (by decide +kernel)) (fun _ _ _ _ _ => pg_name (i := 4) sc_law.nd rfl (Or.inl rfl)) (fun _ _ _ _ _ => pts_nil) (fun _ _ _ _ _ => (pe_call G_l_row_of (hr.mono (by decide)) (by rfl) D_l_row_of.g D_l_row_of.F.kp D_l_row_of.b .nil pass0 (pa_cons (pv 1) pa_nil))))
        (pss_cons (ps_setLc (i := 5) (own := [("_law_k", 4)]) (g := gName 4) (tt := tYes) rfl sc_law.nd rfl rfl (sw_true rfl rfl rfl (by decide +kernel)) (pi_range1 (by rfl) B.b_range (pa_cons (pe_call G_l_draw (hr.mono (by decide)) (by rfl) D_l_draw.g D_l_draw.F.kp D_l_draw.b .nil pass0 (pa_cons (pv 1) (pa_cons pe_int pa_nil))) pa_nil)) (blkOk_by (own := [("_law_k", 4)]) (N := N_law) (sc := defScope s_law) (by decide +kernel)) (fun _ _ _ _ _ => pg_name (i := 4) sc_law.nd rfl (Or.inl rfl)) (fun _ _ _ _ _ => pts_nil) (fun _ _ _ _ _ => (pe_call G_l_row_of (hr.mono (by decide)) (by rfl) D_l_row_of.g D_l_row_of.F.kp D_l_row_of.b .nil pass0 (pa_cons (pv 1) pa_nil))))
        (pss_cons (ps_set (i := 6) sc_law.nd rfl (Or.inl rfl) (pe_call G_l_draw (hr.mono (by decide)) (by rfl) D_l_draw.g D_l_draw.F.kp D_l_draw.b .nil pass0 (pa_cons (pv 1) (pa_cons (pe_op op_add (pe_callB (call_lenE (K := K) rfl) (by rfl) B.b_len (by decide +kernel) (pa_cons (pv 3) pa_nil)) pe_int) pa_nil))))
        (pss_cons (ps_set (i := 7) sc_law.nd rfl (Or.inl rfl) (pe_call G_l_made (hr.mono (by decide)) (by rfl) D_l_made.g D_l_made.F.kp D_l_made.b .nil pass0 (pa_cons (pv 1) (pa_cons (pv 3) (pa_cons (pv 5) (pa_cons (pv 6) pa_nil))))))
        (pss_cons (ps_set (i := 8) sc_law.nd rfl (Or.inl rfl) (pe_lst (pa_cons (pe_tup (pa_cons (pv 3) (pa_cons (pv 5) (pa_cons (pv 6) pa_nil)))) (pa_cons (pe_tup (pa_cons (pe_op op_cat (pv 3) (pe_lst (pa_cons (pe_tup pa_nil) pa_nil))) (pa_cons (pv 5) (pa_cons (pv 6) pa_nil)))) (pa_cons (pe_tup (pa_cons (pv 3) (pa_cons (pe_op op_cat (pv 5) (pe_lst (pa_cons (pe_tup pa_nil) pa_nil))) (pa_cons (pv 6) pa_nil)))) pa_nil)))))
        (pss_cons (ps_expr (pe_bm PySem.F.plainAttrs_list PySem.F.slot_list_append PySem.F.type_list_append mt_append (pv 8) (pa_cons (pe_tup (pa_cons (pe_slice (sl_listE (K := K) rfl) (pv 3) po_none (po_some (pe_un un_neg pe_int))) (pa_cons (pv 5) (pa_cons pe_int pa_nil)))) pa_nil)))
        (pss_cons (ps_expr (pe_bm PySem.F.plainAttrs_list PySem.F.slot_list_append PySem.F.type_list_append mt_append (pv 8) (pa_cons (pe_tup (pa_cons (pv 3) (pa_cons (pe_lc (own := [("_law_row", 9)]) (g := gName 9) (tt := tYes) rfl sc_law.nd (pi_list (pv 5)) (blkOk_by (own := [("_law_row", 9)]) (N := N_law) (sc := defScope s_law) (by decide +kernel)) (fun _ _ _ _ _ => pg_name (i := 9) sc_law.nd rfl (Or.inl rfl)) (fun _ _ _ _ _ => pts_nil) (fun _ _ _ _ _ => (pe_op op_catX (pe_tup (pa_cons pe_str pa_nil)) (pv 9)))) (pa_cons (pv 6) pa_nil)))) pa_nil)))
        (pss_cons (ps_expr (pe_bm PySem.F.plainAttrs_list PySem.F.slot_list_append PySem.F.type_list_append mt_append (pv 8) (pa_cons (pe_tup (pa_cons (pe_op op_cat (pe_lc (own := [("_law_row", 9)]) (g := gName 9) (tt := tYes) rfl sc_law.nd (pi_list (pe_slice (sl_listE (K := K) rfl) (pv 3) po_none (po_some (pv 6)))) (blkOk_by (own := [("_law_row", 9)]) (N := N_law) (sc := defScope s_law) (by decide +kernel)) (fun _ _ _ _ _ => pg_name (i := 9) sc_law.nd rfl (Or.inl rfl)) (fun _ _ _ _ _ => pts_nil) (fun _ _ _ _ _ => (pe_op op_catX (pe_tup (pa_cons pe_str pa_nil)) (pv 9)))) (pe_slice (sl_listE (K := K) rfl) (pv 3) (po_some (pv 6)) po_none)) (pa_cons (pv 5) (pa_cons (pv 6) pa_nil)))) pa_nil)))
        (pss_cons (ps_expr (pe_bm PySem.F.plainAttrs_list PySem.F.slot_list_append PySem.F.type_list_append mt_append (pv 8) (pa_cons (pe_tup (pa_cons (pv 3) (pa_cons (pv 5) (pa_cons (pe_call G_l_draw (hr.mono (by decide)) (by rfl) D_l_draw.g D_l_draw.F.kp D_l_draw.b .nil pass0 (pa_cons (pv 1) (pa_cons (pe_op op_add (pe_callB (call_lenE (K := K) rfl) (by rfl) B.b_len (by decide +kernel) (pa_cons (pv 3) pa_nil)) pe_int) pa_nil))) pa_nil)))) pa_nil)))
        (pss_cons (ps_for PassesOwn.never rfl (pi_list (pv 8)) (pg_tup rfl (pgs_cons (pg_name (i := 10) sc_law.nd rfl (Or.inl rfl)) (pgs_cons (pg_name (i := 11) sc_law.nd rfl (Or.inl rfl)) (pgs_cons (pg_name (i := 12) sc_law.nd rfl (Or.inl rfl)) pgs_nil))))
          (pss_cons (ps_set (i := 13) sc_law.nd rfl (Or.inl rfl) (pe_call G_l_made (hr.mono (by decide)) (by rfl) D_l_made.g D_l_made.F.kp D_l_made.b .nil pass0 (pa_cons (pv 1) (pa_cons (pv 10) (pa_cons (pv 11) (pa_cons (pv 12) pa_nil))))))
          (pss_cons (ps_set (i := 14) sc_law.nd rfl (Or.inl rfl) (pe_cmpR (op_eqE (K := K) rfl hr.units) (pe_tup (pa_cons (pe_slice (sl_listE (K := K) rfl) (pv 10) (po_some (pv 12)) po_none) (pa_cons (pe_callB (call_lenE (K := K) rfl) (by rfl) B.b_len (by decide +kernel) (pa_cons (pv 10) pa_nil)) (pa_cons (pe_callB (call_lenE (K := K) rfl) (by rfl) B.b_len (by decide +kernel) (pa_cons (pv 11) pa_nil)) pa_nil)))) (pe_tup (pa_cons (pe_slice (sl_listE (K := K) rfl) (pv 3) (po_some (pv 6)) po_none) (pa_cons (pe_callB (call_lenE (K := K) rfl) (by rfl) B.b_len (by decide +kernel) (pa_cons (pv 3) pa_nil)) (pa_cons (pe_callB (call_lenE (K := K) rfl) (by rfl) B.b_len (by decide +kernel) (pa_cons (pv 5) pa_nil)) pa_nil)))) (nomark _)))
          (pss_cons (ps_set (i := 15) sc_law.nd rfl (Or.inl rfl) (pe_lst (pa_cons (pe_cmpR (op_eqO (K := K) rfl M_eq.m.at_ M_eq.m.fn G_Wire_eq (hr.mono (by decide)) M_eq.b pass0) (pv 7) (pv 13) (nomark _)) (pa_cons (pe_cmpR (op_eqO (K := K) rfl M_eq.m.at_ M_eq.m.fn G_Wire_eq (hr.mono (by decide)) M_eq.b pass0) (pv 13) (pv 7) (nomark _)) (pa_cons (pe_cmpR (op_neO (K := K) rfl W2.ne W2.hm M_eq.m.at_ M_eq.m.fn G_Wire_eq (hr.mono (by decide)) M_eq.b pass0) (pv 7) (pv 13) (nomark _)) (pa_cons (pe_cmpR (op_eqO (K := K) rfl M_eq.m.at_ M_eq.m.fn G_Wire_eq (hr.mono (by decide)) M_eq.b pass0) (pv 7) (pv 7) (nomark _)) pa_nil))))))
          (pss_cons (ps_if (pt_cmpR (op_neE (K := K) rfl hr.units) (pv 15) (pe_lst (pa_cons (pv 14) (pa_cons (pv 14) (pa_cons (pe_not (pv 14)) (pa_cons pe_bl pa_nil))))) (nomark _))
            (pss_one (ps_ret pe_bl))
            pss_nil)
          (pss_cons (ps_expr (pe_meth0 (pv 13) W.cl M_letter.m G_Wire_letter (hr.mono (by decide)) M_letter.b .nil pass0))
          (pss_one (ps_if (pt_cmpR op_ne (pe_cmpR (op_eqO (K := K) rfl M_eq.m.at_ M_eq.m.fn G_Wire_eq (hr.mono (by decide)) M_eq.b pass0) (pv 7) (pv 13) (nomark _)) (pv 14) (nomark _))
            (pss_one (ps_ret pe_bl))
            pss_nil))))))))
        (pss_one (ps_if (PW.pt (pw_or (pt_cmpR (op_eqO (K := K) rfl M_eq.m.at_ M_eq.m.fn G_Wire_eq (hr.mono (by decide)) M_eq.b pass0) (pv 7) (pe_meth0 (pv 7) W.cl M_letter.m G_Wire_letter (hr.mono (by decide)) M_letter.b .nil pass0) (nomark _)) (pw_or (pt_cmpR (op_eqO (K := K) rfl M_eq.m.at_ M_eq.m.fn G_Wire_eq (hr.mono (by decide)) M_eq.b pass0) (pv 7) pe_int (nomark _)) (pw_or (pt_cmpR (op_eqO (K := K) rfl M_eq.m.at_ M_eq.m.fn G_Wire_eq (hr.mono (by decide)) M_eq.b pass0) (pv 7) (pe_lst pa_nil) (nomark _)) (pw_or1 (pt_not (pt_cmpR (op_eqO (K := K) rfl M_eq.m.at_ M_eq.m.fn G_Wire_eq (hr.mono (by decide)) M_eq.b pass0) (pv 7) (pv 7) (nomark _))))))))
          (pss_one (ps_ret pe_bl))
          pss_nil)))))))))))))
      (pss_one (ps_ret (pe_cmpR (op_eqO (K := K) rfl M_eq.m.at_ M_eq.m.fn G_Wire_eq (hr.mono (by decide)) M_eq.b pass0) (pe_make0 W.mk_ G_Wire_init (hr.mono (by decide)) rfl W.g W.b_init .nil pass0) (pe_make0 W.mk_ G_Wire_init (hr.mono (by decide)) rfl W.g W.b_init .nil pass0) (nomark _)))))), ?_⟩
    refine ⟨_, rfl, sc, ns, [], rfl, hS, Has.nil, fun p z1 H1 h1 zo1 k1 => ?_⟩
    refine ⟨6, rfl, by decide, by decide, for_range (lo := 0) (n := 6) (fun i σ H2 => ∃ (v2 v3 v4 v5 v6 v7 v8 v9 v10 v11 v12 v13 v14 v15 : Option V) (z : Pen), σ = [some (.ref sc), some (.ref p), v2, v3, v4, v5, v6, v7, v8, v9, v10, v11, v12, v13, v14, v15] ∧ Has H2 (z.os p) ∧ z.Ok (2000 * i)) ?_ ?_ ?_⟩
    · exact ⟨none, none, none, none, none, none, none, none, none, none, none, none, none, none, z1, rfl, h1, zo1⟩
    · rintro i σ H2 hi ⟨v2, v3, v4, v5, v6, v7, v8, v9, v10, v11, v12, v13, v14, v15, z2, rfl, h2, zo2⟩
      -- placed = [row_of(pen) ..]
      refine ⟨_, rfl, p, 6, z2, 2000 * i, _, rfl, by decide, by decide, h2, zo2, by show _ < 1099511627776; omega, fun dn z3 H3 dn0 dn1 h3 zo3 k3 => ⟨dn, rfl, by omega, by omega, fun pl hpl => ?_⟩⟩
      refine lc_range (lo := 0) (n := dn.toNat) (fun j H4 => ∃ (z4 : Pen) (ys : List V), ys.length = j ∧ RowsB 63 H4 ys ∧ Has H4 ((pl, .lst ys) :: z4.os p) ∧ z4.Ok (2000 * i + 1 + 13 * j)) ?_ ?_ ?_
      · exact ⟨z3, [], rfl, RowsB.nil, h3.new hpl, zo3⟩
      · rintro j H4 hj ⟨z4, ys, ly, ry, h4, zo4⟩
        refine ⟨rfl, ?_⟩
        refine ⟨_, rfl, p, z4, _, [(pl, .lst ys)], rfl, h4.pre (xs := [_, _, _]) [1, 2, 0], zo4, by show _ < 1099511627776; omega, fun v z5 H5 hv h5 zo5 k5 => ?_⟩
        have h5' : Has H5 ((pl, .lst ys) :: z5.os p) := h5.pre (xs := [_, _, _]) [2, 0, 1]
        have k6 := Tk.lst (u := .lst (ys ++ [v])) h5'.head
        refine ⟨ys, h5'.head, small1000 (by omega), z5, ys ++ [v], by rw [List.length_append, ly]; rfl, fun u hu' => ?_, h5'.put, zo5.mono (by omega)⟩
        rcases List.mem_append.mp hu' with hu' | hu'
        · exact (ry u hu').keep (k5.trans k6)
        · rw [List.mem_singleton.mp hu']
          obtain ⟨a, xs, ds, e, ha, fa, ga, la⟩ := hv
          exact RowB.keep k6 ⟨a, xs, ds, e, ha, fa, ga, by omega⟩
      · rintro H4 ⟨z4, vs, lv, rv, h4, zo4⟩
        -- taken = [row_of(pen) ..]
        refine ⟨_, rfl, p, 5, z4, _, [(pl, .lst vs)], rfl, by decide, by decide, h4.pre (xs := [_, _, _]) [1, 2, 0], zo4, by show _ < 1099511627776; omega, fun un z5 H5 un0 un1 h5 zo5 k5 => ⟨un, rfl, by omega, by omega, fun tk htk => ?_⟩⟩
        refine lc_range (lo := 0) (n := un.toNat) (fun j H6 => ∃ (z6 : Pen) (ys : List V), ys.length = j ∧ RowsB 63 H6 ys ∧ Has H6 ((tk, .lst ys) :: (z6.os p ++ [(pl, .lst vs)])) ∧ z6.Ok (2000 * i + 100 + 13 * j) ∧ Tk H4 H6) ?_ ?_ ?_
        · exact ⟨z5, [], rfl, RowsB.nil, h5.new htk, zo5.mono (by omega), k5.trans (Tk.new htk)⟩
        · rintro j H6 hj ⟨z6, ys, ly, ry, h6, zo6, k6⟩
          refine ⟨rfl, ?_⟩
          refine ⟨_, rfl, p, z6, _, [(tk, .lst ys), (pl, .lst vs)], rfl, h6.idx [1, 2, 0, 3], zo6, by show _ < 1099511627776; omega, fun v z7 H7 hv h7 zo7 k7 => ?_⟩
          have h7' : Has H7 ((tk, .lst ys) :: (z7.os p ++ [(pl, .lst vs)])) := h7.idx [2, 0, 1, 3]
          have k8 := Tk.lst (u := .lst (ys ++ [v])) h7'.head
          refine ⟨ys, h7'.head, small1000 (by omega), z7, ys ++ [v], by rw [List.length_append, ly]; rfl, fun u hu' => ?_, h7'.put, zo7.mono (by omega), k6.trans (k7.trans k8)⟩
          rcases List.mem_append.mp hu' with hu' | hu'
          · exact (ry u hu').keep (k7.trans k8)
          · rw [List.mem_singleton.mp hu']
            obtain ⟨a, xs, ds, e, ha, fa, ga, la⟩ := hv
            exact RowB.keep k8 ⟨a, xs, ds, e, ha, fa, ga, by omega⟩
        · rintro H6 ⟨z6, us, lu, ru, h6, zo6, k46⟩
          have rv6 := rv.keep k46
          have lv5 : vs.length ≤ 5 := by omega
          have lu4 : us.length ≤ 4 := by omega
          -- known = draw(len(placed) + 1); one = made(..)
          refine ⟨_, rfl, _, rfl, pl, vs, rfl, .inl (SqL.of (h6.at 3 rfl)), _, _, rfl, rfl, p, _, z6, _, _, rfl, by omega, by omega, h6.idx [1, 2, 0, 3], zo6, by show _ < 1099511627776; omega, fun kn z7 H7 kn0 kn1 h7 zo7 k7 => ?_⟩
          refine ⟨_, rfl, _, rfl, _, rfl, _, rfl, p, pl, tk, kn, z7, _, [(tk, .lst us), (pl, .lst vs)], vs, us, rfl, h7, .tail _ (.head _), .head _, (rv6.keep k7).rows (by decide), (ru.keep k7).rows (by decide), kn0, by omega, by omega, by omega, zo7, by show _ < 1099511627776; omega, fun x dx l z8 H8 h8 zo8 k8 => ?_⟩
          have k68 := k7.trans k8
          have rv8 := rv6.keep k68
          have ru8 := ru.keep k68
          -- 0 p, 1 c, 2 x, 3 l, 4 tk, 5 pl
          have h8' : Has H8 (z8.os p ++ ((x, .ins C dx (wFs kn l us.length)) :: (l, .lst (vs.drop kn.toNat)) :: (tk, .lst us) :: [(pl, .lst vs)])) := h8
          clear h8 h7 h6 h5 h4 h3 h2 k7 k8 k5 k46 zo2 zo3 zo4 zo5 zo6 zo7 rv rv6 ru
          -- others = [(placed, taken, known), (placed + [()], taken, known), (placed, taken + [()], known)]
          refine ⟨_, rfl, _, rfl, _, rfl, (by show 3 ≤ sizeLine; decide), fun t1 ht1 => ?_⟩
          have hA := h8'.over (o := .tup [.ref pl, .ref tk, .int kn]) ht1
          have kA := Tk.new (o := .tup [.ref pl, .ref tk, .int kn]) ht1
          have e1 : upd H8 t1 (.tup [.ref pl, .ref tk, .int kn]) t1 = some (.tup [.ref pl, .ref tk, .int kn]) := upd_same
          generalize upd H8 t1 (.tup [.ref pl, .ref tk, .int kn]) = HA at hA kA e1 ⊢
          refine ⟨_, rfl, (by show 0 ≤ sizeLine; decide), fun f1 hf1 => ?_⟩
          have hB := hA.over (o := .tup []) hf1
          have kB := kA.trans (Tk.new (o := .tup []) hf1)
          have f1' : upd HA f1 (.tup []) f1 = some (.tup []) := upd_same
          have e1 := Tk.new (o := .tup []) hf1 _ _ e1
          generalize upd HA f1 (.tup []) = HB at hB kB e1 f1' ⊢
          refine ⟨(by show 1 ≤ sizeLine; decide), fun q1 hq1 => ?_⟩
          refine ⟨pl, q1, _, _, rfl, rfl, (hB.over hq1).at 5 rfl, upd_same, Nat.le_of_lt (small1000 (by show vs.length + 1 ≤ 1000; omega)), fun m1 hm1 => ⟨_, rfl, _, rfl, (by show 3 ≤ sizeLine; decide), fun t2 ht2 => ?_⟩⟩
          have hC := ((hB.over (o := .lst [.ref f1]) hq1).new (o := .lst (vs ++ [.ref f1])) hm1).over (o := .tup [.ref m1, .ref tk, .int kn]) ht2
          have kx := (Tk.new (o := .lst [.ref f1]) hq1).trans ((Tk.new (o := .lst (vs ++ [.ref f1])) hm1).trans (Tk.new (o := .tup [.ref m1, .ref tk, .int kn]) ht2))
          have kC := kB.trans kx
          have e2 : upd (upd (upd HB q1 (.lst [.ref f1])) m1 (.lst (vs ++ [.ref f1]))) t2 (.tup [.ref m1, .ref tk, .int kn]) t2 = some (.tup [.ref m1, .ref tk, .int kn]) := upd_same
          have e1 := kx _ _ e1
          have f1' := kx _ _ f1'
          generalize upd (upd (upd HB q1 (.lst [.ref f1])) m1 (.lst (vs ++ [.ref f1]))) t2 (.tup [.ref m1, .ref tk, .int kn]) = HC at hC kC e1 e2 f1' ⊢
          clear hA hB kx hq1 hm1 ht2 hf1 ht1 kA kB
          -- 0 m1, 1 p, 2 c, 3 x, 4 l, 5 tk, 6 pl
          refine ⟨_, rfl, _, rfl, (by show 0 ≤ sizeLine; decide), fun f2 hf2 => ?_⟩
          have hB := hC.over (o := .tup []) hf2
          have kB := kC.trans (Tk.new (o := .tup []) hf2)
          have f2' : upd HC f2 (.tup []) f2 = some (.tup []) := upd_same
          have kf2 := Tk.new (o := .tup []) hf2
          have e1 := kf2 _ _ e1
          have e2 := kf2 _ _ e2
          have f1' := kf2 _ _ f1'
          generalize upd HC f2 (.tup []) = HB at hB kB e1 e2 f1' f2' ⊢
          refine ⟨(by show 1 ≤ sizeLine; decide), fun q2 hq2 => ?_⟩
          refine ⟨tk, q2, _, _, rfl, rfl, (hB.over hq2).at 5 rfl, upd_same, Nat.le_of_lt (small1000 (by show us.length + 1 ≤ 1000; omega)), fun c2 hc2 => ⟨_, rfl, (by show 3 ≤ sizeLine; decide), fun t3 ht3 => ⟨(by show 3 ≤ sizeLine; decide), fun ol hol => ?_⟩⟩⟩
          have hD := (((hB.over (o := .lst [.ref f2]) hq2).new (o := .lst (us ++ [.ref f2])) hc2).over (o := .tup [.ref pl, .ref c2, .int kn]) ht3).new (o := .lst [.ref t1, .ref t2, .ref t3]) hol
          have kx := (Tk.new (o := .lst [.ref f2]) hq2).trans ((Tk.new (o := .lst (us ++ [.ref f2])) hc2).trans (Tk.new (o := .tup [.ref pl, .ref c2, .int kn]) ht3))
          have kol := Tk.new (o := .lst [.ref t1, .ref t2, .ref t3]) hol
          have kD := kB.trans (kx.trans kol)
          have e3 := kol t3 _ upd_same
          have e1 := kol _ _ (kx _ _ e1)
          have e2 := kol _ _ (kx _ _ e2)
          have f1' := kol _ _ (kx _ _ f1')
          have f2' := kol _ _ (kx _ _ f2')
          generalize upd (upd (upd (upd HB q2 (.lst [.ref f2])) c2 (.lst (us ++ [.ref f2]))) t3 (.tup [.ref pl, .ref c2, .int kn])) ol (.lst [.ref t1, .ref t2, .ref t3]) = HD at hD kD e1 e2 e3 f1' f2' ⊢
          clear hB kx kol hq2 hc2 ht3 hol hf2 kf2 hC kB kC
          -- 0 ol, 1 c2, 2 m1, 3 p, 4 c, 5 x, 6 l, 7 tk, 8 pl
          -- others.append((placed[:-1], taken, 0))
          refine ⟨_, rfl, .inl ⟨rfl, _, SqL.of (hD.at 0 rfl)⟩, _, rfl, _, rfl, _, rfl, pl, vs, rfl, SqL.of (hD.at 8 rfl), fun m3 hm3 => ⟨_, rfl, (by show 3 ≤ sizeLine; decide), fun t4 ht4 => ?_⟩⟩
          have hE := (hD.new (o := .lst (cutV vs none (some (-1)))) hm3).over (o := .tup [.ref m3, .ref tk, .int 0]) ht4
          refine ⟨ol, _, _, rfl, rfl, hE.at 1 rfl, small1000 (by show 3 ≤ 1000; decide), ?_⟩
          have kx := (Tk.new (o := .lst (cutV vs none (some (-1)))) hm3).trans (Tk.new (o := .tup [.ref m3, .ref tk, .int 0]) ht4)
          have kol := Tk.lst (u := .lst ([.ref t1, .ref t2, .ref t3] ++ [.ref t4])) (hE.at 1 rfl)
          have kE := kD.trans (kx.trans kol)
          have hE := (hE.swap).put (u := .lst ([.ref t1, .ref t2, .ref t3] ++ [.ref t4]))
          have e4 := kol t4 _ upd_same
          have e1 := kol _ _ (kx _ _ e1)
          have e2 := kol _ _ (kx _ _ e2)
          have e3 := kol _ _ (kx _ _ e3)
          have f1' := kol _ _ (kx _ _ f1')
          have f2' := kol _ _ (kx _ _ f2')
          generalize upd (upd (upd HD m3 (.lst (cutV vs none (some (-1))))) t4 (.tup [.ref m3, .ref tk, .int 0])) ol (.lst ([.ref t1, .ref t2, .ref t3] ++ [.ref t4])) = HE at hE kE e1 e2 e3 e4 f1' f2' ⊢
          clear hD kx kol hm3 ht4 kD
          -- 0 ol, 1 m3, 2 c2, 3 m1, 4 p, 5 c, 6 x, 7 l, 8 tk, 9 pl
          have gb : Gd 1 0 (.str "b") := Gd.str (by decide +kernel) (by decide +kernel) (by decide +kernel)
          have ga : Gd 1 0 (.str "a") := Gd.str (by decide +kernel) (by decide +kernel) (by decide +kernel)
          -- others.append((placed, [("b",) + row for row in taken], known))
          refine ⟨_, rfl, .inl ⟨rfl, _, SqL.of (hE.at 0 rfl)⟩, _, rfl, _, rfl, tk, rfl, ⟨_, SqL.of (hE.at 8 rfl)⟩, fun c4 hc4 => ?_⟩
          have ruE := ru8.keep kE
          refine lc_list (K := K) (a := tk) (xs := us) (fun j HF => ∃ ys : List V, ys.length = j ∧ RowsB 65 HF ys ∧ Has HF ((c4, .lst ys) :: (ol, .lst ([.ref t1, .ref t2, .ref t3] ++ [.ref t4])) :: (m3, .lst (cutV vs none (some (-1)))) :: (c2, .lst (us ++ [.ref f2])) :: (m1, .lst (vs ++ [.ref f1])) :: (z8.os p ++ ((x, .ins C dx (wFs kn l us.length)) :: (l, .lst (vs.drop kn.toNat)) :: (tk, .lst us) :: [(pl, .lst vs)]))) ∧ Tk HE HF) ?_ ?_ ?_ ?_
          · exact ⟨[], rfl, RowsB.nil, hE.new hc4, Tk.new hc4⟩
          · rintro j HF _ ⟨ys, _, _, hF, _⟩
            exact SqL.of (hF.at 9 rfl)
          · rintro j v HF hv ⟨ys, ly, ry, hF, kF⟩
            have hj : j < us.length := (List.getElem?_eq_some_iff.mp hv).1
            obtain ⟨a, xs, ds, rfl, ha, fa, gax, la⟩ := (ruE.keep kF) v (List.mem_of_getElem? hv)
            refine ⟨rfl, ?_⟩
            refine ⟨(by show 1 ≤ sizeLine; decide), fun u hu' => ?_⟩
            have ku := same_new (o := .tup [.str "b"]) hu'
            refine ⟨_, rfl, u, a, _, xs, rfl, rfl, upd_same, ku _ _ ha, Nat.le_of_lt (small1000 (by show 1 + xs.length ≤ 1000; omega)), fun r HG sG hr' => ?_⟩
            have hG := (hF.over (o := .tup [.str "b"]) hu').same sG
            have kG := (same_tk ku).trans (same_tk sG)
            have kH := Tk.lst (u := .lst (ys ++ [.ref r])) hG.head
            refine ⟨ys, hG.head, small1000 (by omega), ys ++ [.ref r], by rw [List.length_append, ly]; rfl, fun v' hv' => ?_, hG.put, kF.trans (kG.trans kH)⟩
            rcases List.mem_append.mp hv' with hv' | hv'
            · exact (ry v' hv').keep (kG.trans kH)
            · rw [List.mem_singleton.mp hv']
              exact (row_cat (v := .non) (a := a) (u := u) gb kG fa gax la hr').keep kH
          · rintro HF ⟨bs, lb, rb, hF, kF⟩
            refine ⟨_, rfl, (by show 3 ≤ sizeLine; decide), fun t5 ht5 => ?_⟩
            have hG := hF.over (o := .tup [.ref pl, .ref c4, .int kn]) ht5
            refine ⟨ol, _, _, rfl, rfl, hG.at 1 rfl, small1000 (by show 4 ≤ 1000; decide), ?_⟩
            have kx := Tk.new (o := .tup [.ref pl, .ref c4, .int kn]) ht5
            have kol := Tk.lst (u := .lst ([.ref t1, .ref t2, .ref t3] ++ [.ref t4] ++ [.ref t5])) (hG.at 1 rfl)
            have kG := kF.trans (kx.trans kol)
            have rb := rb.keep (kx.trans kol)
            have hG := (hG.swap).put (u := .lst ([.ref t1, .ref t2, .ref t3] ++ [.ref t4] ++ [.ref t5]))
            have e5 := kol t5 _ upd_same
            have e1 := kG _ _ e1
            have e2 := kG _ _ e2
            have e3 := kG _ _ e3
            have e4 := kG _ _ e4
            have f1' := kG _ _ f1'
            have f2' := kG _ _ f2'
            have kG := kE.trans kG
            generalize upd (upd HF t5 (.tup [.ref pl, .ref c4, .int kn])) ol (.lst ([.ref t1, .ref t2, .ref t3] ++ [.ref t4] ++ [.ref t5])) = HG at hG kG e1 e2 e3 e4 e5 f1' f2' rb ⊢
            clear hF hE kx kol ht5 kF ruE
            -- 0 ol, 1 c4, 2 m3, 3 c2, 4 m1, 5 p, 6 c, 7 x, 8 l, 9 tk, 10 pl
            -- others.append(([("a",) + row for row in placed[:known]] + placed[known:], taken, known))
            refine ⟨_, rfl, .inl ⟨rfl, _, SqL.of (hG.at 0 rfl)⟩, _, rfl, _, rfl, _, rfl, pl, vs, rfl, SqL.of (hG.at 10 rfl), fun q6 hq6 => ⟨q6, rfl, ⟨_, SqL.of upd_same⟩, fun d6 hd6 => ?_⟩⟩
            have hq := hG.new (o := .lst (cutV vs none (some kn))) hq6
            have kq := Tk.new (o := .lst (cutV vs none (some kn))) hq6
            have rvG := rv8.keep kG
            refine lc_list (K := K) (a := q6) (xs := cutV vs none (some kn)) (fun j HI => ∃ ys : List V, ys.length = j ∧ RowsB 65 HI ys ∧ Has HI ((d6, .lst ys) :: (q6, .lst (cutV vs none (some kn))) :: (ol, .lst ([.ref t1, .ref t2, .ref t3] ++ [.ref t4] ++ [.ref t5])) :: (c4, .lst bs) :: (m3, .lst (cutV vs none (some (-1)))) :: (c2, .lst (us ++ [.ref f2])) :: (m1, .lst (vs ++ [.ref f1])) :: (z8.os p ++ ((x, .ins C dx (wFs kn l us.length)) :: (l, .lst (vs.drop kn.toNat)) :: (tk, .lst us) :: [(pl, .lst vs)]))) ∧ Tk HG HI) ?_ ?_ ?_ ?_
            · exact ⟨[], rfl, RowsB.nil, hq.new hd6, kq.trans (Tk.new hd6)⟩
            · rintro j HI _ ⟨ys, _, _, hI, _⟩
              exact SqL.of (hI.at 1 rfl)
            · rintro j v HI hv ⟨ys, ly, ry, hI, kI⟩
              have hj : j < (cutV vs none (some kn)).length := (List.getElem?_eq_some_iff.mp hv).1
              have hc := cutV_length vs none (some kn)
              obtain ⟨a, xs, ds, rfl, ha, fa, gax, la⟩ := (rvG.keep kI) v (cut_mem (List.mem_of_getElem? hv))
              refine ⟨rfl, ?_⟩
              refine ⟨(by show 1 ≤ sizeLine; decide), fun u hu' => ?_⟩
              have ku := same_new (o := .tup [.str "a"]) hu'
              refine ⟨_, rfl, u, a, _, xs, rfl, rfl, upd_same, ku _ _ ha, Nat.le_of_lt (small1000 (by show 1 + xs.length ≤ 1000; omega)), fun r HJ sJ hr' => ?_⟩
              have hJ := (hI.over (o := .tup [.str "a"]) hu').same sJ
              have kJ := (same_tk ku).trans (same_tk sJ)
              have kL := Tk.lst (u := .lst (ys ++ [.ref r])) hJ.head
              refine ⟨ys, hJ.head, small1000 (by omega), ys ++ [.ref r], by rw [List.length_append, ly]; rfl, fun v' hv' => ?_, hJ.put, kI.trans (kJ.trans kL)⟩
              rcases List.mem_append.mp hv' with hv' | hv'
              · exact (ry v' hv').keep (kJ.trans kL)
              · rw [List.mem_singleton.mp hv']
                exact (row_cat (v := .non) (a := a) (u := u) ga kJ fa gax la hr').keep kL
            · rintro HI ⟨as, las, ras, hI, kI⟩
              have lc1 : (cutV vs none (some kn)).length = kn.toNat := by rw [cut_to kn0, List.length_take]; omega
              refine ⟨_, rfl, _, rfl, _, rfl, pl, vs, rfl, SqL.of (hI.at 12 rfl), fun r6 hr6 => ⟨d6, r6, _, _, rfl, rfl, same_new hr6 _ _ hI.head, upd_same, Nat.le_of_lt (small1000 ?_), fun m5 hm5 => ⟨_, rfl, _, rfl, (by show 3 ≤ sizeLine; decide), fun t6 ht6 => ?_⟩⟩⟩
              · have hc := cutV_length vs (some kn) none
                omega
              rw [cut_from kn0] at hm5 ht6 ⊢
              have hJ := ((hI.over (o := .lst (vs.drop kn.toNat)) hr6).new (o := .lst (as ++ vs.drop kn.toNat)) hm5).over (o := .tup [.ref m5, .ref tk, .int kn]) ht6
              -- 0 m5, 1 d6, 2 q6, 3 ol, 4 c4, 5 m3, 6 c2, 7 m1, 8 p, 9 c, 10 x, 11 l, 12 tk, 13 pl
              refine ⟨ol, _, _, rfl, rfl, hJ.at 3 rfl, small1000 (by show 5 ≤ 1000; decide), ?_⟩
              have kx := (Tk.new (o := .lst (vs.drop kn.toNat)) hr6).trans ((Tk.new (o := .lst (as ++ vs.drop kn.toNat)) hm5).trans (Tk.new (o := .tup [.ref m5, .ref tk, .int kn]) ht6))
              have kol := Tk.lst (u := .lst ([.ref t1, .ref t2, .ref t3] ++ [.ref t4] ++ [.ref t5] ++ [.ref t6])) (hJ.at 3 rfl)
              have kJ := kI.trans (kx.trans kol)
              have ras := ras.keep (kx.trans kol)
              have hJ := (hJ.idx [3, 0, 4, 5, 6, 7, 8, 9, 10, 11, 12, 13]).put (u := .lst ([.ref t1, .ref t2, .ref t3] ++ [.ref t4] ++ [.ref t5] ++ [.ref t6]))
              have e6 := kol t6 _ upd_same
              have e1 := kJ _ _ e1
              have e2 := kJ _ _ e2
              have e3 := kJ _ _ e3
              have e4 := kJ _ _ e4
              have e5 := kJ _ _ e5
              have f1' := kJ _ _ f1'
              have f2' := kJ _ _ f2'
              have rb := rb.keep kJ
              have kJ := kG.trans kJ
              generalize upd (upd (upd (upd HI r6 (.lst (vs.drop kn.toNat))) m5 (.lst (as ++ vs.drop kn.toNat))) t6 (.tup [.ref m5, .ref tk, .int kn])) ol (.lst ([.ref t1, .ref t2, .ref t3] ++ [.ref t4] ++ [.ref t5] ++ [.ref t6])) = HJ at hJ kJ e1 e2 e3 e4 e5 e6 f1' f2' rb ras ⊢
              clear hI hG hq kq kx kol hr6 hm5 ht6 kI rvG hq6 hd6
              -- 0 ol, 1 m5, 2 c4, 3 m3, 4 c2, 5 m1, 6 p, 7 c, 8 x, 9 l, 10 tk, 11 pl
              -- others.append((placed, taken, draw(len(placed) + 1)))
              refine ⟨_, rfl, .inl ⟨rfl, _, SqL.of (hJ.at 0 rfl)⟩, _, rfl, _, rfl, _, rfl, _, rfl, pl, vs, rfl, .inl (SqL.of (hJ.at 11 rfl)), _, _, rfl, rfl, p, _, z8, _, _, rfl, by omega, by omega, hJ.idx [6, 7, 0, 1, 2, 3, 4, 5, 8, 9, 10, 11], zo8, by show _ < 1099511627776; omega, fun kd z9 H9 kd0 kd1 h9 zo9 k9 => ⟨(by show 3 ≤ sizeLine; decide), fun t7 ht7 => ?_⟩⟩
              have h9 := h9.over (o := .tup [.ref pl, .ref tk, .int kd]) ht7
              refine ⟨ol, _, _, rfl, rfl, h9.at 2 rfl, small1000 (by show 6 ≤ 1000; decide), ?_⟩
              have kx := k9.trans (Tk.new (o := .tup [.ref pl, .ref tk, .int kd]) ht7)
              have kol := Tk.lst (u := .lst ([.ref t1, .ref t2, .ref t3] ++ [.ref t4] ++ [.ref t5] ++ [.ref t6] ++ [.ref t7])) (h9.at 2 rfl)
              have kK := kx.trans kol
              have hK := ((h9.idx [2, 0, 1, 3, 4, 5, 6, 7, 8, 9, 10, 11]).put (u := .lst ([.ref t1, .ref t2, .ref t3] ++ [.ref t4] ++ [.ref t5] ++ [.ref t6] ++ [.ref t7]))).idx [1, 2, 0, 3, 4, 5, 6, 7, 8, 9, 10, 11]
              have e7 := kol t7 _ upd_same
              have e1 := kK _ _ e1
              have e2 := kK _ _ e2
              have e3 := kK _ _ e3
              have e4 := kK _ _ e4
              have e5 := kK _ _ e5
              have e6 := kK _ _ e6
              have f1' := kK _ _ f1'
              have f2' := kK _ _ f2'
              have rbK := (rb.keep kK).rows (by decide)
              have raK := (ras.keep kK).rows (by decide)
              have rvK := (rv8.keep (kJ.trans kK)).rows (by decide)
              have ruK := (ru8.keep (kJ.trans kK)).rows (by decide)
              generalize upd (upd H9 t7 (.tup [.ref pl, .ref tk, .int kd])) ol (.lst ([.ref t1, .ref t2, .ref t3] ++ [.ref t4] ++ [.ref t5] ++ [.ref t6] ++ [.ref t7])) = HK at hK e1 e2 e3 e4 e5 e6 e7 f1' f2' rbK raK rvK ruK ⊢
              clear h9 hJ kx kol kK ht7 k9 rb ras rv8 ru8 kJ kG kE h8' k68
              have hR : Has HK (z9.os p ++ ((ol, .lst ([.ref t1, .ref t2, .ref t3] ++ [.ref t4] ++ [.ref t5] ++ [.ref t6] ++ [.ref t7])) :: (m5, .lst (as ++ vs.drop kn.toNat)) :: (c4, .lst bs) :: (m3, .lst (cutV vs none (some (-1)))) :: (c2, .lst (us ++ [.ref f2])) :: (m1, .lst (vs ++ [.ref f1])) :: (x, .ins C dx (wFs kn l us.length)) :: (l, .lst (vs.drop kn.toNat)) :: (tk, .lst us) :: [(pl, .lst vs)])) := hK
              have lm3 := cutV_length vs none (some (-1))
              have oth : ∀ v ∈ [V.ref t1, .ref t2, .ref t3] ++ [.ref t4] ++ [.ref t5] ++ [.ref t6] ++ [.ref t7], OthOk HK ((ol, .lst ([.ref t1, .ref t2, .ref t3] ++ [.ref t4] ++ [.ref t5] ++ [.ref t6] ++ [.ref t7])) :: (m5, .lst (as ++ vs.drop kn.toNat)) :: (c4, .lst bs) :: (m3, .lst (cutV vs none (some (-1)))) :: (c2, .lst (us ++ [.ref f2])) :: (m1, .lst (vs ++ [.ref f1])) :: (x, .ins C dx (wFs kn l us.length)) :: (l, .lst (vs.drop kn.toNat)) :: (tk, .lst us) :: [(pl, .lst vs)]) v := by
                intro v hv
                have : v = .ref t1 ∨ v = .ref t2 ∨ v = .ref t3 ∨ v = .ref t4 ∨ v = .ref t5 ∨ v = .ref t6 ∨ v = .ref t7 := by simpa using hv
                rcases this with rfl | rfl | rfl | rfl | rfl | rfl | rfl
                · exact ⟨t1, pl, tk, kn, vs, us, rfl, e1, by simp, by simp, rvK, ruK, kn0, by omega, by omega, by omega⟩
                · exact ⟨t2, m1, tk, kn, vs ++ [.ref f1], us, rfl, e2, by simp, by simp, rvK.snoc (row_nil f1'), ruK, kn0, by rw [List.length_append]; omega, by rw [List.length_append, List.length_singleton]; omega, by omega⟩
                · exact ⟨t3, pl, c2, kn, vs, us ++ [.ref f2], rfl, e3, by simp, by simp, rvK, ruK.snoc (row_nil f2'), kn0, by omega, by omega, by rw [List.length_append, List.length_singleton]; omega⟩
                · exact ⟨t4, m3, tk, 0, cutV vs none (some (-1)), us, rfl, e4, by simp, by simp, fun v hv => rvK v (cut_mem hv), ruK, Int.le_refl _, by omega, by omega, by omega⟩
                · exact ⟨t5, pl, c4, kn, vs, bs, rfl, e5, by simp, by simp, rvK, rbK, kn0, by omega, by omega, by omega⟩
                · exact ⟨t6, m5, tk, kn, as ++ vs.drop kn.toNat, us, rfl, e6, by simp, by simp, raK.append (rvK.drop _), ruK, kn0, by rw [List.length_append, List.length_drop]; omega, by rw [List.length_append, List.length_drop]; omega, by omega⟩
                · exact ⟨t7, pl, tk, kd, vs, us, rfl, e7, by simp, by simp, rvK, ruK, kd0, by omega, by omega, by omega⟩
              -- for more, came, heard in others
              refine ⟨_, rfl, ol, rfl, ⟨_, SqL.of (hR.at 2 rfl)⟩, for_list (K := K) (a := ol) (xs := [V.ref t1, .ref t2, .ref t3] ++ [.ref t4] ++ [.ref t5] ++ [.ref t6] ++ [.ref t7]) (fun j σ HL => ∃ (v10 v11 v12 v13 v14 v15 : Option V) (z : Pen), σ = [some (.ref sc), some (.ref p), some (.int (0 + i)), some (.ref pl), v4, some (.ref tk), some (.int kn), some (.ref x), some (.ref ol), v9, v10, v11, v12, v13, v14, v15] ∧
                Has HL (z.os p ++ ((ol, .lst ([.ref t1, .ref t2, .ref t3] ++ [.ref t4] ++ [.ref t5] ++ [.ref t6] ++ [.ref t7])) :: (m5, .lst (as ++ vs.drop kn.toNat)) :: (c4, .lst bs) :: (m3, .lst (cutV vs none (some (-1)))) :: (c2, .lst (us ++ [.ref f2])) :: (m1, .lst (vs ++ [.ref f1])) :: (x, .ins C dx (wFs kn l us.length)) :: (l, .lst (vs.drop kn.toNat)) :: (tk, .lst us) :: [(pl, .lst vs)])) ∧ z.Ok (2000 * i + 800 + 100 * j) ∧ Tk HK HL) ?_ ?_ ?_ ?_⟩
              · exact ⟨v10, v11, v12, v13, v14, v15, z9, rfl, hR, zo9.mono (by omega), Tk.refl⟩
              · rintro j σ HL _ ⟨_, _, _, _, _, _, z, _, hL, _⟩
                exact SqL.of (hL.at 2 rfl)
              · clear hR hK e1 e2 e3 e4 e5 e6 e7 f1' f2' rbK raK zo9 zo8
                rintro j y' σ HL hy' ⟨v10, v11, v12, v13, v14, v15, z, rfl, hL, zoL, kL⟩
                have hj7 : j < 7 := (List.getElem?_eq_some_iff.mp hy').1
                obtain ⟨t, mm, cc, h, ms, cs, rfl, ht, q1, q2, r1, r2, h0, h1, l1, l2⟩ := (oth y' (List.mem_of_getElem? hy')).keep kL
                refine ⟨t, _, rfl, SqT.of ht, rfl, _, _, rfl, _, _, rfl, _, _, rfl, rfl, ?_⟩
                refine ⟨_, rfl, _, rfl, _, rfl, _, rfl, p, mm, cc, h, z, _, _, ms, cs, rfl, hL, q1, q2, r1, r2, h0, h1, l1, l2, zoL, by show _ < 1099511627776; omega, fun y dy ly zM HM hM zoM kM => ?_⟩
                have inM : ∀ {HN : Hp}, Same HM HN → ∀ {a : Addr} {o : HO}, (a, o) ∈ ((ol, .lst ([.ref t1, .ref t2, .ref t3] ++ [.ref t4] ++ [.ref t5] ++ [.ref t6] ++ [.ref t7])) :: (m5, .lst (as ++ vs.drop kn.toNat)) :: (c4, .lst bs) :: (m3, .lst (cutV vs none (some (-1)))) :: (c2, .lst (us ++ [.ref f2])) :: (m1, .lst (vs ++ [.ref f1])) :: (x, .ins C dx (wFs kn l us.length)) :: (l, .lst (vs.drop kn.toNat)) :: (tk, .lst us) :: [(pl, .lst vs)]) → HN a = some o := @fun HN s a o m => s _ _ (hM.get (a, o) (List.mem_append_right _ (List.mem_append_right _ m)))
                -- 0 p, 1 c, 2 y, 3 ly, 4 ol, 5 m5, 6 c4, 7 m3, 8 c2, 9 m1, 10 x, 11 l, 12 tk, 13 pl
                obtain ⟨dv, fv, gv⟩ := rows_fz (rvK.keep (kL.trans kM))
                obtain ⟨dw, fw, gw⟩ := rows_fz (r1.keep kM)
                have lv := fv.length
                have lw := fw.length
                have gv' : ∀ d ∈ dv.drop kn.toNat, Gd 80 2 d := fun d hd => gv d (List.mem_of_mem_drop hd)
                have gw' : ∀ d ∈ dw.drop h.toNat, Gd 80 2 d := fun d hd => gw d (List.mem_of_mem_drop hd)
                have fv' := fv.drop kn.toNat
                have fw' := fw.drop h.toNat
                -- due
                refine ⟨_, rfl, _, rfl, _, rfl, mm, ms, rfl, SqL.of (inM (Same.refl _) q1), fun s1 hs1 => ?_⟩
                rw [cut_from h0]
                have sA := same_new (o := .lst (ms.drop h.toNat)) hs1
                have eA : upd HM s1 (.lst (ms.drop h.toNat)) s1 = some (.lst (ms.drop h.toNat)) := upd_same
                generalize upd HM s1 (.lst (ms.drop h.toNat)) = HN at sA eA ⊢
                refine ⟨_, rfl, mm, ms, rfl, .inl (SqL.of (inM sA q1)), _, rfl, cc, cs, rfl, .inl (SqL.of (inM sA q2)), (by show 3 ≤ sizeLine; decide), fun u1 hu1 => ?_⟩
                have sB := same_new (o := .tup [.ref s1, .int ms.length, .int cs.length]) hu1
                have eB : upd HN u1 (.tup [.ref s1, .int ms.length, .int cs.length]) u1 = some (.tup [.ref s1, .int ms.length, .int cs.length]) := upd_same
                have eA := sB _ _ eA
                have sAB := sA.trans sB
                generalize upd HN u1 (.tup [.ref s1, .int ms.length, .int cs.length]) = HO' at sAB sB eA eB ⊢
                refine ⟨_, rfl, _, rfl, _, rfl, pl, vs, rfl, SqL.of (inM sAB (by simp)), fun s2 hs2 => ?_⟩
                rw [cut_from kn0]
                have sC := same_new (o := .lst (vs.drop kn.toNat)) hs2
                have eC : upd HO' s2 (.lst (vs.drop kn.toNat)) s2 = some (.lst (vs.drop kn.toNat)) := upd_same
                have eA := sC _ _ eA
                have eB := sC _ _ eB
                have sAC := sAB.trans sC
                generalize upd HO' s2 (.lst (vs.drop kn.toNat)) = HP at sAC sC eA eB eC ⊢
                refine ⟨_, rfl, pl, vs, rfl, .inl (SqL.of (inM sAC (by simp))), _, rfl, tk, us, rfl, .inl (SqL.of (inM sAC (by simp))), (by show 3 ≤ sizeLine; decide), fun u2 hu2 => ?_⟩
                have sD := same_new (o := .tup [.ref s2, .int vs.length, .int us.length]) hu2
                have sAD := sAC.trans sD
                have kAD := same_tk sAD
                refine ⟨dueD (dw.drop h.toNat) ms.length cs.length, dueD (dv.drop kn.toNat) vs.length us.length, .tup (SqT.of (sD _ _ eB)) (.cons (.lst (SqL.of (sD _ _ eA)) (fw'.keep kAD).dp) (.cons (.int _) (.cons (.int _) .nil))), .tup (SqT.of upd_same) (.cons (.lst (SqL.of (sD _ _ eC)) (fv'.keep kAD).dp) (.cons (.int _) (.cons (.int _) .nil))), dueD_gd (by omega) (by omega) gw', dueD_gd (by omega) (by omega) gv', ?_⟩
                have hdue := due_eq (dv := dv) (dw := dw) (n := us.length) (m := cs.length) kn0 (by omega) h0 (by omega)
                rw [← lv, ← lw] at hdue
                have hdue2 := (wD_comm kn (dv.drop kn.toNat) us.length h (dw.drop h.toNat) cs.length).trans hdue
                generalize PyData.eqv (dueD (dw.drop h.toNat) ms.length cs.length) (dueD (dv.drop kn.toNat) vs.length us.length) = due at hdue hdue2 ⊢
                generalize upd HP u2 (.tup [.ref s2, .int vs.length, .int us.length]) = HQ at sAD kAD ⊢
                clear sA sB sC sD sAB sAC eA eB eC hs1 hu1 hs2 hu2
                have hQ := hM.same sAD
                have fvQ := fv'.keep kAD
                have fwQ := fw'.keep kAD
                -- found
                refine ⟨_, rfl, _, rfl, x, dx, _, _, rfl, hQ.at 10 rfl, ty_wire W.cl W2 (hQ.at 2 rfl), W2.nC, x, dx, l, kn, us.length, _, _, rfl, hQ.at 10 rfl, hQ.at 11 rfl, .inl ⟨y, dy, ly, h, cs.length, _, _, _, rfl, hQ.at 2 rfl, hQ.at 3 rfl, fvQ, fwQ, gv', gw', by omega, by omega, by omega, by omega, fun HR sR => ⟨due, congrArg V.bl hdue, ?_⟩⟩⟩
                have hR := hQ.same sR
                have fvR := fvQ.keep (same_tk sR)
                have fwR := fwQ.keep (same_tk sR)
                refine ⟨_, rfl, _, rfl, y, dy, _, _, rfl, hR.at 2 rfl, ty_wire W.cl W2 (hR.at 10 rfl), W2.nC, y, dy, ly, h, cs.length, _, _, rfl, hR.at 2 rfl, hR.at 3 rfl, .inl ⟨x, dx, l, kn, us.length, _, _, _, rfl, hR.at 10 rfl, hR.at 11 rfl, fwR, fvR, gw', gv', by omega, by omega, by omega, by omega, fun HS sS => ⟨due, congrArg V.bl hdue2, ?_⟩⟩⟩
                have hS' := hR.same sS
                have fvS := fvR.keep (same_tk sS)
                have fwS := fwR.keep (same_tk sS)
                refine ⟨_, rfl, _, rfl, x, dx, _, _, rfl, hS'.at 10 rfl, ty_wire W.cl W2 (hS'.at 2 rfl), W2.nC, x, dx, l, kn, us.length, _, _, rfl, hS'.at 10 rfl, hS'.at 11 rfl, .inl ⟨y, dy, ly, h, cs.length, _, _, _, rfl, hS'.at 2 rfl, hS'.at 3 rfl, fvS, fwS, gv', gw', by omega, by omega, by omega, by omega, fun HT sT => ⟨due, congrArg V.bl hdue, ?_⟩⟩⟩
                have hT := hS'.same sT
                have fvT := fvS.keep (same_tk sT)
                have fwT := fwS.keep (same_tk sT)
                refine ⟨_, rfl, _, rfl, x, dx, _, _, rfl, hT.at 10 rfl, ty_wire W.cl W2 (hT.at 10 rfl), W2.nC, x, dx, l, kn, us.length, _, _, rfl, hT.at 10 rfl, hT.at 11 rfl, .inl ⟨x, dx, l, kn, us.length, _, _, _, rfl, hT.at 10 rfl, hT.at 11 rfl, fvT, fvT, gv', gv', by omega, by omega, by omega, by omega, fun HU sU => ⟨true, congrArg V.bl (wD_refl gv'), (by show 4 ≤ sizeLine; decide), fun fl hfl => ?_⟩⟩⟩
                have hU := (hT.same sU).new (o := .lst [.bl due, .bl due, .bl (!due), .bl true]) hfl
                have sV := sR.trans (sS.trans (sT.trans (sU.trans (same_new (o := .lst [.bl due, .bl due, .bl (!due), .bl true]) hfl))))
                -- if found != [due, due, not due, True]
                refine ⟨_, rfl, _, rfl, _, rfl, _, rfl, _, rfl, (by show 4 ≤ sizeLine; decide), fun gl hgl => ?_⟩
                have hV := hU.over (o := .lst [.bl due, .bl due, .bl (!due), .bl true]) hgl
                have sW := sV.trans (same_new (o := .lst [.bl due, .bl due, .bl (!due), .bl true]) hgl)
                refine ⟨.list [.bool due, .bool due, .bool (!due), .bool true], .list [.bool due, .bool due, .bool (!due), .bool true], .lst (SqL.of hV.head) (.cons (.bl _) (.cons (.bl _) (.cons (.bl _) (.cons (.bl _) .nil)))), .lst (SqL.of upd_same) (.cons (.bl _) (.cons (.bl _) (.cons (.bl _) (.cons (.bl _) .nil)))), rfl, rfl, _, rfl, ?_⟩
                have eqb : PyData.eqv (.list [.bool due, .bool due, .bool (!due), .bool true]) (.list [.bool due, .bool due, .bool (!due), .bool true]) = true := by cases due <;> rfl
                rw [eqb]
                refine iteF ?_
                have hW := hQ.same sW
                have fvW := fvQ.keep (same_tk sW)
                have fwW := fwQ.keep (same_tk sW)
                -- other.letter()
                refine ⟨_, rfl, y, dy, _, rfl, hW.at 2 rfl, wFs_no _ _ _ (by decide +kernel) (by decide +kernel) (by decide +kernel), y, dy, ly, h, cs.length, _, rfl, hW.idx [2, 3], (by rw [List.length_drop]; omega), fun a4 b4 HX _ _ sX => ?_⟩
                have hX := hW.same sX
                -- if (one == other) != due
                refine ⟨_, rfl, _, rfl, x, dx, _, _, rfl, hX.at 10 rfl, ty_wire W.cl W2 (hX.at 2 rfl), W2.nC, x, dx, l, kn, us.length, _, _, rfl, hX.at 10 rfl, hX.at 11 rfl, .inl ⟨y, dy, ly, h, cs.length, _, _, _, rfl, hX.at 2 rfl, hX.at 3 rfl, fvW.keep (same_tk sX), fwW.keep (same_tk sX), gv', gw', by omega, by omega, by omega, by omega, fun HY sY => ⟨due, congrArg V.bl hdue, _, rfl, rfl, _, rfl, ?_⟩⟩⟩
                refine iteNS rfl ?_
                have sZ := sAD.trans (sW.trans (sX.trans sY))
                exact ⟨_, _, _, _, _, _, zM, rfl, (hM.same sZ).idx [0, 1, 4, 5, 6, 7, 8, 9, 10, 11, 12, 13], zoM.mono (by omega), kL.trans (kM.trans (same_tk sZ))⟩
              · rintro σ HL ⟨v10, v11, v12, v13, v14, v15, z, rfl, hL, zoL, kL⟩
                -- 0 p, 1 c, 2 ol, 3 m5, 4 c4, 5 m3, 6 c2, 7 m1, 8 x, 9 l, 10 tk, 11 pl
                obtain ⟨dv, fv, gv⟩ := rows_fz (rvK.keep kL)
                have gv' : ∀ d ∈ dv.drop kn.toNat, Gd 80 2 d := fun d hd => gv d (List.mem_of_mem_drop hd)
                have fv' := fv.drop kn.toNat
                refine ⟨_, rfl, _, rfl, x, dx, _, rfl, hL.at 8 rfl, wFs_no _ _ _ (by decide +kernel) (by decide +kernel) (by decide +kernel), x, dx, l, kn, us.length, _, rfl, hL.idx [8, 9], (by rw [List.length_drop]; omega), fun a4 b4 HX ha4 _ sX => ?_⟩
                have hX := hL.same sX
                refine ⟨x, dx, _, _, rfl, hX.at 8 rfl, .base (.tup ha4), W2.nT, x, dx, l, kn, us.length, _, _, rfl, hX.at 8 rfl, hX.at 9 rfl, .inr ⟨_, .base (.tup ha4), W2.kT, false, rfl, _, rfl, ?_⟩⟩
                refine iteF ?_
                refine ⟨_, rfl, x, dx, _, _, rfl, hX.at 8 rfl, .base (.int 0), W2.nI, x, dx, l, kn, us.length, _, _, rfl, hX.at 8 rfl, hX.at 9 rfl, .inr ⟨_, .base (.int 0), W2.kI, false, rfl, _, rfl, ?_⟩⟩
                refine iteF ?_
                refine ⟨_, rfl, (by show 0 ≤ sizeLine; decide), fun em hem => ?_⟩
                have sY := sX.trans (same_new (o := .lst []) hem)
                have hY := hL.same sY
                refine ⟨x, dx, _, _, rfl, hY.at 8 rfl, .base (.lst upd_same), W2.nL, x, dx, l, kn, us.length, _, _, rfl, hY.at 8 rfl, hY.at 9 rfl, .inr ⟨_, .base (.lst upd_same), W2.kL, false, rfl, _, rfl, ?_⟩⟩
                refine iteF ?_
                refine ⟨_, rfl, _, rfl, x, dx, _, _, rfl, hY.at 8 rfl, ty_wire W.cl W2 (hY.at 8 rfl), W2.nC, x, dx, l, kn, us.length, _, _, rfl, hY.at 8 rfl, hY.at 9 rfl, .inl ⟨x, dx, l, kn, us.length, _, _, _, rfl, hY.at 8 rfl, hY.at 9 rfl, fv'.keep (same_tk sY), fv'.keep (same_tk sY), gv', gv', by omega, by omega, by omega, by omega, fun HZ sZ => ⟨true, congrArg V.bl (wD_refl gv'), _, rfl, ?_⟩⟩⟩
                refine iteF ?_
                exact ⟨_, _, _, _, _, _, _, _, _, _, _, _, _, _, z, rfl, ((hY.same sZ).idx [0, 1]), zoL.mono (by show 2000 * i + 800 + 100 * 7 ≤ _; omega)⟩
    · rintro σ H5 ⟨v2, v3, v4, v5, v6, v7, v8, v9, v10, v11, v12, v13, v14, v15, z5, rfl, h5, zo5⟩
      intro x0 y0 nx0 ny0 ne0
      refine ⟨x0, y0, _, rfl, (Has.nil (H := H5)).make nx0 ny0 ne0, fun l0 H6 h6 k6 => ⟨rfl, ?_⟩⟩
      intro x1 y1 nx1 ny1 ne1
      refine ⟨x1, y1, _, rfl, h6.make nx1 ny1 ne1, fun l1 H7 h7 k7 => ⟨rfl, ?_⟩⟩
      refine ⟨x0, y0, _, _, rfl, h7.at 2 rfl, ty_wire W.cl W2 (h7.at 0 rfl), W2.nC, x0, y0, l0, 0, 0, [], _, rfl, h7.at 2 rfl, h7.at 3 rfl, .inl ⟨x1, y1, l1, 0, 0, [], [], [], rfl, h7.at 0 rfl, h7.at 1 rfl, .nil, .nil, fun d hd => absurd hd List.not_mem_nil, fun d hd => absurd hd List.not_mem_nil, by decide, by decide, by decide, by decide, fun H8 s8 => ⟨_, rfl, ?_⟩⟩⟩
      exact k H8
end
end Fc

set_option Elab.async false
set_option linter.all false
set_option maxRecDepth 100000
set_option maxHeartbeats 16000000
namespace Fc
open PySem L2
theorem all_mk {l : PySem.W.OpenLaw} {w : World} {K : PySem.W.Frag} {h : Heap} {mg : Str → Option Value} {fa C fI f1 f2 f3 f4 f5 f6 f7 f8 f9 f10 f11 f12 f13 fL : Addr} {tR : Tok} (X : K.In h) (G : h.Ns mainGlobals mg) (hfa : mg "law" = some (.ref fa))
    {odI anI od1 an1 od2 an2 od3 an3 od4 an4 od5 an5 od6 an6 od7 an7 od8 an8 od9 an9 od10 an10 od11 an11 od12 an12 od13 an13 odL anL : Option Addr} {slI sl1 sl2 sl3 sl4 sl5 sl6 sl7 sl8 sl9 sl10 sl11 sl12 sl13 slL : Array (Option Value)} {ocI kVI dcI pmI cdI ctI oc1 kV1 dc1 pm1 cd1 ct1 oc2 kV2 dc2 pm2 cd2 ct2 oc3 kV3 dc3 pm3 cd3 ct3 oc4 kV4 dc4 pm4 cd4 ct4 oc5 kV5 dc5 pm5 cd5 ct5 oc6 kV6 dc6 pm6 cd6 ct6 oc7 kV7 dc7 pm7 cd7 ct7 oc8 kV8 dc8 pm8 cd8 ct8 oc9 kV9 dc9 pm9 cd9 ct9 oc10 kV10 dc10 pm10 cd10 ct10 oc11 kV11 dc11 pm11 cd11 ct11 oc12 kV12 dc12 pm12 cd12 ct12 oc13 kV13 dc13 pm13 cd13 ct13 ocL kVL dcL pmL cdL ctL : Value}
    (aW : PySem.W.nsIn K mainGlobals "Wire" = some (some (.ref C))) (pg : PySem.W.plainGet K C Str.empty = true) (hd : PySem.W.hasDictIn K C = true) (po : PySem.W.plainOver K C = true)
    (sa : PySem.W.findIn K (.ref C) "__setattr__" = some (some (.builtin "object.__setattr__"))) (mkC : PySem.W.makesIn K C = true) (kc : PySem.W.keepIn K (.ref C) = true) (nf0 : PySem.W.findIn K (.ref C) "known" = some none)
    (nf1 : PySem.W.findIn K (.ref C) "waiting" = some none) (nf2 : PySem.W.findIn K (.ref C) "came" = some none) (z_len : PySem.W.nsIn K mainGlobals "len" = some none) (z_isinstance : PySem.W.nsIn K mainGlobals "isinstance" = some none)
    (z_int : PySem.W.nsIn K mainGlobals "int" = some none) (z_bool : PySem.W.nsIn K mainGlobals "bool" = some none) (z_str : PySem.W.nsIn K mainGlobals "str" = some none) (z_list : PySem.W.nsIn K mainGlobals "list" = some none)
    (z_tuple : PySem.W.nsIn K mainGlobals "tuple" = some none) (z_range : PySem.W.nsIn K mainGlobals "range" = some none) (z_abs : PySem.W.nsIn K mainGlobals "abs" = some none) (z_min : PySem.W.nsIn K mainGlobals "min" = some none)
    (z_max : PySem.W.nsIn K mainGlobals "max" = some none) (z_all : PySem.W.nsIn K mainGlobals "all" = some none) (z_repr : PySem.W.nsIn K mainGlobals "repr" = some none) (z_dict : PySem.W.nsIn K mainGlobals "dict" = some none)
    (aR : PySem.W.nsIn K mainGlobals "ROWS" = some (some (.str "rows" tR))) (w2ne : PySem.W.findIn K (.ref C) "__ne__" = some (some (.builtin "object.__ne__"))) (w2hm : PySem.W.mroIn K C (.type "object") = some true) (w2ha : PySem.W.findIn K (.ref C) "__class__" = some (some (.builtin "object.__class__")))
    (w2hn : PySem.W.specialIn K (.builtin "object.__class__") "__get__" = some (some (.builtin "getset_descriptor.__get__"))) (w2ht : PySem.W.takesIn K (.builtin "object.__class__") = some true) (w2cl : PySem.W.isClsIn K C = true) (w2ty : PySem.W.typeIn K (.ref C) = some (.type "type"))
    (w2sI : PySem.W.subIn K (.type "int") (.ref C) = some false) (w2sL : PySem.W.subIn K (.type "list") (.ref C) = some false) (w2sT : PySem.W.subIn K (.type "tuple") (.ref C) = some false) (w2nC : PySem.W.notFirst K C (.ref C) = true)
    (w2nI : PySem.W.notFirst K C (.type "int") = true) (w2nL : PySem.W.notFirst K C (.type "list") = true) (w2nT : PySem.W.notFirst K C (.type "tuple") = true) (aI : PySem.W.findIn K (.ref C) "__init__" = some (some (.ref fI)))
    (iI : PySem.W.isFn K (.ref fI) = true) (lI : K.lookup fI = some ⟨ocI, odI, .func (PySem.W.fnOf "__init__" "Wire.__init__" (defArgs s_Wire_init) (defBody s_Wire_init) (defScope s_Wire_init) .none kVI dcI pmI anI cdI ctI), slI⟩) (cI : PySem.W.codeIn K cdI "Wire.__init__" = true) (kI : PySem.W.keepIn K (.ref fI) = true)
    (a1 : PySem.W.nsIn K mainGlobals "_law_pen" = some (some (.ref f1))) (l1 : K.lookup f1 = some ⟨oc1, od1, .func (PySem.W.fnOf "_law_pen" "_law_pen" (defArgs s_l_pen) (defBody s_l_pen) (defScope s_l_pen) .none kV1 dc1 pm1 an1 cd1 ct1), sl1⟩) (c1 : PySem.W.codeIn K cd1 "_law_pen" = true) (k1 : PySem.W.keepIn K (.ref f1) = true)
    (a2 : PySem.W.nsIn K mainGlobals "_law_draw" = some (some (.ref f2))) (l2 : K.lookup f2 = some ⟨oc2, od2, .func (PySem.W.fnOf "_law_draw" "_law_draw" (defArgs s_l_draw) (defBody s_l_draw) (defScope s_l_draw) .none kV2 dc2 pm2 an2 cd2 ct2), sl2⟩) (c2 : PySem.W.codeIn K cd2 "_law_draw" = true) (k2 : PySem.W.keepIn K (.ref f2) = true)
    (a3 : PySem.W.nsIn K mainGlobals "_law_pick" = some (some (.ref f3))) (l3 : K.lookup f3 = some ⟨oc3, od3, .func (PySem.W.fnOf "_law_pick" "_law_pick" (defArgs s_l_pick) (defBody s_l_pick) (defScope s_l_pick) .none kV3 dc3 pm3 an3 cd3 ct3), sl3⟩) (c3 : PySem.W.codeIn K cd3 "_law_pick" = true) (k3 : PySem.W.keepIn K (.ref f3) = true)
    (a4 : PySem.W.nsIn K mainGlobals "_law_plain" = some (some (.ref f4))) (l4 : K.lookup f4 = some ⟨oc4, od4, .func (PySem.W.fnOf "_law_plain" "_law_plain" (defArgs s_l_plain) (defBody s_l_plain) (defScope s_l_plain) .none kV4 dc4 pm4 an4 cd4 ct4), sl4⟩) (c4 : PySem.W.codeIn K cd4 "_law_plain" = true) (k4 : PySem.W.keepIn K (.ref f4) = true)
    (a5 : PySem.W.nsIn K mainGlobals "_law_row_of" = some (some (.ref f5))) (l5 : K.lookup f5 = some ⟨oc5, od5, .func (PySem.W.fnOf "_law_row_of" "_law_row_of" (defArgs s_l_row_of) (defBody s_l_row_of) (defScope s_l_row_of) .none kV5 dc5 pm5 an5 cd5 ct5), sl5⟩) (c5 : PySem.W.codeIn K cd5 "_law_row_of" = true) (k5 : PySem.W.keepIn K (.ref f5) = true)
    (a6 : PySem.W.nsIn K mainGlobals "_law_made" = some (some (.ref f6))) (l6 : K.lookup f6 = some ⟨oc6, od6, .func (PySem.W.fnOf "_law_made" "_law_made" (defArgs s_l_made) (defBody s_l_made) (defScope s_l_made) .none kV6 dc6 pm6 an6 cd6 ct6), sl6⟩) (c6 : PySem.W.codeIn K cd6 "_law_made" = true) (k6 : PySem.W.keepIn K (.ref f6) = true)
    (a7 : PySem.W.nsIn K mainGlobals "is_whole" = some (some (.ref f7))) (l7 : K.lookup f7 = some ⟨oc7, od7, .func (PySem.W.fnOf "is_whole" "is_whole" (defArgs s_is_whole) (defBody s_is_whole) (defScope s_is_whole) .none kV7 dc7 pm7 an7 cd7 ct7), sl7⟩) (c7 : PySem.W.codeIn K cd7 "is_whole" = true) (k7 : PySem.W.keepIn K (.ref f7) = true)
    (a8 : PySem.W.nsIn K mainGlobals "is_count" = some (some (.ref f8))) (l8 : K.lookup f8 = some ⟨oc8, od8, .func (PySem.W.fnOf "is_count" "is_count" (defArgs s_is_count) (defBody s_is_count) (defScope s_is_count) .none kV8 dc8 pm8 an8 cd8 ct8), sl8⟩) (c8 : PySem.W.codeIn K cd8 "is_count" = true) (k8 : PySem.W.keepIn K (.ref f8) = true)
    (a9 : PySem.W.nsIn K mainGlobals "is_letter" = some (some (.ref f9))) (l9 : K.lookup f9 = some ⟨oc9, od9, .func (PySem.W.fnOf "is_letter" "is_letter" (defArgs s_is_letter) (defBody s_is_letter) (defScope s_is_letter) .none kV9 dc9 pm9 an9 cd9 ct9), sl9⟩) (c9 : PySem.W.codeIn K cd9 "is_letter" = true) (k9 : PySem.W.keepIn K (.ref f9) = true)
    (a10 : PySem.W.findIn K (.ref C) "put" = some (some (.ref f10))) (i10 : PySem.W.isFn K (.ref f10) = true) (l10 : K.lookup f10 = some ⟨oc10, od10, .func (PySem.W.fnOf "put" "Wire.put" (defArgs s_Wire_put) (defBody s_Wire_put) (defScope s_Wire_put) .none kV10 dc10 pm10 an10 cd10 ct10), sl10⟩) (c10 : PySem.W.codeIn K cd10 "Wire.put" = true)
    (k10 : PySem.W.keepIn K (.ref f10) = true) (a11 : PySem.W.findIn K (.ref C) "letter" = some (some (.ref f11))) (i11 : PySem.W.isFn K (.ref f11) = true) (l11 : K.lookup f11 = some ⟨oc11, od11, .func (PySem.W.fnOf "letter" "Wire.letter" (defArgs s_Wire_letter) (defBody s_Wire_letter) (defScope s_Wire_letter) .none kV11 dc11 pm11 an11 cd11 ct11), sl11⟩)
    (c11 : PySem.W.codeIn K cd11 "Wire.letter" = true) (k11 : PySem.W.keepIn K (.ref f11) = true) (a12 : PySem.W.findIn K (.ref C) "take" = some (some (.ref f12))) (i12 : PySem.W.isFn K (.ref f12) = true)
    (l12 : K.lookup f12 = some ⟨oc12, od12, .func (PySem.W.fnOf "take" "Wire.take" (defArgs s_Wire_take) (defBody s_Wire_take) (defScope s_Wire_take) .none kV12 dc12 pm12 an12 cd12 ct12), sl12⟩) (c12 : PySem.W.codeIn K cd12 "Wire.take" = true) (k12 : PySem.W.keepIn K (.ref f12) = true) (a13 : PySem.W.findIn K (.ref C) "__eq__" = some (some (.ref f13)))
    (i13 : PySem.W.isFn K (.ref f13) = true) (l13 : K.lookup f13 = some ⟨oc13, od13, .func (PySem.W.fnOf "__eq__" "Wire.__eq__" (defArgs s_Wire_eq) (defBody s_Wire_eq) (defScope s_Wire_eq) .none kV13 dc13 pm13 an13 cd13 ct13), sl13⟩) (c13 : PySem.W.codeIn K cd13 "Wire.__eq__" = true) (k13 : PySem.W.keepIn K (.ref f13) = true)
    (aL : PySem.W.nsIn K mainGlobals "law" = some (some (.ref fL))) (lL : K.lookup fL = some ⟨ocL, odL, .func (PySem.W.fnOf "law" "law" (defArgs s_law) (defBody s_law) (defScope s_law) .none kVL dcL pmL anL cdL ctL), slL⟩) (cL : PySem.W.codeIn K cdL "law" = true) (kL : PySem.W.keepIn K (.ref fL) = true) :
    ∃ fd : FuncData, (∀ (s : Shared) (v : Value), BindsTo s fd ⟨[v], []⟩ [("_law_script", v)]) ∧ ∀ base : Heap, K.In base → base.Ns mainGlobals mg → FnOk l.prog w K mg base CX0 6 fa fd ["_law_script"] (spLaw K) := by
  have e := hfa.symm.trans (PySem.W.mg_of X G aL)
  cases e
  have B : Bl mg := ⟨PySem.W.mg_none_of X G z_len, PySem.W.mg_none_of X G z_isinstance, PySem.W.mg_none_of X G z_int, PySem.W.mg_none_of X G z_bool, PySem.W.mg_none_of X G z_str, PySem.W.mg_none_of X G z_list, PySem.W.mg_none_of X G z_tuple, PySem.W.mg_none_of X G z_range, PySem.W.mg_none_of X G z_abs, PySem.W.mg_none_of X G z_min, PySem.W.mg_none_of X G z_max, PySem.W.mg_none_of X G z_all, PySem.W.mg_none_of X G z_repr, PySem.W.mg_none_of X G z_dict⟩
  have W2 : W2 K C := ⟨w2ne, w2hm, w2ha, w2hn, w2ht, kit_self, kit_own w2cl w2ty w2sI, kit_own w2cl w2ty w2sL, kit_own w2cl w2ty w2sT, w2nC, w2nI, w2nL, w2nT⟩
  have FI := fun_mk (st := s_Wire_init) lI cI kI
  have bI := FI.binds (ps := ["self"]) fun _ _ _ _ _ _ us hl => match us, hl with | [_], _ => rfl
  have F1 := fun_mk (st := s_l_pen) l1 c1 k1
  have b1 := F1.binds (ps := ["_law_script"]) fun _ _ _ _ _ _ us hl => match us, hl with | [_], _ => rfl
  have F2 := fun_mk (st := s_l_draw) l2 c2 k2
  have b2 := F2.binds (ps := ["_law_pen_here", "_law_many"]) fun _ _ _ _ _ _ us hl => match us, hl with | [_, _], _ => rfl
  have F3 := fun_mk (st := s_l_pick) l3 c3 k3
  have b3 := F3.binds (ps := ["_law_pen_here", "_law_some"]) fun _ _ _ _ _ _ us hl => match us, hl with | [_, _], _ => rfl
  have F4 := fun_mk (st := s_l_plain) l4 c4 k4
  have b4 := F4.binds (ps := ["_law_pen_here"]) fun _ _ _ _ _ _ us hl => match us, hl with | [_], _ => rfl
  have F5 := fun_mk (st := s_l_row_of) l5 c5 k5
  have b5 := F5.binds (ps := ["_law_pen_here"]) fun _ _ _ _ _ _ us hl => match us, hl with | [_], _ => rfl
  have F6 := fun_mk (st := s_l_made) l6 c6 k6
  have b6 := F6.binds (ps := ["_law_pen_here", "_law_placed", "_law_taken", "_law_known"]) fun _ _ _ _ _ _ us hl => match us, hl with | [_, _, _, _], _ => rfl
  have F7 := fun_mk (st := s_is_whole) l7 c7 k7
  have b7 := F7.binds (ps := ["thing"]) fun _ _ _ _ _ _ us hl => match us, hl with | [_], _ => rfl
  have F8 := fun_mk (st := s_is_count) l8 c8 k8
  have b8 := F8.binds (ps := ["thing"]) fun _ _ _ _ _ _ us hl => match us, hl with | [_], _ => rfl
  have F9 := fun_mk (st := s_is_letter) l9 c9 k9
  have b9 := F9.binds (ps := ["thing"]) fun _ _ _ _ _ _ us hl => match us, hl with | [_], _ => rfl
  have F10 := fun_mk (st := s_Wire_put) l10 c10 k10
  have b10 := F10.binds (ps := ["self", "row"]) fun _ _ _ _ _ _ us hl => match us, hl with | [_, _], _ => rfl
  have F11 := fun_mk (st := s_Wire_letter) l11 c11 k11
  have b11 := F11.binds (ps := ["self"]) fun _ _ _ _ _ _ us hl => match us, hl with | [_], _ => rfl
  have F12 := fun_mk (st := s_Wire_take) l12 c12 k12
  have b12 := F12.binds (ps := ["self", "letter"]) fun _ _ _ _ _ _ us hl => match us, hl with | [_, _], _ => rfl
  have F13 := fun_mk (st := s_Wire_eq) l13 c13 k13
  have b13 := F13.binds (ps := ["self", "other"]) fun _ _ _ _ _ _ us hl => match us, hl with | [_, _], _ => rfl
  have FL := fun_mk (st := s_law) lL cL kL
  have bL := FL.binds (ps := ["_law_script"]) fun _ _ _ _ _ _ us hl => match us, hl with | [_], _ => rfl
  have W : Wc K mg C fI _ tR := ⟨⟨pg, hd, po, sa⟩, nf0, nf1, nf2, PySem.W.mg_of X G aW, ⟨mkC, aI, iI, kc⟩, FI, bI, PySem.W.mg_of X G aR⟩
  refine ⟨PySem.W.fnOf "law" "law" (defArgs s_law) (defBody s_law) (defScope s_law) .none kVL dcL pmL anL cdL ctL, fun s v => .of_eq rfl, fun base _ _ => ?_⟩
  exact ok_law ⟨FL, bL, PySem.W.mg_of X G aL⟩ B W W2 ⟨F1, b1, PySem.W.mg_of X G a1⟩ ⟨F2, b2, PySem.W.mg_of X G a2⟩ ⟨F3, b3, PySem.W.mg_of X G a3⟩ ⟨F4, b4, PySem.W.mg_of X G a4⟩ ⟨F5, b5, PySem.W.mg_of X G a5⟩ ⟨F6, b6, PySem.W.mg_of X G a6⟩ ⟨F7, b7, PySem.W.mg_of X G a7⟩ ⟨F8, b8, PySem.W.mg_of X G a8⟩ ⟨F9, b9, PySem.W.mg_of X G a9⟩ ⟨⟨a10, i10, k10⟩, F10, b10⟩ ⟨⟨a11, i11, k11⟩, F11, b11⟩ ⟨⟨a12, i12, k12⟩, F12, b12⟩ ⟨⟨a13, i13, k13⟩, F13, b13⟩
theorem walk {l : PySem.W.OpenLaw} {q : Program} {loose : List Str} {XP : (Str → Option Value) → Heap → Prop} {YP : World → Heap → Prop} {d : DefRec} {K : Params → PySem.W.Frag} (hn : l.most = some 63) (hdf : d.params.defaults = [])
    (hY : ∀ (w : World) (h : Heap), YP w h → (K w.params).In h)
    (F : ∀ (w : World) (mg : Str → Option Value) (fa : Addr) (h : Heap), (K w.params).In h → h.Ns mainGlobals mg → mg d.name = some (.ref fa) →
      ∃ fd : FuncData, (∀ (s : Shared) (u : Value), BindsTo s fd ⟨[u], []⟩ [("_law_script", u)]) ∧ ∀ base : Heap, (K w.params).In base → base.Ns mainGlobals mg → FnOk l.prog w (K w.params) mg base CX0 6 fa fd ["_law_script"] (spLaw (K w.params))) :
    PySem.W.WalkO q loose XP YP l.row.toRowW d [] (fun f vs => PySem.call f vs) :=
  L2.walk_ofK (n := 63) (k := 6) (x := "_law_script") (CX := CX0) (sp := spLaw) hn (by decide) hdf ⟨rfl, by decide, by decide⟩ hY F (fun K H a ns hl _ hS => ⟨a, ns, rfl, hS, hl, fun _ => rfl⟩) fun _ _ _ _ z => z
end Fc
open PySem PySem.W PyProof.Rows
set_option maxRecDepth 100000 in
set_option maxHeartbeats 0 in
theorem PySem.Challenge.cw_farcalls_k28_wires_alike_holds : PySem.Challenge.rw_farcalls_k28_wires_alike.Holds := by
  w_on; o_law; k_head; (case hw => w_witness2)
  k_fill
  refine Fc.walk (l := PySem.Challenge.rw_farcalls_k28_wires_alike) rfl rfl (fun w h Y => PySem.W.kIn_of Y) ?F
  case F =>
    intro w mg fa h KX G hmg
    refine' Fc.all_mk KX G hmg ?aW ?pg ?hd ?po ?sa ?mkC ?kc ?nf0 ?nf1 ?nf2 ?z_len ?z_isinstance ?z_int ?z_bool ?z_str ?z_list ?z_tuple ?z_range ?z_abs ?z_min ?z_max ?z_all ?z_repr ?z_dict ?aR ?w2ne ?w2hm ?w2ha ?w2hn ?w2ht ?w2cl ?w2ty ?w2sI ?w2sL ?w2sT ?w2nC ?w2nI ?w2nL ?w2nT ?aI ?iI ?lI ?cI ?kI ?a1 ?l1 ?c1 ?k1 ?a2 ?l2 ?c2 ?k2 ?a3 ?l3 ?c3 ?k3 ?a4 ?l4 ?c4 ?k4 ?a5 ?l5 ?c5 ?k5 ?a6 ?l6 ?c6 ?k6 ?a7 ?l7 ?c7 ?k7 ?a8 ?l8 ?c8 ?k8 ?a9 ?l9 ?c9 ?k9 ?a10 ?i10 ?l10 ?c10 ?k10 ?a11 ?i11 ?l11 ?c11 ?k11 ?a12 ?i12 ?l12 ?c12 ?k12 ?a13 ?i13 ?l13 ?c13 ?k13 ?aL ?lL ?cL ?kL
    (case aW => k_is); (case pg => k_is); (case hd => k_is); (case po => k_is); (case sa => k_is); (case mkC => k_is); (case kc => k_is); (case nf0 => k_is)
    (case nf1 => k_is); (case nf2 => k_is); (case z_len => k_is); (case z_isinstance => k_is); (case z_int => k_is); (case z_bool => k_is); (case z_str => k_is); (case z_list => k_is)
    (case z_tuple => k_is); (case z_range => k_is); (case z_abs => k_is); (case z_min => k_is); (case z_max => k_is); (case z_all => k_is); (case z_repr => k_is); (case z_dict => k_is)
    (case aR => k_is); (case w2ne => k_is); (case w2hm => k_is); (case w2ha => k_is); (case w2hn => k_is); (case w2ht => k_is); (case w2cl => k_is); (case w2ty => k_is)
    (case w2sI => k_is); (case w2sL => k_is); (case w2sT => k_is); (case w2nC => k_is); (case w2nI => k_is); (case w2nL => k_is); (case w2nT => k_is); (case aI => k_is)
    (case iI => k_is); (case lI => k_is); (case cI => k_is); (case kI => k_is); (case a1 => k_is); (case l1 => k_is); (case c1 => k_is); (case k1 => k_is)
    (case a2 => k_is); (case l2 => k_is); (case c2 => k_is); (case k2 => k_is); (case a3 => k_is); (case l3 => k_is); (case c3 => k_is); (case k3 => k_is)
    (case a4 => k_is); (case l4 => k_is); (case c4 => k_is); (case k4 => k_is); (case a5 => k_is); (case l5 => k_is); (case c5 => k_is); (case k5 => k_is)
    (case a6 => k_is); (case l6 => k_is); (case c6 => k_is); (case k6 => k_is); (case a7 => k_is); (case l7 => k_is); (case c7 => k_is); (case k7 => k_is)
    (case a8 => k_is); (case l8 => k_is); (case c8 => k_is); (case k8 => k_is); (case a9 => k_is); (case l9 => k_is); (case c9 => k_is); (case k9 => k_is)
    (case a10 => k_is); (case i10 => k_is); (case l10 => k_is); (case c10 => k_is); (case k10 => k_is); (case a11 => k_is); (case i11 => k_is); (case l11 => k_is)
    (case c11 => k_is); (case k11 => k_is); (case a12 => k_is); (case i12 => k_is); (case l12 => k_is); (case c12 => k_is); (case k12 => k_is); (case a13 => k_is)
    (case i13 => k_is); (case l13 => k_is); (case c13 => k_is); (case k13 => k_is); (case aL => k_is); (case lL => k_is); (case cL => k_is); (case kL => k_is)
#print axioms PySem.Challenge.cw_farcalls_k28_wires_alike_holds
