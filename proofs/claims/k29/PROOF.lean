import PyProof.Rows.All
import Wide.All
import OpenK.AllK
import Wide.FinOn
import HandS.ForMost
import HandS.IsInst
import HandS.Flow
import HandS.TupAny
import HandS.Style
import HandS.Codes
import PySem.Challenge.RW_farcalls_k29_whole_rows_handed_on
set_option Elab.async false
set_option linter.all false
set_option maxRecDepth 100000
set_option maxHeartbeats 4000000
namespace Fc
open PySem L2

/-! ### objects apart from one another, by their addresses -/
structure Has (H : Hp) (os : List (Addr × HO)) : Prop where
  get : ∀ p ∈ os, H p.1 = some p.2
  nd : (os.map (·.1)).Nodup

theorem Has.at {H : Hp} {os : List (Addr × HO)} (h : Has H os) (i : Nat) {a : Addr} {o : HO} (e : os[i]? = some (a, o)) : H a = some o :=
  h.get (a, o) (List.mem_of_getElem? e)
theorem Has.head {H : Hp} {os : List (Addr × HO)} {a : Addr} {o : HO} (h : Has H ((a, o) :: os)) : H a = some o := h.get (a, o) List.mem_cons_self
theorem Has.tail {H : Hp} {os : List (Addr × HO)} {p : Addr × HO} (h : Has H (p :: os)) : Has H os :=
  ⟨fun q hq => h.get q (List.mem_cons_of_mem _ hq), (List.nodup_cons.mp h.nd).2⟩
theorem Has.nil {H : Hp} : Has H [] := ⟨fun p hp => absurd hp List.not_mem_nil, List.nodup_nil⟩
theorem Has.cons {H : Hp} {os : List (Addr × HO)} {a : Addr} {o : HO} (h : Has H os) (e : H a = some o) (n : a ∉ os.map (·.1)) : Has H ((a, o) :: os) :=
  ⟨fun q hq => by
    rcases List.mem_cons.mp hq with rfl | hq
    · exact e
    · exact h.get q hq, List.nodup_cons.mpr ⟨n, h.nd⟩⟩
theorem Has.fresh {H : Hp} {os : List (Addr × HO)} {p : Addr} (h : Has H os) (hp : H p = none) : p ∉ os.map (·.1) := by
  intro hm
  obtain ⟨q, hq, e⟩ := List.mem_map.mp hm
  have := h.get q hq
  rw [e, hp] at this
  cases this
/-- all that stands in os stands in the changed heap, too -/
theorem Has.keep {H H' : Hp} {os : List (Addr × HO)} (h : Has H os) (k : ∀ p ∈ os, H p.1 = some p.2 → H' p.1 = some p.2) : Has H' os :=
  ⟨fun p hp => k p hp (h.get p hp), h.nd⟩
theorem Has.other {H : Hp} {os : List (Addr × HO)} {a : Addr} {o : HO} (h : Has H os) (n : a ∉ os.map (·.1)) : Has (upd H a o) os :=
  h.keep fun p hp e => by
    have hne : p.1 ≠ a := fun z => n (z ▸ List.mem_map.mpr ⟨p, hp, rfl⟩)
    rw [upd_ne hne]
    exact e
theorem Has.new {H : Hp} {os : List (Addr × HO)} {p : Addr} {o : HO} (h : Has H os) (hp : H p = none) : Has (upd H p o) ((p, o) :: os) :=
  (h.other (h.fresh hp)).cons upd_same (h.fresh hp)
/-- a new object that isn't listed -/
theorem Has.over {H : Hp} {os : List (Addr × HO)} {p : Addr} {o : HO} (h : Has H os) (hp : H p = none) : Has (upd H p o) os := h.other (h.fresh hp)
theorem Has.put {H : Hp} {os : List (Addr × HO)} {a : Addr} {o u : HO} (h : Has H ((a, o) :: os)) : Has (upd H a u) ((a, u) :: os) :=
  (h.tail.other (List.nodup_cons.mp h.nd).1).cons upd_same (List.nodup_cons.mp h.nd).1
theorem Has.perm {H : Hp} {os os' : List (Addr × HO)} (h : Has H os) (p : os'.Perm os) : Has H os' :=
  ⟨fun q hq => h.get q (p.mem_iff.mp hq), ((p.map (·.1)).nodup_iff).mpr h.nd⟩
theorem Has.left {H : Hp} {xs ys : List (Addr × HO)} (h : Has H (xs ++ ys)) : Has H xs :=
  ⟨fun q hq => h.get q (List.mem_append_left _ hq), by
    have := h.nd
    rw [List.map_append] at this
    exact (List.nodup_append.mp this).1⟩
theorem Has.right {H : Hp} {xs ys : List (Addr × HO)} (h : Has H (xs ++ ys)) : Has H ys :=
  ⟨fun q hq => h.get q (List.mem_append_right _ hq), by
    have := h.nd
    rw [List.map_append] at this
    exact (List.nodup_append.mp this).2.1⟩
/-- the objects at these places of the head, in this order -/
def pickL (xs : List (Addr × HO)) (is : List Nat) : List (Addr × HO) := is.filterMap (xs[·]?)
theorem mem_pick {xs : List (Addr × HO)} {is : List Nat} {p : Addr × HO} (h : p ∈ pickL xs is) : p ∈ xs := by
  obtain ⟨i, _, e⟩ := List.mem_filterMap.mp h
  exact List.mem_of_getElem? e
theorem nd_pick {xs : List (Addr × HO)} (h : (xs.map (·.1)).Nodup) : ∀ {is : List Nat}, is.Nodup → ((pickL xs is).map (·.1)).Nodup
  | [], _ => List.nodup_nil
  | i :: is, hn => by
    have ih := nd_pick h (List.nodup_cons.mp hn).2
    unfold pickL at ih ⊢
    rw [List.filterMap_cons]
    cases e : xs[i]? with
    | none => exact ih
    | some p =>
      rw [List.map_cons]
      refine List.nodup_cons.mpr ⟨fun hm => ?_, ih⟩
      obtain ⟨q, hq, eq⟩ := List.mem_map.mp hm
      obtain ⟨j, hj, ej⟩ := List.mem_filterMap.mp hq
      have h1 : (xs.map (·.1))[i]? = some p.1 := by rw [List.getElem?_map, e]; rfl
      have h2 : (xs.map (·.1))[j]? = some p.1 := by rw [List.getElem?_map, ej]; exact congrArg some eq
      have hl : i < (xs.map (·.1)).length := by
        rcases Nat.lt_or_ge i (xs.map (·.1)).length with z | z
        · exact z
        · rw [List.getElem?_eq_none_iff.mpr z] at h1; cases h1
      have : i = j := (List.getElem?_inj hl h).mp (h1.trans h2.symm)
      subst this
      exact (List.nodup_cons.mp hn).1 hj
theorem Has.idx {H : Hp} {xs : List (Addr × HO)} (h : Has H xs) (is : List Nat) (hn : is.Nodup := by decide) : Has H (pickL xs is) :=
  ⟨fun p hp => h.get p (mem_pick hp), nd_pick h.nd hn⟩
theorem Has.pre {H : Hp} {xs R : List (Addr × HO)} (h : Has H (xs ++ R)) (is : List Nat) (hn : is.Nodup := by decide) : Has H (pickL xs is ++ R) := by
  refine ⟨fun p hp => ?_, ?_⟩
  · rcases List.mem_append.mp hp with hp | hp
    · exact h.get p (List.mem_append_left _ (mem_pick hp))
    · exact h.get p (List.mem_append_right _ hp)
  · have nd := h.nd
    rw [List.map_append] at nd ⊢
    obtain ⟨n1, n2, n3⟩ := List.nodup_append.mp nd
    refine List.nodup_append.mpr ⟨nd_pick n1 hn, n2, fun a ha b hb => n3 a ?_ b hb⟩
    obtain ⟨q, hq, e⟩ := List.mem_map.mp ha
    exact List.mem_map.mpr ⟨q, mem_pick hq, e⟩
theorem Has.swap {H : Hp} {p q : Addr × HO} {R : List (Addr × HO)} (h : Has H (p :: q :: R)) : Has H (q :: p :: R) := h.perm (List.Perm.swap _ _ _)
/-- the third one first -/
theorem Has.up2 {H : Hp} {p q r : Addr × HO} {R : List (Addr × HO)} (h : Has H (p :: q :: r :: R)) : Has H (r :: p :: q :: R) := h.pre (xs := [p, q, r]) [2, 0, 1]
/-- the first one third -/
theorem Has.dn2 {H : Hp} {p q r : Addr × HO} {R : List (Addr × HO)} (h : Has H (p :: q :: r :: R)) : Has H (q :: r :: p :: R) := h.pre (xs := [p, q, r]) [1, 2, 0]
theorem Has.dn3 {H : Hp} {p q r t : Addr × HO} {R : List (Addr × HO)} (h : Has H (p :: q :: r :: t :: R)) : Has H (q :: r :: t :: p :: R) := h.pre (xs := [p, q, r, t]) [1, 2, 3, 0]

/-! ### tuples stay -/
def Tk (H H' : Hp) : Prop := ∀ b xs, H b = some (.tup xs) → H' b = some (.tup xs)
theorem Tk.refl {H : Hp} : Tk H H := fun _ _ h => h
theorem Tk.trans {H H1 H2 : Hp} (a : Tk H H1) (b : Tk H1 H2) : Tk H H2 := fun c o h => b c o (a c o h)
theorem Tk.new {H : Hp} {p : Addr} {o : HO} (h : H p = none) : Tk H (upd H p o) := fun b xs e => by
  rw [upd_ne (ne_of_none e h)]
  exact e
theorem Tk.put {H : Hp} {p : Addr} {o u : HO} (h : H p = some o) (n : ∀ xs, o ≠ .tup xs) : Tk H (upd H p u) := fun b xs e => by
  have hne : b ≠ p := fun z => by
    subst z
    rw [h] at e
    exact n xs (Option.some.inj e)
  rw [upd_ne hne]
  exact e
theorem Tk.lst {H : Hp} {p : Addr} {ys : List V} {u : HO} (h : H p = some (.lst ys)) : Tk H (upd H p u) := Tk.put h fun _ z => nomatch z
theorem Tk.dK {H : Hp} {p : Addr} {ys : List (Key × V)} {u : HO} (h : H p = some (.dK ys)) : Tk H (upd H p u) := Tk.put h fun _ z => nomatch z
theorem Tk.ins {H : Hp} {p C dx : Addr} {fs : List (Str × V)} {u : HO} (h : H p = some (.ins C dx fs)) : Tk H (upd H p u) := Tk.put h fun _ z => nomatch z

/-! ### data that stays: None, truths, ints, texts, tuples of such -/
mutual
inductive Fz (H : Hp) : V → PyData → Prop
  | non : Fz H .non .none
  | bl (b : Bool) : Fz H (.bl b) (.bool b)
  | int (i : Int) : Fz H (.int i) (.int i)
  | str (x : Str) : Fz H (.str x) (.str x)
  | tup {a : Addr} {xs : List V} {ds : List PyData} : H a = some (.tup xs) → FzAll H xs ds → Fz H (.ref a) (.tuple ds)
inductive FzAll (H : Hp) : List V → List PyData → Prop
  | nil : FzAll H [] []
  | cons {v : V} {vs : List V} {d : PyData} {ds : List PyData} : Fz H v d → FzAll H vs ds → FzAll H (v :: vs) (d :: ds)
end
mutual
theorem Fz.keep {H H' : Hp} (k : Tk H H') : ∀ {v : V} {d : PyData}, Fz H v d → Fz H' v d
  | _, _, .non => .non
  | _, _, .bl b => .bl b
  | _, _, .int i => .int i
  | _, _, .str x => .str x
  | _, _, .tup e h => .tup (k _ _ e) (FzAll.keep k h)
theorem FzAll.keep {H H' : Hp} (k : Tk H H') : ∀ {v : List V} {d : List PyData}, FzAll H v d → FzAll H' v d
  | _, _, .nil => .nil
  | _, _, .cons h t => .cons (Fz.keep k h) (FzAll.keep k t)
end
mutual
theorem Fz.dp {K : PySem.W.Frag} {H : Hp} : ∀ {v : V} {d : PyData}, Fz H v d → Dp K H v d
  | _, _, .non => .non
  | _, _, .bl b => .bl b
  | _, _, .int i => .int i
  | _, _, .str x => .str x
  | _, _, .tup e h => .tup (SqT.of e) (FzAll.dp h)
theorem FzAll.dp {K : PySem.W.Frag} {H : Hp} : ∀ {v : List V} {d : List PyData}, FzAll H v d → DpAll K H v d
  | _, _, .nil => .nil
  | _, _, .cons h t => .cons (Fz.dp h) (FzAll.dp t)
end
theorem FzAll.length {H : Hp} : ∀ {v : List V} {d : List PyData}, FzAll H v d → v.length = d.length
  | _, _, .nil => rfl
  | _, _, .cons _ t => congrArg (· + 1) (FzAll.length t)
theorem FzAll.append {H : Hp} : ∀ {v v' : List V} {d d' : List PyData}, FzAll H v d → FzAll H v' d' → FzAll H (v ++ v') (d ++ d')
  | _, _, _, _, .nil, s => s
  | _, _, _, _, .cons h t, s => .cons h (FzAll.append t s)
theorem FzAll.drop {H : Hp} : ∀ {v : List V} {d : List PyData} (n : Nat), FzAll H v d → FzAll H (v.drop n) (d.drop n)
  | _, _, 0, h => h
  | _, _, _ + 1, .nil => .nil
  | _, _, n + 1, .cons _ t => FzAll.drop n t
theorem FzAll.take {H : Hp} : ∀ {v : List V} {d : List PyData} (n : Nat), FzAll H v d → FzAll H (v.take n) (d.take n)
  | _, _, 0, _ => .nil
  | _, _, _ + 1, .nil => .nil
  | _, _, n + 1, .cons h t => .cons h (FzAll.take n t)

/-! ### how great data is -/
structure Gd (b k : Nat) (d : PyData) : Prop where
  sh : d.showable = true
  ls : d.leavesShort 13 = true
  cl : d.canLay0 = true
  bk : d.bulk ≤ b
  dp : d.depth ≤ k
theorem Gd.mono {b b' k k' : Nat} {d : PyData} (h : Gd b k d) (hb : b ≤ b') (hk : k ≤ k') : Gd b' k' d := ⟨h.sh, h.ls, h.cl, Nat.le_trans h.bk hb, Nat.le_trans h.dp hk⟩
structure GdAll (b k : Nat) (ds : List PyData) : Prop where
  sh : PyData.showableAll ds = true
  ls : PyData.leavesShortAll 13 ds = true
  cl : PyData.canLayAll0 ds = true
  bk : PyData.bulkAll ds ≤ b
  dp : PyData.depthAll ds ≤ k
theorem GdAll.nil {k : Nat} : GdAll 0 k [] := ⟨rfl, rfl, rfl, Nat.le_refl _, Nat.zero_le _⟩
theorem GdAll.cons {b c k : Nat} {d : PyData} {ds : List PyData} (h : Gd b k d) (t : GdAll c k ds) : GdAll (b + 1 + c) k (d :: ds) := by
  refine ⟨?_, ?_, ?_, ?_, ?_⟩
  · simp only [PyData.showableAll, h.sh, t.sh, Bool.and_self]
  · simp only [PyData.leavesShortAll, h.ls, t.ls, Bool.and_self]
  · simp only [PyData.canLayAll0, h.cl, t.cl, Bool.and_self]
  · have h1 := h.bk
    have h2 := t.bk
    simp only [PyData.bulkAll]
    omega
  · have h1 := h.dp
    have h2 := t.dp
    simp only [PyData.depthAll]
    omega
theorem GdAll.of {b k : Nat} : ∀ {ds : List PyData}, (∀ d ∈ ds, Gd b k d) → GdAll ((b + 1) * ds.length) k ds
  | [], _ => GdAll.nil
  | d :: ds, h => by
    have t := GdAll.cons (h d List.mem_cons_self) (GdAll.of fun e he => h e (List.mem_cons_of_mem _ he))
    rw [List.length_cons, Nat.mul_succ, Nat.add_comm]
    exact t
theorem GdAll.mono {b b' k k' : Nat} {d : List PyData} (h : GdAll b k d) (hb : b ≤ b') (hk : k ≤ k') : GdAll b' k' d := ⟨h.sh, h.ls, h.cl, Nat.le_trans h.bk hb, Nat.le_trans h.dp hk⟩
theorem GdAll.tup {b k : Nat} {ds : List PyData} (h : GdAll b k ds) : Gd b (k + 1) (.tuple ds) :=
  ⟨by simp only [PyData.showable, h.sh], by simp only [PyData.leavesShort, h.ls], by simp only [PyData.canLay0, h.cl], by simp only [PyData.bulk]; exact h.bk, by
    have := h.dp
    simp only [PyData.depth]
    omega⟩
theorem GdAll.lst {b k : Nat} {ds : List PyData} (h : GdAll b k ds) : Gd b (k + 1) (.list ds) :=
  ⟨by simp only [PyData.showable, h.sh], by simp only [PyData.leavesShort, h.ls], by simp only [PyData.canLay0, h.cl], by simp only [PyData.bulk]; exact h.bk, by
    have := h.dp
    simp only [PyData.depth]
    omega⟩
theorem log2_lt {m : Nat} (h : m < 2 ^ 1920) : m.log2 < 1920 := by
  by_cases z : m = 0
  · subst z
    decide
  · exact (Nat.log2_lt z).mpr h
theorem Gd.int {i : Int} (h : i.natAbs < 10 ^ 12) : Gd 0 0 (.int i) := by
  have h1 := PyData.shown_int_le h
  refine ⟨?_, ?_, rfl, Nat.le_refl _, Nat.le_refl _⟩
  · simp only [PyData.showable, decide_eq_true_eq]
    exact log2_lt (Nat.lt_trans h (by decide))
  · simp only [PyData.leavesShort, decide_eq_true_eq]
    exact h1
theorem Gd.non : Gd 0 0 .none := ⟨rfl, rfl, rfl, Nat.le_refl _, Nat.le_refl _⟩
theorem Gd.bool {b : Bool} : Gd 0 0 (.bool b) := ⟨rfl, rfl, rfl, Nat.le_refl _, Nat.le_refl _⟩
theorem Gd.str {x : Str} {b : Nat} (h : (x.cps.toList.all fun c => decide (c < 16 ^ 8)) = true) (h1 : PyData.canLay0 (.str x) = true) (h2 : x.cps.size ≤ b) : Gd b 0 (.str x) :=
  ⟨rfl, by simp only [PyData.leavesShort]; exact h, h1, by simp only [PyData.bulk]; exact h2, by simp only [PyData.depth]; exact Nat.le_refl _⟩
theorem Gd.shaped {b k : Nat} {d : PyData} (h : Gd b k d) (hk : k ≤ 64) : SeqAt.shaped d = true := by
  have := h.dp
  unfold SeqAt.shaped
  rw [h.cl, decide_eq_true (by omega)]
  rfl
theorem Gd.fits {b k : Nat} {d : PyData} (h : Gd b k d) (hb : b ≤ 2 ^ 20) : d.shown.length ≤ sizeLine :=
  PyData.shown_fits_bulk (B := 13) (by decide) (by decide) h.ls (Nat.le_trans h.bk hb)
theorem Gd.noDict {b k : Nat} {d : PyData} (h : Gd b k d) : d.hasDict = false := PyData.hasDict_of_canLay d h.cl

/-! ### repr of data, where no repr is under way -/
def rRepr (K : PySem.W.Frag) : List V → Hp → VK → Prop := fun xs H Q => ∃ (a : Addr) (d : PyData), xs = [.ref a] ∧ Dp K H (.ref a) d ∧ Gd (2 ^ 20) 60 d ∧ Q (.str d.shown) H
theorem call_reprD {X : Cx} (hg : X.A.guards = some []) (hu : X.A.units + 64 < cLine) : CallR X (.builtin "repr") (rRepr X.K) := by
  intro pins s σ H xs us Q I r h
  obtain ⟨a, d, rfl, hd, g, q⟩ := h
  cases r with
  | cons r1 r2 =>
    cases r2
    cases r1
    obtain ⟨as, rd⟩ := Dp.reads I d (.ref a) (.ref a) hd rfl
    have := g.dp
    exact repr_of_reads' rd g.sh (PyData.noDict_hsm g.noDict) hg (by omega) (fun b o e => e)
      (fun h' u tk hk => ⟨.str d.shown, H, I.kept hk, ⟨u, rfl⟩, q⟩) (g.fits (Nat.le_refl _))
end Fc

set_option Elab.async false
set_option linter.all false
set_option maxRecDepth 100000
set_option maxHeartbeats 4000000
namespace Fc
open PySem L2 PySem.Spec PyProof.Rows

theorem same_new {H : Hp} {p : Addr} {o : HO} (h : H p = none) : Same H (upd H p o) := fun b u e => by
  rw [upd_ne (ne_of_none e h)]
  exact e
theorem same_tk {H H' : Hp} (h : Same H H') : Tk H H' := fun b xs e => h b _ e
theorem Has.same {H H' : Hp} {os : List (Addr × HO)} (h : Has H os) (s : Same H H') : Has H' os := h.keep fun p _ e => s _ _ e

/-! ### slices and sums of tuples that are tracked: some tuple of these items, be it the same one -/
def rSlX : V → Option Int → Option Int → Hp → VK → Prop := fun x lo hi H Q =>
  ∃ (a : Addr) (xs : List V), x = .ref a ∧ H a = some (.tup xs) ∧ ∀ (p : Addr) (H' : Hp), Same H H' → H' p = some (.tup (cutV xs lo hi)) → Q (.ref p) H'
theorem sl_tupX {X : Cx} : SlR X rSlX := by
  intro pins s σ H x v vl vu lo hi sl Q I rx hs pl pu h
  obtain ⟨a, xs, rfl, ha, q⟩ := h
  refine sl_tupA pins s σ H (.ref a) v vl vu lo hi sl Q I rx hs pl pu ⟨a, xs, rfl, SqT.of ha, fun hw => ?_, fun _ p hp => q p _ (same_new hp) upd_same⟩
  have e : cutV xs lo hi = xs := by
    unfold cutV
    rw [hw.1, hw.2, List.drop_zero, Nat.sub_zero, List.take_length]
  exact q a H (Same.refl H) (by rw [e]; exact ha)
def rCatX : R2 := fun x y H Q =>
  ∃ (a b : Addr) (xs ys : List V), x = .ref a ∧ y = .ref b ∧ H a = some (.tup xs) ∧ H b = some (.tup ys) ∧ xs.length + ys.length ≤ sizeLine ∧ ∀ (p : Addr) (H' : Hp), Same H H' → H' p = some (.tup (xs ++ ys)) → Q (.ref p) H'
theorem op_catX {X : Cx} : OpR X (binaryOp .Add) rCatX := by
  intro pins s σ H x y v u Q I rx ry h
  obtain ⟨a, b, xs, ys, rfl, rfl, ha, hb, hz, q⟩ := h
  refine op_catA pins s σ H (.ref a) (.ref b) v u Q I rx ry ⟨a, b, xs, ys, rfl, rfl, SqT.of ha, SqT.of hb, hz, fun e => ?_, fun _ e => ?_, fun _ _ p hp => q p _ (same_new hp) upd_same⟩
  · subst e
    exact q b H (Same.refl H) hb
  · subst e
    exact q a H (Same.refl H) (by rw [List.append_nil]; exact ha)
theorem cut_from {xs : List V} {k : Int} (h : 0 ≤ k) : cutV xs (some k) none = xs.drop k.toNat := by
  obtain ⟨n, rfl⟩ := Int.eq_ofNat_of_zero_le h
  unfold cutV
  rw [HT.sIx_nat, HT.sIx_none, Int.toNat_natCast]
  rcases Nat.le_total n xs.length with z | z
  · rw [Nat.min_eq_left z, List.take_of_length_le (by rw [List.length_drop]; omega)]
  · rw [Nat.min_eq_right z, List.drop_of_length_le (Nat.le_refl _), List.drop_of_length_le z, List.take_nil]
theorem cut_to {xs : List V} {k : Int} (h : 0 ≤ k) : cutV xs none (some k) = xs.take k.toNat := by
  obtain ⟨n, rfl⟩ := Int.eq_ofNat_of_zero_le h
  unfold cutV
  rw [HT.sIx_nat, HT.sIx_none, Int.toNat_natCast, List.drop_zero, Nat.sub_zero]
  rcases Nat.le_total n xs.length with z | z
  · rw [Nat.min_eq_left z]
  · rw [Nat.min_eq_right z, List.take_of_length_le (Nat.le_refl _), List.take_of_length_le z]

/-! ### rules by a K of their own -/
theorem call_isiE {X : Cx} {K : PySem.W.Frag} (h : X.K = K) : CallR X (.builtin "isinstance") (rIsi K) := h ▸ call_isi
theorem call_isiTE {X : Cx} {K : PySem.W.Frag} (h : X.K = K) : CallR X (.builtin "isinstance") (rIsiT K) := h ▸ call_isiT
def rLenE (K : PySem.W.Frag) : List V → Hp → VK → Prop := fun xs H Q => ∃ p ys, xs = [.ref p] ∧ (SqL K H p ys ∨ SqT K H p ys) ∧ Q (.int ys.length) H
theorem call_lenE {X : Cx} {K : PySem.W.Frag} (h : X.K = K) : CallR X (.builtin "len") (rLenE K) := h ▸ call_len_seq
def rListE (K : PySem.W.Frag) : List V → Hp → VK → Prop := fun xs H Q => ∃ p ys, xs = [.ref p] ∧ (SqL K H p ys ∨ SqT K H p ys) ∧ ∀ l, H l = none → Q (.ref l) (upd H l (.lst ys))
theorem call_listE {X : Cx} {K : PySem.W.Frag} (h : X.K = K) : CallR X (.type "list") (rListE K) := h ▸ call_list_of
def rTupleE (K : PySem.W.Frag) : List V → Hp → VK → Prop := fun xs H Q => ∃ p ys, xs = [.ref p] ∧ ((SqL K H p ys ∧ ∀ l, H l = none → Q (.ref l) (upd H l (.tup ys))) ∨ (SqT K H p ys ∧ Q (.ref p) H))
theorem call_tupleE {X : Cx} {K : PySem.W.Frag} (h : X.K = K) : CallR X (.type "tuple") (rTupleE K) := h ▸ call_tuple_of
theorem ix_listE {X : Cx} {K : PySem.W.Frag} (h : X.K = K) : IxR X (rIxL K) := h ▸ ix_list
theorem ix_tupE {X : Cx} {K : PySem.W.Frag} (h : X.K = K) : IxR X (rIxT K) := h ▸ ix_tup
theorem sl_listE {X : Cx} {K : PySem.W.Frag} (h : X.K = K) : SlR X (rSlL K) := h ▸ sl_list
theorem op_eqE {X : Cx} {K : PySem.W.Frag} (h : X.K = K) (hu : X.A.units + 64 < cLine) : OpR X (compareOp .Eq) (rEqD K) := h ▸ op_eqD hu
theorem op_neE {X : Cx} {K : PySem.W.Frag} (h : X.K = K) (hu : X.A.units + 64 < cLine) : OpR X (compareOp .NotEq) (rNeD K) := h ▸ op_neD hu
theorem call_reprE {X : Cx} {K : PySem.W.Frag} (h : X.K = K) (hg : X.A.guards = some []) (hu : X.A.units + 64 < cLine) : CallR X (.builtin "repr") (rRepr K) := h ▸ call_reprD hg hu

/-! ### defs that are called where no repr is under way -/
structure FnG (P : Program) (w : World) (K : PySem.W.Frag) (mg : Str → Option Value) (base : Heap) (CX : CXT) (k : Nat) (f : Addr) (fd : FuncData) (ps : List Str) (sp : Sp) : Prop where
  len : ∀ vs H Q E, sp vs H Q E → vs.length = ps.length
  run : ∀ (A : Around) (outer : List Env) (s : Shared) (H : Hp) (args : Args) (us : List Value) (vs : List V) (Q : VK) (E : XK),
    A.guards = some [] → Room k A → Env0 P w K mg base A outer s H → BindsTo s fd args (ps.zip us) → Vals vs us → sp vs H Q E →
    codeAny (model P w) A (.call (.ref f) args) (CR CX outer P w H s Q E) s
theorem FnG.mono {P : Program} {w : World} {K : PySem.W.Frag} {mg : Str → Option Value} {base : Heap} {CX : CXT} {j k : Nat} {f : Addr} {fd : FuncData} {ps : List Str} {sp : Sp}
    (F : FnG P w K mg base CX j f fd ps sp) (h : j ≤ k) : FnG P w K mg base CX k f fd ps sp :=
  ⟨F.len, fun A outer s H args us vs Q E hg hr => F.run A outer s H args us vs Q E hg (hr.mono h)⟩

theorem fun_okG {P : Program} {w : World} {K : PySem.W.Frag} {mg : Str → Option Value} {base : Heap} {x qual : Str} {st : Stmt} {f : Addr} {fd : FuncData} {N ps : List Str} {k : Nat} {sp : Sp}
    (F : Fun K x qual st f fd) (S : FnScope N ps (defScope st)) (len : ∀ vs H Q E, sp vs H Q E → vs.length = ps.length)
    (hbody : ∀ (cdv : Value) (A : Around) (outer : List Env) (s : Shared) (H : Hp) (vs : List V) (Q : VK) (E : XK),
      (A.deeper (envOfC qual (defScope st) s.heap.objs.size f cdv)).guards = some [] → Room k (A.deeper (envOfC qual (defScope st) s.heap.objs.size f cdv)) → sp vs H Q E →
      ∃ t, PSs (cxOf CX0 P w K mg base N qual (defScope st) f cdv A outer s H E).nox (defBody st) t ∧ t { nx := fun _ H' => Q .non H', rt := Q } (start N vs) H) :
    FnG P w K mg base CX0 (k + 1) f fd ps sp := by
  obtain ⟨oc, od, kV, doc, pm, an, cdv, ct, osl, rfl, lk, hcd⟩ := F.ex
  constructor
  · exact len
  · intro A outer s H args us vs Q E hg hr e0 hb r hsp
    have big : ∀ b o, base.get? b = some o → s.heap.get? b = some o := fun b o e => (e0.bs b o e).1
    have KX : K.In s.heap := e0.mod.kin.keeps big
    have kinds : ∀ y ∈ ps.zip us, (defScope st).names.lookup y.1 = some .local ∨
        ((defScope st).names.lookup y.1 = some .cell ∧ ((cellsFrom (s.heap.objs.size + 1) (defScope st).names []).lookup y.1).isSome = true) := by
      rintro ⟨n, v⟩ hy
      refine (S.par n (List.of_mem_zip hy).1).imp id fun q => ?_
      exact ⟨q, PySem.W.cellsFrom_some _ _ _ (.inl q)⟩
    refine codeAny_call_function hr.depth (KX _ _ lk) rfl S.co S.gen rfl (PySem.W.codeRec_of KX hcd) (hb _ _ _ _ ?_)
    refine wpAny_newFunctionEnv_cells S.kind kinds fun env he s1 xc => ?_
    cases he
    refine ⟨(e0.mod.nolimit.keeps big).keeps xc.toInCall.keep, codeAny_func ?_⟩
    obtain ⟨t, ht, hq⟩ := hbody cdv A outer s H vs Q E hg (hr.deeper _) hsp
    have I0 := inv_start (CX := CX0) (E := E) (cd := cdv) (f := f) (qual := qual) S hr.hd e0 (len _ _ _ _ hsp) r xc
    refine wpAny_mono (ht.nox.run [] s1 (start N vs) H _ I0 hq) ?_ (fun _ _ z => z)
    intro fl s2 z
    cases fl with
    | ret u => obtain ⟨v, σ2, H2, J, rv, q⟩ := z; exact ⟨v, H2, J.os, J.bare, J.base, J.hok, rv, q⟩
    | next => obtain ⟨σ2, H2, J, q⟩ := z; exact ⟨.non, H2, J.os, J.bare, J.base, J.hok, rfl, q⟩
    | brk => obtain ⟨_, _, _, q⟩ := z; exact q.elim
    | cont => obtain ⟨_, _, _, q⟩ := z; exact q.elim

section
variable {X : Cx} {CX : CXT} {k : Nat} {f : Addr} {fd : FuncData} {ps : List Str} {sp : Sp} {dvs : List V} {ds : List Value} {E : XK} {x : Str} {p pos : Pos} {e : Expr} {es : List Expr} {t : TA}
theorem run_fnG {pins : List (Addr × Obj)} {σ : L2.St} {H : Hp} {s : Shared} {Q : VK} {us : List Value} {vs : List V} (F : FnG X.prog X.w X.K X.mg X.base CX k f fd ps sp) (hgu : X.A.guards = some []) (hr : Room k X.A)
    (hb : Binds X.K fd ps ds) (hd : Vals dvs ds) (hx : Passes CX X E) (I : Inv X pins σ H s) (r : Vals vs us) (h : sp (vs ++ dvs) H Q E) :
    wpAny (model X.prog X.w) X.A (call (.ref f) us) (EP X pins σ Q) X.xe s := by
  have both : Vals (vs ++ dvs) (us ++ ds) := r.append hd
  have lens : (us ++ ds).length = ps.length := both.length.symm.trans (F.len _ _ _ _ h)
  refine wpAny_call (codeAny_mono (F.run X.A X.stack s H ⟨us, []⟩ (us ++ ds) (vs ++ dvs) Q E hgu hr I.env0 (hb s us I.kIn lens) both h) ?_)
  intro res s2 z
  match res, z with
  | .error er, z => exact hx pins σ H s er s2 I z
  | .ok (.ret u), z => exact I.after z
theorem pe_callG (F : FnG X.prog X.w X.K X.mg X.base CX k f fd ps sp) (hgu : X.A.guards = some []) (hr : Room k X.A) (hg : Gl X x) (hm : X.mg x = some (.ref f)) (hk : PySem.W.keepIn X.K (.ref f) = true)
    (hb : Binds X.K fd ps ds) (hd : Vals dvs ds) (hx : Passes CX X E) (ha : PA X (e :: es) t) (hdb : (x == ("__debug__" : Str)) = false := by decide)
    (he : starEach (e :: es) X.env = (false, eval e X.env) :: starEach es X.env := by rfl) (hpl : (backTo pos (starEach es X.env)).any (·.1) = false := by rfl) :
    PE X (.Call (.Name x p) (e :: es) [] pos) (tCall sp dvs E t) := by
  constructor
  intro pins s σ H Q I h
  refine wpAny_Call_Name_kw (ld_glob I hg hm ?_ hdb)
  refine PySem.W.callWith_K (h₀ := X.base) I.ok.mod.kin hk (thn (ha.run pos pins s σ H _ I h) ?_) he hpl
  rintro us s1 ⟨vs, H1, I1, r, q⟩
  exact ⟨I1.kIn, run_fnG F hgu hr hb hd hx I1 r q⟩
end

/-! ### the law's own call: no repr is under way there -/
section
variable {P : Program} {w : World} {K : PySem.W.Frag} {mg mb : Str → Option Value} {k : Nat} {fa a : Addr} {fd : FuncData} {x : Str} {sp : Sp} {s1 : Shared} {vs : List Value} {ns : List Int}
/-- over an abstract heap that tracks at most the script -/
theorem law_coreG (KX : K.In s1.heap) (hns : s1.heap.Ns mainGlobals mg) (hb : s1.heap.Ns builtinsNs mb) (hbb : ∀ x : Str, x ≠ "__name__" → mb x = bootBuiltins x) (hlim : s1.heap.NoLimit) (hge : s1.gens = #[])
    (ha : s1.heap.get? a = some { cls := .type "list", data := .seq vs.toArray }) (hr : Room k callerA)
    (F : ∀ base : Heap, K.In base → base.Ns mainGlobals mg → FnG P w K mg base CX0 k fa fd [x] sp) (hbind : ∀ (s : Shared) (u : Value), BindsTo s fd ⟨[u], []⟩ [(x, u)])
    (H : Hp) (only : Only H) (hsp : sp [.ref a] H (fun v _ => v = .bl true) fun _ _ _ => False)
    (hok : HOk P w H s1.heap) (at1 : ∀ b, H b ≠ none → b = a) (off : H a ≠ none → K.lookup a = none) :
    codeAny (model P w) callerA (.call (.ref fa) ⟨[.ref a], []⟩) (fun r s' => r = .ok (.ret (.bool true)) ∧ OldK s1.heap s'.heap ∧ s'.os = s1.os ∧ AllBare s'.gens) s1 := by
  have free : ∀ {b : Addr}, b ≠ a → H b = none := fun {b} h => Classical.byContradiction fun z => h (at1 b z)
  have hid : ∀ {b : Addr} {o : Obj}, s1.heap.get? b = some o → H b = none → (hidT s1.heap H).get? b = some o := fun e n => hidT_get e n
  have dictFree : ∀ {b : Addr} {o : Obj} {es : Array DictEntry} {ep : Nat}, s1.heap.get? b = some o → o.data = .dict es ep → H b = none := by
    intro b o es ep e d
    by_cases hb' : b = a
    · subst hb'
      rw [ha] at e
      cases e
      exact nomatch (show Data.seq vs.toArray _ = Data.dict es ep from d)
    · exact free hb'
  have nsOf : ∀ {b : Addr} {m : Str → Option Value}, s1.heap.Ns b m → (hidT s1.heap H).Ns b m := by
    rintro b m ⟨o, es, ep, e, d, r⟩
    exact ⟨o, es, ep, hid e (dictFree e d), d, r⟩
  have kin : K.In (hidT s1.heap H) := by
    intro b o e
    refine hid (KX b o e) (Classical.byContradiction fun z => ?_)
    have := at1 b z
    subst this
    rw [off z] at e
    cases e
  obtain ⟨mc, l1, l2⟩ := hlim
  have modOk : Mod K mg (hidT s1.heap H) := ⟨kin, nsOf hns, ⟨mb, nsOf hb, hbb⟩, ⟨mc, nsOf l1, l2⟩⟩
  have env : Env0 P w K mg (hidT s1.heap H) callerA [] s1 H :=
    ⟨rfl, modOk, fun b o e => of_hidT e, Nat.le_of_eq (hidT_size _ _), trivial, (fun b hb => nomatch (show b ∈ ([] : List Addr) from hb)), hok, .of_eq hge⟩
  refine codeAny_mono ((F _ kin (nsOf hns)).run callerA [] s1 H ⟨[.ref a], []⟩ [.ref a] [.ref a] _ _ rfl hr env (hbind s1 (.ref a)) (.cons rfl .nil) hsp) ?_
  intro res s2 z
  match res, z with
  | .error er, z => exact z.elim
  | .ok (.ret u), z =>
    obtain ⟨v, H2, os, bare, un, hok2, rv, q⟩ := z
    cases (show v = .bl true from q)
    cases (show u = Value.bool true from rv)
    refine ⟨rfl, OldK.of_keep fun b o e => ?_, os, bare⟩
    rcases only b with n | ⟨ob, xs, fz⟩
    · exact un.keep b o e n (fun z => nomatch (show b ∈ ([] : List Addr) from z)) (fun z => nomatch z)
    · obtain ⟨g1, _⟩ := hok b _ fz
      obtain ⟨g2, _⟩ := hok2 b _ (un.frzs b ob _ fz)
      rw [e] at g1
      cases g1
      exact g2
theorem law_callG (KX : K.In s1.heap) (hns : s1.heap.Ns mainGlobals mg) (hb : s1.heap.Ns builtinsNs mb) (hbb : ∀ x : Str, x ≠ "__name__" → mb x = bootBuiltins x) (hlim : s1.heap.NoLimit) (hge : s1.gens = #[])
    (ha : s1.heap.get? a = some { cls := .type "list", data := .seq vs.toArray }) (hi : IntsAre vs ns) (hl : ns.length ≤ sizeLine) (hr : Room k callerA)
    (F : ∀ base : Heap, K.In base → base.Ns mainGlobals mg → FnG P w K mg base CX0 k fa fd [x] sp) (hbind : ∀ (s : Shared) (u : Value), BindsTo s fd ⟨[u], []⟩ [(x, u)])
    (hsp : ∀ H : Hp, Only H → SqL K H a (ns.map V.int) → sp [.ref a] H (fun v _ => v = .bl true) fun _ _ _ => False) :
    codeAny (model P w) callerA (.call (.ref fa) ⟨[.ref a], []⟩) (fun r s' => r = .ok (.ret (.bool true)) ∧ OldK s1.heap s'.heap ∧ s'.os = s1.os ∧ AllBare s'.gens) s1 := by
  have rv := vals_ints hi
  have ll := hi.length
  cases hk : K.lookup a with
  | some o =>
    have e := KX a o hk
    rw [ha] at e
    cases e
    have only : Only (fun _ => none) := fun _ => .inl rfl
    refine law_coreG KX hns hb hbb hlim hge ha hr F hbind (fun _ => none) only (hsp _ only (.inr ?_)) ?_ (fun b z => absurd rfl z) (fun z => absurd rfl z)
    · refine ⟨_, vs.toArray, _, hk, rfl, rfl, rfl, ?_, by simpa using rv⟩
      rw [List.size_toArray, ll]
      exact hl
    · intro b u z
      exact nomatch (show (none : Option HO) = some u from z)
  | none =>
    let ob : Obj := { cls := .type "list", data := .seq vs.toArray }
    let H0 : Hp := fun b => if b = a then some (.frz ob (.lst (ns.map V.int))) else none
    have H0a : H0 a = some (.frz ob (.lst (ns.map V.int))) := if_pos rfl
    have H0n : ∀ {b : Addr}, b ≠ a → H0 b = none := fun h => if_neg h
    have only : Only H0 := by
      intro b
      by_cases h : b = a
      · subst h
        exact .inr ⟨ob, _, H0a⟩
      · exact .inl (H0n h)
    refine law_coreG KX hns hb hbb hlim hge ha hr F hbind H0 only (hsp _ only (.inl (.inr ⟨ob, H0a⟩))) ?_ ?_ (fun _ => hk)
    · intro b u z
      by_cases h : b = a
      · subst h
        rw [H0a] at z
        cases z
        exact ⟨ha, by rw [List.length_map]; exact hl, vs, _, rv, ha⟩
      · rw [H0n h] at z
        cases z
    · intro b z
      exact Classical.byContradiction fun h => z (H0n h)
end
/-- the goal that k_head leaves, from the promise of the law's def -/
theorem walk_ofG {l : PySem.W.OpenLaw} {n k : Nat} {q : Program} {loose : List Str} {XP : (Str → Option Value) → Heap → Prop} {YP : World → Heap → Prop} {d : DefRec} {K : Params → PySem.W.Frag} {sp : PySem.W.Frag → Sp} {x : Str}
    (hn : l.most = some n) (hn2 : n ≤ sizeLine) (hdf : d.params.defaults = []) (hr : Room k callerA)
    (hY : ∀ (w : World) (h : Heap), YP w h → (K w.params).In h)
    (F : ∀ (w : World) (mg : Str → Option Value) (fa : Addr) (h : Heap), (K w.params).In h → h.Ns mainGlobals mg → mg d.name = some (.ref fa) →
      ∃ fd : FuncData, (∀ (s : Shared) (u : Value), BindsTo s fd ⟨[u], []⟩ [(x, u)]) ∧
        ∀ base : Heap, (K w.params).In base → base.Ns mainGlobals mg → FnG l.prog w (K w.params) mg base CX0 k fa fd [x] (sp (K w.params)))
    (hsp : ∀ (K : PySem.W.Frag) (H : Hp) (a : Addr) (ns : List Int), ns.length ≤ n → Only H → SqL K H a (ns.map V.int) → sp K [.ref a] H (fun v _ => v = .bl true) fun _ _ _ => False) :
    PySem.W.WalkO q loose XP YP l.row.toRowW d [] (fun f vs => PySem.call f vs) := by
  refine Att.attach_call hn hdf ?_
  intro w s0 s1 mg mb fa o pm cd doc a vs ns G Y _ _ _ hmg hobj hints hlen hge
  obtain ⟨fd, hb, hF⟩ := F w mg fa _ (hY w _ Y) G.T.g hmg
  exact law_callG (hY w _ Y) G.T.g G.T.b G.T.builtins G.T.nolimit hge hobj hints (Nat.le_trans hlen hn2) hr hF hb fun H hO hS => hsp _ H a ns hlen hO hS
end Fc

set_option Elab.async false
set_option linter.all false
set_option maxRecDepth 100000
set_option maxHeartbeats 4000000
namespace Fc
open PySem L2 PySem.Spec PyProof.Rows
section
variable {X : Cx} {CX : CXT} {k : Nat} {f C : Addr} {fd : FuncData} {ps : List Str} {sp : Sp} {E : XK}
/-- a def's run, deeper in a built-in -/
theorem run_fnA {A : Around} {pins : List (Addr × Obj)} {σ : L2.St} {H : Hp} {s : Shared} {Q : VK} {us : List Value} {vs : List V} (hfr : A.frames = X.A.frames) (F : FnOk X.prog X.w X.K X.mg X.base CX k f fd ps sp) (hr : Room k A)
    (hb : Binds X.K fd ps []) (hx : Passes CX X E) (I : Inv X pins σ H s) (r : Vals vs us) (h : sp vs H Q E) :
    wpAny (model X.prog X.w) A (call (.ref f) us) (EP X pins σ Q) X.xe s := by
  have e := I.env0
  have e0 : Env0 X.prog X.w X.K X.mg X.base A X.stack s H := ⟨hfr.trans e.frames, e.mod, e.bs, e.bsz, e.funs, e.frf, e.hok, e.bare⟩
  have lens : (us ++ ([] : List Value)).length = ps.length := by
    rw [List.append_nil, ← r.length]
    exact F.len _ _ _ _ h
  have bd := hb s us I.kIn lens
  rw [List.append_nil] at bd
  refine wpAny_call (codeAny_mono (F.run A X.stack s H ⟨us, []⟩ us vs Q E hr e0 bd r h) ?_)
  intro res s2 z
  match res, z with
  | .error er, z => exact hx pins σ H s er s2 I z
  | .ok (.ret u), z => exact I.after z
/-- len(o), o of a class with its own __len__ -/
def rLenO (C : Addr) (sp : Sp) (E : XK) : List V → Hp → VK → Prop := fun xs H Q => ∃ (x dx : Addr) (fs : List (Str × V)), xs = [.ref x] ∧ H x = some (.ins C dx fs) ∧
  sp [.ref x] H (fun v H' => ∃ n : Int, v = .int n ∧ 0 ≤ n ∧ n < 2 ^ 63 ∧ Q (.int n) H') E
theorem call_lenO (hs : PySem.W.findIn X.K (.ref C) "__len__" = some (some (.ref f))) (hf : PySem.W.isFn X.K (.ref f) = true) (F : FnOk X.prog X.w X.K X.mg X.base CX k f fd ps sp) (hr : Room (k + 1) X.A)
    (hb : Binds X.K fd ps []) (hx : Passes CX X E) : CallR X (.builtin "len") (rLenO C sp E) := by
  intro pins s σ H xs us Q I r h
  obtain ⟨x, dx, fs, rfl, ex, q⟩ := h
  cases r with
  | cons r1 r2 =>
    cases r2
    cases r1
    obtain ⟨mA, O, _⟩ := ins_get I.hok ex
    obtain ⟨od, J, _⟩ := O.look
    obtain ⟨m, hF⟩ := I.fr
    refine PySem.W.len_K hF I.ok.mod.kin J hs hf (wpAny_mono (run_fnA (A := X.A.in1) (vs := [.ref x]) rfl F hr.in1 hb hx I (.cons rfl .nil) q) ?_ (fun _ _ z => z))
    rintro v s2 ⟨v', H2, I2, rv, n, rfl, n0, n1, q2⟩
    obtain ⟨t, rfl⟩ := rv
    exact ⟨⟨n0, n1⟩, .int n, H2, I2.tok _, ⟨_, rfl⟩, q2⟩
end
end Fc

set_option Elab.async false
set_option linter.all false
set_option maxRecDepth 100000
set_option maxHeartbeats 4000000
namespace Fc
open PySem L2
/-! ### the text by places -/
def top (i : Nat) : Stmt := PySem.Challenge.pw_farcalls_k29_whole_rows_handed_on.main.body.getD i (.Pass ⟨0, 0, 0, 0⟩)
abbrev s_NoLetter_init : Stmt := inClass (top 2) 0
abbrev N_NoLetter_init : List Str := ["self", "asked"]
theorem sc_NoLetter_init : FnScope N_NoLetter_init ["self", "asked"] (defScope s_NoLetter_init) := ⟨rfl, rfl, rfl, by decide +kernel, rfl, by decide +kernel, by decide +kernel⟩
abbrev s_is_whole : Stmt := top 4
abbrev N_is_whole : List Str := ["thing"]
theorem sc_is_whole : FnScope N_is_whole ["thing"] (defScope s_is_whole) := ⟨rfl, rfl, rfl, by decide +kernel, rfl, by decide +kernel, by decide +kernel⟩
abbrev s_is_count : Stmt := top 7
abbrev N_is_count : List Str := ["thing"]
theorem sc_is_count : FnScope N_is_count ["thing"] (defScope s_is_count) := ⟨rfl, rfl, rfl, by decide +kernel, rfl, by decide +kernel, by decide +kernel⟩
abbrev s_is_letter : Stmt := top 8
abbrev N_is_letter : List Str := ["thing", "word", "first", "rows", "heard", "row"]
theorem sc_is_letter : FnScope N_is_letter ["thing"] (defScope s_is_letter) := ⟨rfl, rfl, rfl, by decide +kernel, rfl, by decide +kernel, by decide +kernel⟩
abbrev s_Wire_init : Stmt := inClass (top 9) 0
abbrev N_Wire_init : List Str := ["self"]
theorem sc_Wire_init : FnScope N_Wire_init ["self"] (defScope s_Wire_init) := ⟨rfl, rfl, rfl, by decide +kernel, rfl, by decide +kernel, by decide +kernel⟩
abbrev s_Wire_eq : Stmt := inClass (top 9) 1
abbrev N_Wire_eq : List Str := ["self", "other"]
theorem sc_Wire_eq : FnScope N_Wire_eq ["self", "other"] (defScope s_Wire_eq) := ⟨rfl, rfl, rfl, by decide +kernel, rfl, by decide +kernel, by decide +kernel⟩
abbrev s_Wire_len : Stmt := inClass (top 9) 2
abbrev N_Wire_len : List Str := ["self"]
theorem sc_Wire_len : FnScope N_Wire_len ["self"] (defScope s_Wire_len) := ⟨rfl, rfl, rfl, by decide +kernel, rfl, by decide +kernel, by decide +kernel⟩
abbrev s_Wire_put : Stmt := inClass (top 9) 3
abbrev N_Wire_put : List Str := ["self", "row"]
theorem sc_Wire_put : FnScope N_Wire_put ["self", "row"] (defScope s_Wire_put) := ⟨rfl, rfl, rfl, by decide +kernel, rfl, by decide +kernel, by decide +kernel⟩
abbrev s_Wire_letter : Stmt := inClass (top 9) 4
abbrev N_Wire_letter : List Str := ["self"]
theorem sc_Wire_letter : FnScope N_Wire_letter ["self"] (defScope s_Wire_letter) := ⟨rfl, rfl, rfl, by decide +kernel, rfl, by decide +kernel, by decide +kernel⟩
abbrev s_Wire_take : Stmt := inClass (top 9) 5
abbrev N_Wire_take : List Str := ["self", "letter", "word", "first", "rows", "heard", "found"]
theorem sc_Wire_take : FnScope N_Wire_take ["self", "letter"] (defScope s_Wire_take) := ⟨rfl, rfl, rfl, by decide +kernel, rfl, by decide +kernel, by decide +kernel⟩
abbrev s_Wire_heard : Stmt := inClass (top 9) 7
abbrev N_Wire_heard : List Str := ["self"]
theorem sc_Wire_heard : FnScope N_Wire_heard ["self"] (defScope s_Wire_heard) := ⟨rfl, rfl, rfl, by decide +kernel, rfl, by decide +kernel, by decide +kernel⟩
abbrev s_l_pen : Stmt := top 11
abbrev N_l_pen : List Str := ["_law_script"]
theorem sc_l_pen : FnScope N_l_pen ["_law_script"] (defScope s_l_pen) := ⟨rfl, rfl, rfl, by decide +kernel, rfl, by decide +kernel, by decide +kernel⟩
abbrev s_l_draw : Stmt := top 12
abbrev N_l_draw : List Str := ["_law_pen_here", "_law_many", "_law_digit", "_law_at", "_law_cell", "_law_number"]
theorem sc_l_draw : FnScope N_l_draw ["_law_pen_here", "_law_many"] (defScope s_l_draw) := ⟨rfl, rfl, rfl, by decide +kernel, rfl, by decide +kernel, by decide +kernel⟩
abbrev s_l_pick : Stmt := top 13
abbrev N_l_pick : List Str := ["_law_pen_here", "_law_some"]
theorem sc_l_pick : FnScope N_l_pick ["_law_pen_here", "_law_some"] (defScope s_l_pick) := ⟨rfl, rfl, rfl, by decide +kernel, rfl, by decide +kernel, by decide +kernel⟩
abbrev s_l_plain : Stmt := top 14
abbrev N_l_plain : List Str := ["_law_pen_here", "_law_some"]
theorem sc_l_plain : FnScope N_l_plain ["_law_pen_here"] (defScope s_l_plain) := ⟨rfl, rfl, rfl, by decide +kernel, rfl, by decide +kernel, by decide +kernel⟩
abbrev s_l_row_of : Stmt := top 15
abbrev N_l_row_of : List Str := ["_law_pen_here", "_law_k"]
theorem sc_l_row_of : FnScope N_l_row_of ["_law_pen_here"] (defScope s_l_row_of) := ⟨rfl, rfl, rfl, by decide +kernel, rfl, by decide +kernel, by decide +kernel⟩
abbrev s_l_brought_on : Stmt := top 16
abbrev N_l_brought_on : List Str := ["_law_pairs", "_law_came", "_law_k", "_law_side", "_law_letter", "_law_found", "_law_row"]
theorem sc_l_brought_on : FnScope N_l_brought_on ["_law_pairs", "_law_came", "_law_k", "_law_side", "_law_letter"] (defScope s_l_brought_on) := ⟨rfl, rfl, rfl, by decide +kernel, rfl, by decide +kernel, by decide +kernel⟩
abbrev s_law : Stmt := top 17
abbrev N_law : List Str := ["_law_script", "_law_pen_here", "_law_bout", "_law_pairs", "_law_k", "_law_head", "_law_came", "_law_net", "_law_pair", "_law_turn", "_law_lot", "_law_side", "_law_at", "_law_there", "_law_letter", "_law_wrong", "_law_one"]
theorem sc_law : FnScope N_law ["_law_script"] (defScope s_law) := ⟨rfl, rfl, rfl, by decide +kernel, rfl, by decide +kernel, by decide +kernel⟩
end Fc

set_option Elab.async false
set_option linter.all false
set_option maxRecDepth 100000
set_option maxHeartbeats 4000000
namespace Fc
open PySem L2
/-! ### a def as the top has left it; the built-ins that are the built-ins -/
structure De (K : PySem.W.Frag) (mg : Str → Option Value) (x : Str) (st : Stmt) (ps : List Str) (f : Addr) (fd : FuncData) : Prop where
  F : Fun K x x st f fd
  b : Binds K fd ps []
  g : mg x = some (.ref f)
structure Bl (mg : Str → Option Value) : Prop where
  b_len : mg "len" = none
  b_isinstance : mg "isinstance" = none
  b_int : mg "int" = none
  b_bool : mg "bool" = none
  b_str : mg "str" = none
  b_list : mg "list" = none
  b_tuple : mg "tuple" = none
  b_range : mg "range" = none
  b_abs : mg "abs" = none
  b_min : mg "min" = none
  b_max : mg "max" = none
  b_all : mg "all" = none
  b_repr : mg "repr" = none
  b_dict : mg "dict" = none

/-! ### the pen -/
abbrev kS (x : Str) : Key := Sum.inr x
def penKv (c : Addr) (a l : Int) : List (Key × V) := [(kS "cells", .ref c), (kS "at", .int a), (kS "left", .int l)]
theorem n_ca : ¬ (kS "cells" = kS "at") := by decide +kernel
theorem n_cl : ¬ (kS "cells" = kS "left") := by decide +kernel
theorem n_al : ¬ (kS "at" = kS "left") := by decide +kernel
theorem pen_cells {c : Addr} {a l : Int} : valV (penKv c a l) (kS "cells") = some (.ref c) := valV_pos rfl
theorem pen_at {c : Addr} {a l : Int} : valV (penKv c a l) (kS "at") = some (.int a) := by
  unfold penKv
  rw [valV_neg n_ca, valV_pos rfl]
theorem pen_left {c : Addr} {a l : Int} : valV (penKv c a l) (kS "left") = some (.int l) := by
  unfold penKv
  rw [valV_neg n_cl, valV_neg n_al, valV_pos rfl]
theorem putK_old {κ : Type} [DecidableEq κ] {kvs : List (κ × V)} {k : κ} {v : V} (h : (valV kvs k).isSome = true) : putK kvs k v = kvs.map fun kv => if kv.1 = k then (kv.1, v) else kv := by
  unfold putK
  rw [valV_any, if_pos h]
theorem pen_setAt {c : Addr} {a l z : Int} : putK (penKv c a l) (kS "at") (.int z) = penKv c z l := by
  rw [putK_old (by rw [pen_at]; rfl)]
  unfold penKv
  rw [List.map_cons, List.map_cons, List.map_cons, List.map_nil, if_neg n_ca, if_pos rfl, if_neg (fun e => n_al e.symm)]
theorem pen_setLeft {c : Addr} {a l z : Int} : putK (penKv c a l) (kS "left") (.int z) = penKv c a z := by
  rw [putK_old (by rw [pen_left]; rfl)]
  unfold penKv
  rw [List.map_cons, List.map_cons, List.map_cons, List.map_nil, if_neg n_cl, if_neg n_al, if_pos rfl]
/-- what stands at a pen -/
structure Pen where
  c : Addr
  a : Int
  l : Int
  ns : List Int
def Pen.os (z : Pen) (p : Addr) : List (Addr × HO) := [(p, .dK (penKv z.c z.a z.l)), (z.c, .lst (z.ns.map V.int))]
structure Pen.Ok (z : Pen) (m : Nat) : Prop where
  a0 : 0 ≤ z.a
  am : z.a ≤ m
  l0 : 0 ≤ z.l
theorem Pen.Ok.mono {z : Pen} {m n : Nat} (h : z.Ok m) (hn : m ≤ n) : z.Ok n := ⟨h.a0, by have := h.am; omega, h.l0⟩
/-- at most so many draws are begun in all -/
abbrev lim : Nat := 2 ^ 40

def spPen (K : PySem.W.Frag) : Sp := fun vs H Q _ => ∃ (a : Addr) (ns : List Int) (R : List (Addr × HO)), vs = [.ref a] ∧ SqL K H a (ns.map V.int) ∧ Has H R ∧
  ∀ (p : Addr) (z : Pen) (H' : Hp), Has H' (z.os p ++ R) → z.Ok 0 → Tk H H' → Q (.ref p) H'
def spDraw : Sp := fun vs H Q _ => ∃ (p : Addr) (n : Int) (z : Pen) (m : Nat) (R : List (Addr × HO)), vs = [.ref p, .int n] ∧ 0 < n ∧ n < 1073741824 ∧ Has H (z.os p ++ R) ∧ z.Ok m ∧ m < lim ∧
  ∀ (d : Int) (z' : Pen) (H' : Hp), 0 ≤ d → d < n → Has H' (z'.os p ++ R) → z'.Ok (m + 1) → Tk H H' → Q (.int d) H'

section
variable {P : Program} {w : World} {K : PySem.W.Frag} {mg : Str → Option Value} {base : Heap}

theorem eqv_ints_nil (ns : List Int) : PyData.eqv (.list (ns.map .int)) (.list []) = ns.isEmpty := by
  cases ns <;> rfl
theorem dpAll_ints {K : PySem.W.Frag} {H : Hp} : ∀ ns : List Int, DpAll K H (ns.map V.int) (ns.map PyData.int)
  | [] => .nil
  | n :: ns => .cons (.int n) (dpAll_ints ns)
theorem gd_ints : ∀ ns : List Int, PyData.canLayAll0 (ns.map PyData.int) = true ∧ PyData.depthAll (ns.map PyData.int) = 0
  | [] => ⟨rfl, rfl⟩
  | n :: ns => by
    obtain ⟨h1, h2⟩ := gd_ints ns
    refine ⟨?_, ?_⟩
    · rw [List.map_cons]
      simp only [PyData.canLayAll0, PyData.canLay0, h1, Bool.and_self]
    · rw [List.map_cons]
      simp only [PyData.depthAll, PyData.depth, h2]
      rfl
theorem shaped_ints (ns : List Int) : SeqAt.shaped (.list (ns.map PyData.int)) = true := by
  obtain ⟨h1, h2⟩ := gd_ints ns
  unfold SeqAt.shaped
  simp only [PyData.canLay0, PyData.depth, h1, h2]
  rfl

theorem cmul_fmod {x b j : Int} (h0 : 0 < b) (h1 : b < 2 ^ 64) : CMul (x.fmod b) j := by
  have h2 := Int.fmod_nonneg_of_pos x h0
  have h3 := Int.fmod_lt_of_pos x h0
  exact .inl ⟨by omega, by omega⟩

theorem ok_l_draw {f : Addr} {fd : FuncData} (D : De K mg "_law_draw" s_l_draw ["_law_pen_here", "_law_many"] f fd) (B : Bl mg) : FnOk P w K mg base CX0 1 f fd ["_law_pen_here", "_law_many"] spDraw := by
  refine D.F.ok sc_l_draw (fun vs H Q E h => ?_) (fun cdv A outer s H vs Q E hr h => ?_)
  · obtain ⟨p, n, z, m, R, rfl, _⟩ := h
    rfl
  · obtain ⟨p, n, z, m, R, rfl, n0, n1, hh, zo, hm, k⟩ := h
    have hu := hu_of hr
    refine ⟨_, (pss_cons (ps_if (pt_cmpR op_gt (pe_dget hu (pv 0) pe_str (fun _ _ => rfl)) pe_int (nomark _))
        (pss_cons (ps_set (i := 2) sc_l_draw.nd rfl (Or.inl rfl) (pe_op op_modN (pe_dget hu (pv 0) pe_str (fun _ _ => rfl)) (pv 1)))
        (pss_cons (ps_dput hu (pv 0) pe_str (pe_op op_fdivN (pe_dget hu (pv 0) pe_str (fun _ _ => rfl)) (pv 1)) rfl)
        (pss_one (ps_ret (pv 2)))))
        pss_nil)
      (pss_cons (ps_set (i := 3) sc_l_draw.nd rfl (Or.inl rfl) (pe_dget hu (pv 0) pe_str (fun _ _ => rfl)))
      (pss_cons (ps_dput hu (pv 0) pe_str (pe_op op_add (pv 3) pe_int) rfl)
      (pss_cons (ps_set (i := 4) sc_l_draw.nd rfl (Or.inl rfl) pe_int)
      (pss_cons (ps_if (pt_cmpR (op_neE (K := K) rfl hr.units) (pe_dget hu (pv 0) pe_str (fun _ _ => rfl)) (pe_lst pa_nil) (nomark _))
        (pss_one (ps_set (i := 4) sc_l_draw.nd rfl (Or.inl rfl) (pe_ix (ix_listE (K := K) rfl) (pe_dget hu (pv 0) pe_str (fun _ _ => rfl)) (pe_op op_modN (pv 3) (pe_callB (call_lenE (K := K) rfl) (by rfl) B.b_len (by decide +kernel) (pa_cons (pe_dget hu (pv 0) pe_str (fun _ _ => rfl)) pa_nil))) (fun _ _ => rfl))))
        pss_nil)
      (pss_cons (ps_if (PW.pt (pw_and (pt_cmpR op_lt (pv 3) (pe_callB (call_lenE (K := K) rfl) (by rfl) B.b_len (by decide +kernel) (pa_cons (pe_dget hu (pv 0) pe_str (fun _ _ => rfl)) pa_nil)) (nomark _)) (pw_and1 (pt_cmpR op_ge (pe_callB call_abs (by rfl) B.b_abs (by decide +kernel) (pa_cons (pv 4) pa_nil)) (pe_op op_pow pe_int pe_int) (nomark _)))))
        (pss_cons (ps_dput hu (pv 0) pe_str (pe_op op_fdivN (pe_op op_sub (pe_callB call_abs (by rfl) B.b_abs (by decide +kernel) (pa_cons (pv 4) pa_nil)) (pe_op op_pow pe_int pe_int)) (pv 1)) rfl)
        (pss_one (ps_ret (pe_op op_modN (pe_op op_sub (pe_callB call_abs (by rfl) B.b_abs (by decide +kernel) (pa_cons (pv 4) pa_nil)) (pe_op op_pow pe_int pe_int)) (pv 1)))))
        pss_nil)
      (pss_cons (ps_set (i := 5) sc_l_draw.nd rfl (Or.inl rfl) (pe_op op_add (pe_op op_add (pe_op op_add (pe_op op_modN (pv 4) pe_int) (pe_op op_mul (pe_op op_mul pe_int (pv 3)) (pv 3))) (pe_op op_mul pe_int (pv 3))) pe_int))
      (pss_cons (ps_set (i := 5) sc_l_draw.nd rfl (Or.inl rfl) (pe_op op_modN (pe_op op_mul (pv 5) pe_int) pe_int))
      (pss_cons (ps_set (i := 5) sc_l_draw.nd rfl (Or.inl rfl) (pe_op op_modN (pe_op op_add (pe_op op_add (pe_op op_mul (pv 5) (pv 5)) (pe_op op_mul pe_int (pv 5))) (pv 3)) pe_int))
      (pss_one (ps_ret (pe_op op_modN (pe_op op_fdivN (pe_op op_modN (pe_op op_mul (pv 5) (pe_op op_add (pv 5) pe_int)) pe_int) pe_int) (pv 1))))))))))))), ?_⟩
    obtain ⟨c, a, l, ns⟩ := z
    obtain ⟨a0, am, l0⟩ := zo
    dsimp only at a0 am l0
    have hp : H p = some (.dK (penKv c a l)) := hh.at 0 rfl
    have hc : H c = some (.lst (ns.map V.int)) := hh.at 1 rfl
    have hm' : m < 1099511627776 := hm
    -- if pen['left'] > 0
    refine ⟨_, rfl, p, _, rfl, pen_left ▸ DGet.k (k := kS "left") hp, _, _, rfl, rfl, _, rfl, ?_⟩
    refine ite2 (fun hl => ?_) (fun hl => ?_)
    · refine ⟨_, rfl, p, _, rfl, pen_left ▸ DGet.k (k := kS "left") hp, _, rfl, _, _, rfl, rfl, (by omega), ?_⟩
      refine ⟨_, rfl, p, _, rfl, pen_left ▸ DGet.k (k := kS "left") hp, _, rfl, _, _, rfl, rfl, ⟨by omega, by omega⟩, _, rfl, p, _, rfl, DPut.k (k := kS "left") hp (by show 3 < sizeLine; decide), ?_⟩
      rw [pen_setLeft]
      have hd0 : 0 ≤ l.fdiv n := Int.fdiv_nonneg l0 (by omega)
      exact ⟨_, rfl, k _ ⟨c, a, l.fdiv n, ns⟩ _ (Int.fmod_nonneg_of_pos _ n0) (Int.fmod_lt_of_pos _ n0) (Has.put (os := (c, _) :: R) hh) ⟨a0, by dsimp only; omega, hd0⟩ (Tk.dK hp)⟩
    · refine ⟨_, rfl, p, _, rfl, pen_at ▸ DGet.k (k := kS "at") hp, ?_⟩
      refine ⟨_, rfl, _, _, rfl, rfl, _, rfl, p, _, rfl, DPut.k (k := kS "at") hp (by show 3 < sizeLine; decide), ?_⟩
      rw [pen_setAt]
      have h1 : Has _ ((p, .dK (penKv c (a + 1) l)) :: (c, .lst (ns.map V.int)) :: R) := Has.put (os := (c, _) :: R) hh
      have k1 : Tk H _ := Tk.dK (u := .dK (penKv c (a + 1) l)) hp
      -- if pen['cells'] != []
      refine ⟨_, rfl, p, _, rfl, pen_cells ▸ DGet.k (k := kS "cells") (h1.at 0 rfl), (by show 0 ≤ sizeLine; decide), fun q hq => ?_⟩
      have h2 := h1.over (o := .lst []) hq
      have h2' := h1.new (o := .lst []) hq
      have k2 : Tk H _ := k1.trans (Tk.new (o := .lst []) hq)
      have hp2 := h2.at 0 rfl
      have hc2 := h2.at 1 rfl
      refine ⟨.list (ns.map .int), .list [], .lst (SqL.of hc2) (dpAll_ints ns), .lst (SqL.of (h2'.at 0 rfl)) .nil, shaped_ints ns, rfl, _, rfl, ?_⟩
      rw [eqv_ints_nil]
      clear hp hc h1 k1 hh h2'
      refine ite2 (fun he => ?_) (fun he => ?_)
      · have hne : 0 < ns.length := by
          cases ns with
          | nil => cases he
          | cons x xs => exact Nat.succ_pos _
        have hb0 := Int.fmod_nonneg_of_pos a (b := (ns.length : Int)) (by omega)
        have hb1 := Int.fmod_lt_of_pos a (b := (ns.length : Int)) (by omega)
        obtain ⟨x, hx⟩ : ∃ x, ns[(a.fmod (ns.length : Int)).toNat]? = some x := ⟨_, List.getElem?_eq_getElem (by omega)⟩
        have hat : atI (ns.map V.int) (a.fmod (ns.length : Int)) = some (.int x) := by
          unfold atI ixN
          rw [List.length_map, if_pos hb0, if_pos hb1]
          show (ns.map V.int)[(a.fmod (ns.length : Int)).toNat]? = some (.int x)
          rw [List.getElem?_map, hx]
          rfl
        refine ⟨_, rfl, p, _, rfl, pen_cells ▸ DGet.k (k := kS "cells") hp2, _, rfl, _, rfl, p, _, rfl, pen_cells ▸ DGet.k (k := kS "cells") hp2, c, _, rfl, .inl (SqL.of hc2), ?_⟩
        rw [List.length_map]
        refine ⟨_, _, rfl, rfl, (by omega), c, _, _, _, rfl, rfl, SqL.of hc2, hat, ?_⟩
        clear hb0 hb1 hx hat
        -- if at < len(pen['cells']) and abs(cell) >= 10 ** 18
        refine ⟨_, rfl, _, rfl, p, _, rfl, pen_cells ▸ DGet.k (k := kS "cells") hp2, c, _, rfl, .inl (SqL.of hc2), ?_⟩
        rw [List.length_map]
        refine ⟨_, _, rfl, rfl, _, rfl, ?_⟩
        refine ite2 (fun h5 => ?_) (fun h5 => ?_)
        · refine ⟨_, rfl, _, rfl, _, _, rfl, rfl, ⟨by decide, by decide, by decide⟩, _, _, rfl, rfl, _, rfl, ?_⟩
          refine ite2 (fun h6 => ?_) (fun h6 => ?_)
          · rw [decide_eq_true_eq] at h6
            refine ⟨_, rfl, _, rfl, _, _, rfl, rfl, ⟨by decide, by decide, by decide⟩, _, _, rfl, rfl, _, rfl, _, _, rfl, rfl, ⟨by omega, by omega⟩, _, rfl, p, _, rfl, DPut.k (k := kS "left") hp2 (by show 3 < sizeLine; decide), ?_⟩
            rw [pen_setLeft]
            refine ⟨_, rfl, _, rfl, _, _, rfl, rfl, ⟨by decide, by decide, by decide⟩, _, _, rfl, rfl, _, rfl, _, _, rfl, rfl, (by omega), ?_⟩
            have hl2 := Int.fdiv_nonneg (Int.sub_nonneg_of_le h6) (Int.le_of_lt n0)
            exact k _ ⟨c, a + 1, _, ns⟩ _ (Int.fmod_nonneg_of_pos _ n0) (Int.fmod_lt_of_pos _ n0) (Has.put (os := (c, _) :: R) h2) ⟨by dsimp only; omega, by dsimp only; omega, hl2⟩ (k2.trans (Tk.dK hp2))
          · refine ⟨_, rfl, _, _, rfl, rfl, (by show (_ : Int) ≠ 0; decide), _, rfl, _, _, rfl, rfl, .inl ⟨by decide, by decide⟩, _, rfl, _, _, rfl, rfl, .inr ⟨by omega, by omega⟩, _, _, rfl, rfl, _, rfl, _, _, rfl, rfl, .inl ⟨by decide, by decide⟩, _, _, rfl, rfl, _, _, rfl, rfl, ?_⟩
            refine ⟨_, rfl, _, _, rfl, rfl, .inr ⟨by decide, by decide⟩, _, _, rfl, rfl, (by show (_ : Int) ≠ 0; decide), ?_⟩
            refine ⟨_, rfl, _, rfl, _, _, rfl, rfl, cmul_fmod (by decide) (by decide), _, rfl, _, _, rfl, rfl, .inl ⟨by decide, by decide⟩, _, _, rfl, rfl, _, rfl, _, _, rfl, rfl, _, _, rfl, rfl, (by show (_ : Int) ≠ 0; decide), ?_⟩
            refine ⟨_, rfl, _, rfl, _, _, rfl, rfl, _, _, rfl, rfl, cmul_fmod (by decide) (by decide), _, _, rfl, rfl, (by show (_ : Int) ≠ 0; decide), _, _, rfl, rfl, ⟨by decide, by decide⟩, _, rfl, _, _, rfl, rfl, (by omega), ?_⟩
            exact k _ ⟨c, a + 1, l, ns⟩ _ (Int.fmod_nonneg_of_pos _ n0) (Int.fmod_lt_of_pos _ n0) h2 ⟨by dsimp only; omega, by dsimp only; omega, l0⟩ k2
        · refine iteF ?_
          refine ⟨_, rfl, _, _, rfl, rfl, (by show (_ : Int) ≠ 0; decide), _, rfl, _, _, rfl, rfl, .inl ⟨by decide, by decide⟩, _, rfl, _, _, rfl, rfl, .inr ⟨by omega, by omega⟩, _, _, rfl, rfl, _, rfl, _, _, rfl, rfl, .inl ⟨by decide, by decide⟩, _, _, rfl, rfl, _, _, rfl, rfl, ?_⟩
          refine ⟨_, rfl, _, _, rfl, rfl, .inr ⟨by decide, by decide⟩, _, _, rfl, rfl, (by show (_ : Int) ≠ 0; decide), ?_⟩
          refine ⟨_, rfl, _, rfl, _, _, rfl, rfl, cmul_fmod (by decide) (by decide), _, rfl, _, _, rfl, rfl, .inl ⟨by decide, by decide⟩, _, _, rfl, rfl, _, rfl, _, _, rfl, rfl, _, _, rfl, rfl, (by show (_ : Int) ≠ 0; decide), ?_⟩
          refine ⟨_, rfl, _, rfl, _, _, rfl, rfl, _, _, rfl, rfl, cmul_fmod (by decide) (by decide), _, _, rfl, rfl, (by show (_ : Int) ≠ 0; decide), _, _, rfl, rfl, ⟨by decide, by decide⟩, _, rfl, _, _, rfl, rfl, (by omega), ?_⟩
          exact k _ ⟨c, a + 1, l, ns⟩ _ (Int.fmod_nonneg_of_pos _ n0) (Int.fmod_lt_of_pos _ n0) h2 ⟨by dsimp only; omega, by dsimp only; omega, l0⟩ k2
      · -- if at < len(pen['cells']) and abs(cell) >= 10 ** 18
        refine ⟨_, rfl, _, rfl, p, _, rfl, pen_cells ▸ DGet.k (k := kS "cells") hp2, c, _, rfl, .inl (SqL.of hc2), ?_⟩
        rw [List.length_map]
        refine ⟨_, _, rfl, rfl, _, rfl, ?_⟩
        refine ite2 (fun h5 => ?_) (fun h5 => ?_)
        · refine ⟨_, rfl, _, rfl, _, _, rfl, rfl, ⟨by decide, by decide, by decide⟩, _, _, rfl, rfl, _, rfl, ?_⟩
          refine ite2 (fun h6 => ?_) (fun h6 => ?_)
          · rw [decide_eq_true_eq] at h6
            refine ⟨_, rfl, _, rfl, _, _, rfl, rfl, ⟨by decide, by decide, by decide⟩, _, _, rfl, rfl, _, rfl, _, _, rfl, rfl, ⟨by omega, by omega⟩, _, rfl, p, _, rfl, DPut.k (k := kS "left") hp2 (by show 3 < sizeLine; decide), ?_⟩
            rw [pen_setLeft]
            refine ⟨_, rfl, _, rfl, _, _, rfl, rfl, ⟨by decide, by decide, by decide⟩, _, _, rfl, rfl, _, rfl, _, _, rfl, rfl, (by omega), ?_⟩
            have hl2 := Int.fdiv_nonneg (Int.sub_nonneg_of_le h6) (Int.le_of_lt n0)
            exact k _ ⟨c, a + 1, _, ns⟩ _ (Int.fmod_nonneg_of_pos _ n0) (Int.fmod_lt_of_pos _ n0) (Has.put (os := (c, _) :: R) h2) ⟨by dsimp only; omega, by dsimp only; omega, hl2⟩ (k2.trans (Tk.dK hp2))
          · refine ⟨_, rfl, _, _, rfl, rfl, (by show (_ : Int) ≠ 0; decide), _, rfl, _, _, rfl, rfl, .inl ⟨by decide, by decide⟩, _, rfl, _, _, rfl, rfl, .inr ⟨by omega, by omega⟩, _, _, rfl, rfl, _, rfl, _, _, rfl, rfl, .inl ⟨by decide, by decide⟩, _, _, rfl, rfl, _, _, rfl, rfl, ?_⟩
            refine ⟨_, rfl, _, _, rfl, rfl, .inr ⟨by decide, by decide⟩, _, _, rfl, rfl, (by show (_ : Int) ≠ 0; decide), ?_⟩
            refine ⟨_, rfl, _, rfl, _, _, rfl, rfl, cmul_fmod (by decide) (by decide), _, rfl, _, _, rfl, rfl, .inl ⟨by decide, by decide⟩, _, _, rfl, rfl, _, rfl, _, _, rfl, rfl, _, _, rfl, rfl, (by show (_ : Int) ≠ 0; decide), ?_⟩
            refine ⟨_, rfl, _, rfl, _, _, rfl, rfl, _, _, rfl, rfl, cmul_fmod (by decide) (by decide), _, _, rfl, rfl, (by show (_ : Int) ≠ 0; decide), _, _, rfl, rfl, ⟨by decide, by decide⟩, _, rfl, _, _, rfl, rfl, (by omega), ?_⟩
            exact k _ ⟨c, a + 1, l, ns⟩ _ (Int.fmod_nonneg_of_pos _ n0) (Int.fmod_lt_of_pos _ n0) h2 ⟨by dsimp only; omega, by dsimp only; omega, l0⟩ k2
        · refine iteF ?_
          refine ⟨_, rfl, _, _, rfl, rfl, (by show (_ : Int) ≠ 0; decide), _, rfl, _, _, rfl, rfl, .inl ⟨by decide, by decide⟩, _, rfl, _, _, rfl, rfl, .inr ⟨by omega, by omega⟩, _, _, rfl, rfl, _, rfl, _, _, rfl, rfl, .inl ⟨by decide, by decide⟩, _, _, rfl, rfl, _, _, rfl, rfl, ?_⟩
          refine ⟨_, rfl, _, _, rfl, rfl, .inr ⟨by decide, by decide⟩, _, _, rfl, rfl, (by show (_ : Int) ≠ 0; decide), ?_⟩
          refine ⟨_, rfl, _, rfl, _, _, rfl, rfl, cmul_fmod (by decide) (by decide), _, rfl, _, _, rfl, rfl, .inl ⟨by decide, by decide⟩, _, _, rfl, rfl, _, rfl, _, _, rfl, rfl, _, _, rfl, rfl, (by show (_ : Int) ≠ 0; decide), ?_⟩
          refine ⟨_, rfl, _, rfl, _, _, rfl, rfl, _, _, rfl, rfl, cmul_fmod (by decide) (by decide), _, _, rfl, rfl, (by show (_ : Int) ≠ 0; decide), _, _, rfl, rfl, ⟨by decide, by decide⟩, _, rfl, _, _, rfl, rfl, (by omega), ?_⟩
          exact k _ ⟨c, a + 1, l, ns⟩ _ (Int.fmod_nonneg_of_pos _ n0) (Int.fmod_lt_of_pos _ n0) h2 ⟨by dsimp only; omega, by dsimp only; omega, l0⟩ k2
end
end Fc

set_option Elab.async false
set_option linter.all false
set_option maxRecDepth 100000
set_option maxHeartbeats 4000000
namespace Fc
open PySem L2
theorem valV_out {kvs : List (Key × V)} {k : Key} (h : k ∉ kvs.map (·.1)) : valV kvs k = none := by
  cases e : valV kvs k with
  | none => rfl
  | some v => exact absurd (valV_in e) h
theorem mergeK_app : ∀ (more acc : List (Key × V)), ((acc ++ more).map (·.1)).Nodup → mergeK acc more = acc ++ more
  | [], acc, _ => by rw [List.append_nil]; rfl
  | (k, v) :: more, acc, h => by
    have hk : k ∉ acc.map (·.1) := by
      intro hm
      rw [List.map_append, List.map_cons] at h
      exact (List.nodup_append.mp h).2.2 k hm k List.mem_cons_self rfl
    show mergeK (putK acc k v) more = acc ++ (k, v) :: more
    rw [putK_new v (valV_out hk), mergeK_app more (acc ++ [(k, v)]) (by rw [List.append_assoc]; exact h), List.append_assoc]
    rfl
theorem mergeK_nd {kvs : List (Key × V)} (h : (kvs.map (·.1)).Nodup) : mergeK [] kvs = kvs := by
  have := mergeK_app kvs [] (by rw [List.nil_append]; exact h)
  rwa [List.nil_append] at this
theorem nd_pen {c : Addr} {a l : Int} : ((penKv c a l).map (·.1)).Nodup := by
  show [kS "cells", kS "at", kS "left"].Nodup
  decide +kernel
theorem atI_mem {xs : List V} {i : Int} (h0 : 0 ≤ i) (h1 : i < (xs.length : Int)) : ∃ v, atI xs i = some v ∧ v ∈ xs := by
  have hl : i.toNat < xs.length := by omega
  refine ⟨xs[i.toNat], ?_, List.getElem_mem hl⟩
  unfold atI ixN
  rw [if_pos h0, if_pos h1]
  show xs[i.toNat]? = _
  exact List.getElem?_eq_getElem hl

/-- a worth without holds; a row -/
def WOk (H : Hp) (v : V) : Prop := ∃ d, Fz H v d ∧ Gd 20 1 d
theorem WOk.keep {H H' : Hp} {v : V} (k : Tk H H') (h : WOk H v) : WOk H' v := let ⟨d, f, g⟩ := h; ⟨d, f.keep k, g⟩
def RowOk (H : Hp) (v : V) : Prop := ∃ (a : Addr) (xs : List V) (ds : List PyData), v = .ref a ∧ H a = some (.tup xs) ∧ FzAll H xs ds ∧ GdAll 80 1 ds
theorem RowOk.keep {H H' : Hp} {v : V} (k : Tk H H') (h : RowOk H v) : RowOk H' v := let ⟨a, xs, ds, e, f, g, q⟩ := h; ⟨a, xs, ds, e, k _ _ f, g.keep k, q⟩
def Rows (H : Hp) (vs : List V) : Prop := ∀ v ∈ vs, RowOk H v
theorem Rows.keep {H H' : Hp} {vs : List V} (k : Tk H H') (h : Rows H vs) : Rows H' vs := fun v hv => (h v hv).keep k
theorem fz_list {H : Hp} : ∀ {vs : List V}, (∀ v ∈ vs, WOk H v) → ∃ ds, FzAll H vs ds ∧ ∀ d ∈ ds, Gd 20 1 d
  | [], _ => ⟨[], .nil, fun d hd => absurd hd List.not_mem_nil⟩
  | v :: vs, h => by
    obtain ⟨d, f, g⟩ := h v List.mem_cons_self
    obtain ⟨ds, fs, gs⟩ := fz_list fun u hu => h u (List.mem_cons_of_mem _ hu)
    refine ⟨d :: ds, .cons f fs, fun e he => ?_⟩
    rcases List.mem_cons.mp he with rfl | he
    · exact g
    · exact gs e he
theorem wok_str {H : Hp} {x : Str} (h : (x.cps.toList.all fun c => decide (c < 16 ^ 8)) = true) (h1 : PyData.canLay0 (.str x) = true) (h2 : x.cps.size ≤ 20) : WOk H (.str x) :=
  ⟨_, .str x, (Gd.str h h1 h2).mono (Nat.le_refl _) (by decide)⟩
theorem wok_int {H : Hp} {i : Int} (h : i.natAbs < 10 ^ 12) : WOk H (.int i) := ⟨_, .int i, (Gd.int h).mono (by decide) (by decide)⟩

def spPick (K : PySem.W.Frag) : Sp := fun vs H Q _ => ∃ (p l : Addr) (xs : List V) (z : Pen) (m : Nat) (R : List (Addr × HO)), vs = [.ref p, .ref l] ∧ 0 < xs.length ∧ xs.length < 1000 ∧ Has H (z.os p ++ (l, .lst xs) :: R) ∧ z.Ok m ∧ m < lim ∧
  ∀ (v : V) (z' : Pen) (H' : Hp), v ∈ xs → Has H' (z'.os p ++ (l, .lst xs) :: R) → z'.Ok (m + 1) → Tk H H' → Q v H'
def spPlain : Sp := fun vs H Q _ => ∃ (p : Addr) (z : Pen) (m : Nat) (R : List (Addr × HO)), vs = [.ref p] ∧ Has H (z.os p ++ R) ∧ z.Ok m ∧ m + 4 < lim ∧
  ∀ (v : V) (z' : Pen) (H' : Hp), WOk H' v → Has H' (z'.os p ++ R) → z'.Ok (m + 4) → Tk H H' → Q v H'
def spRowOf : Sp := fun vs H Q _ => ∃ (p : Addr) (z : Pen) (m : Nat) (R : List (Addr × HO)), vs = [.ref p] ∧ Has H (z.os p ++ R) ∧ z.Ok m ∧ m + 13 < lim ∧
  ∀ (v : V) (z' : Pen) (H' : Hp), (∃ (a : Addr) (xs : List V) (ds : List PyData), v = .ref a ∧ H' a = some (.tup xs) ∧ FzAll H' xs ds ∧ GdAll 63 1 ds ∧ xs.length ≤ 3) → Has H' (z'.os p ++ R) → z'.Ok (m + 13) → Tk H H' → Q v H'

section
variable {P : Program} {w : World} {K : PySem.W.Frag} {mg : Str → Option Value} {base : Heap}
theorem ok_l_pen {f : Addr} {fd : FuncData} (D : De K mg "_law_pen" s_l_pen ["_law_script"] f fd) (B : Bl mg) : FnOk P w K mg base CX0 1 f fd ["_law_script"] (spPen K) := by
  refine D.F.ok sc_l_pen (fun vs H Q E h => ?_) (fun cdv A outer s H vs Q E hr h => ?_)
  · obtain ⟨a, ns, R, rfl, _⟩ := h
    rfl
  · obtain ⟨a, ns, R, rfl, hs, hh, k⟩ := h
    refine ⟨_, (pss_one (ps_ret (pe_disp (pps_cons pe_str (pe_callTy (call_listE (K := K) rfl) (by rfl) B.b_list (by decide +kernel) (pa_cons (pe_slice (sl_listE (K := K) rfl) (pv 0) po_none (po_some pe_int)) pa_nil)) (pps_cons pe_str pe_int (pps_cons pe_str pe_int pps_nil))) (by rfl) (by rfl) (fun z => by cases z) (by decide)))), ?_⟩
    intro d hd
    refine ⟨_, rfl, _, rfl, a, _, rfl, (same_new hd).seq hs, fun q hq => ⟨q, _, rfl, .inl (SqL.of upd_same), fun l hl => ?_⟩⟩
    obtain ⟨ms, hms⟩ : ∃ ms : List Int, cutV (ns.map V.int) none (some 63) = ms.map V.int := by
      unfold cutV
      exact ⟨(ns.drop _).take _, by rw [List.map_take, List.map_drop]⟩
    rw [hms] at hl ⊢
    have h1 := hh.new (o := .dK []) hd
    have h2 := h1.over (o := .lst (ms.map V.int)) hq
    have h3 := h2.new (o := .lst (ms.map V.int)) hl
    refine ⟨h3.at 1 rfl, penKv l 0 0, rfl, (by show 3 ≤ 15; decide), ?_⟩
    rw [mergeK_nd nd_pen]
    have h4 := (h3.swap).put (u := .dK (penKv l 0 0))
    exact k d ⟨l, 0, 0, ms⟩ _ h4 ⟨Int.le_refl _, Int.le_refl _, Int.le_refl _⟩ (((Tk.new hd).trans (Tk.new hq)).trans ((Tk.new hl).trans (Tk.dK (h3.at 1 rfl))))
theorem ok_l_pick {f f1 : Addr} {fd fd1 : FuncData} (D : De K mg "_law_pick" s_l_pick ["_law_pen_here", "_law_some"] f fd) (B : Bl mg) (D_l_draw : De K mg "_law_draw" s_l_draw ["_law_pen_here", "_law_many"] f1 fd1) :
    FnOk P w K mg base CX0 2 f fd ["_law_pen_here", "_law_some"] (spPick K) := by
  have G_l_draw := ok_l_draw (P := P) (w := w) (base := base) D_l_draw B
  refine D.F.ok sc_l_pick (fun vs H Q E h => ?_) (fun cdv A outer s H vs Q E hr h => ?_)
  · obtain ⟨p, l, xs, z, m, R, rfl, _⟩ := h
    rfl
  · obtain ⟨p, l, xs, z, m, R, rfl, l0, l1, hh, zo, hm, k⟩ := h
    refine ⟨_, (pss_one (ps_ret (pe_ix (ix_listE (K := K) rfl) (pv 1) (pe_call G_l_draw (hr.mono (by decide)) (by rfl) D_l_draw.g D_l_draw.F.kp D_l_draw.b .nil pass0 (pa_cons (pv 0) (pa_cons (pe_callB (call_lenE (K := K) rfl) (by rfl) B.b_len (by decide +kernel) (pa_cons (pv 1) pa_nil)) pa_nil))) (fun _ _ => rfl)))), ?_⟩
    refine ⟨_, rfl, _, rfl, _, rfl, l, xs, rfl, .inl (SqL.of (hh.at 2 rfl)), p, _, z, m, _, rfl, by omega, by omega, hh, zo, hm, fun d z' H' d0 d1 h' zo' tk => ?_⟩
    obtain ⟨v, e, hv⟩ := atI_mem d0 d1
    exact ⟨l, xs, _, v, rfl, rfl, SqL.of (h'.at 2 rfl), e, k v z' H' hv h' zo' tk⟩
theorem ok_l_plain {f f1 f2 : Addr} {fd fd1 fd2 : FuncData} (D : De K mg "_law_plain" s_l_plain ["_law_pen_here"] f fd) (B : Bl mg) (D_l_draw : De K mg "_law_draw" s_l_draw ["_law_pen_here", "_law_many"] f1 fd1)
    (D_l_pick : De K mg "_law_pick" s_l_pick ["_law_pen_here", "_law_some"] f2 fd2) : FnOk P w K mg base CX0 3 f fd ["_law_pen_here"] spPlain := by
  have G_l_draw := ok_l_draw (P := P) (w := w) (base := base) D_l_draw B
  have G_l_pick := ok_l_pick (P := P) (w := w) (base := base) D_l_pick B D_l_draw
  refine D.F.ok sc_l_plain (fun vs H Q E h => ?_) (fun cdv A outer s H vs Q E hr h => ?_)
  · obtain ⟨p, z, m, R, rfl, _⟩ := h
    rfl
  · obtain ⟨p, z, m, R, rfl, hh, zo, hm, k⟩ := h
    refine ⟨_, (pss_cons (ps_set (i := 1) sc_l_plain.nd rfl (Or.inl rfl) (pe_lst (pa_cons pe_non (pa_cons pe_int (pa_cons pe_int (pa_cons (pe_call G_l_draw (hr.mono (by decide)) (by rfl) D_l_draw.g D_l_draw.F.kp D_l_draw.b .nil pass0 (pa_cons (pv 0) (pa_cons pe_int pa_nil))) (pa_cons (pe_call G_l_pick (hr.mono (by decide)) (by rfl) D_l_pick.g D_l_pick.F.kp D_l_pick.b .nil pass0 (pa_cons (pv 0) (pa_cons (pe_lst (pa_cons (pe_un un_neg pe_int) (pa_cons pe_int (pa_cons pe_int (pa_cons pe_int (pa_cons pe_int (pa_cons (pe_un un_neg pe_int) pa_nil))))))) pa_nil))) pa_nil)))))))
      (pss_cons (ps_set (i := 1) sc_l_plain.nd rfl (Or.inl rfl) (pe_op op_cat (pv 1) (pe_lst (pa_cons (pe_call G_l_pick (hr.mono (by decide)) (by rfl) D_l_pick.g D_l_pick.F.kp D_l_pick.b .nil pass0 (pa_cons (pv 0) (pa_cons (pe_lst (pa_cons pe_str (pa_cons pe_str (pa_cons pe_str (pa_cons pe_str (pa_cons pe_str (pa_cons pe_str pa_nil))))))) pa_nil))) (pa_cons (pe_tup (pa_cons pe_int (pa_cons pe_str pa_nil))) (pa_cons (pe_tup (pa_cons pe_str (pa_cons pe_str pa_nil))) (pa_cons (pe_tup pa_nil) pa_nil)))))))
      (pss_one (ps_ret (pe_ix (ix_listE (K := K) rfl) (pv 1) (pe_call G_l_draw (hr.mono (by decide)) (by rfl) D_l_draw.g D_l_draw.F.kp D_l_draw.b .nil pass0 (pa_cons (pv 0) (pa_cons pe_int pa_nil))) (fun _ _ => rfl)))))), ?_⟩
    refine ⟨_, rfl, p, 12, z, m, R, rfl, by decide, by decide, hh, zo, by omega, fun d z1 H1 d0 d1 h1 zo1 k1 => ?_⟩
    refine ⟨_, rfl, _, rfl, _, rfl, (by show 6 ≤ sizeLine; decide), fun l1 hl1 => ?_⟩
    have h1' := h1.new (o := .lst [.int (-9), .int 10, .int 99, .int 100, .int 999999999, .int (-999999999)]) hl1
    refine ⟨p, l1, _, z1, m + 1, R, rfl, (by decide), (by decide), h1'.dn2, zo1, by omega, fun v2 z2 H2 hv2 h2 zo2 k2 => ?_⟩
    refine ⟨(by show 5 ≤ sizeLine; decide), fun s1 hs1 => ?_⟩
    have w2 : ∀ H, WOk H v2 := fun H => by
      have : v2 = .int (-9) ∨ v2 = .int 10 ∨ v2 = .int 99 ∨ v2 = .int 100 ∨ v2 = .int 999999999 ∨ v2 = .int (-999999999) := by
        simpa using hv2
      rcases this with rfl | rfl | rfl | rfl | rfl | rfl <;> exact wok_int (by decide)
    have h3 := ((h2.up2).tail).new (o := .lst [.non, .int 0, .int 1, .int d, v2]) hs1
    refine ⟨_, rfl, _, rfl, (by show 6 ≤ sizeLine; decide), fun l2 hl2 => ?_⟩
    have h3' := h3.new (o := .lst [.str "a", .str "ab", .str "b", .str "to", .str "zzzzzzzz", .str "odd"]) hl2
    refine ⟨p, l2, _, z2, m + 2, (s1, _) :: R, rfl, (by decide), (by decide), h3'.pre (xs := [_, _, _, _]) [2, 3, 0, 1], zo2, by omega, fun v3 z3 H3 hv3 h4 zo3 k3 => ?_⟩
    have w3 : ∀ H, WOk H v3 := fun H => by
      have : v3 = .str "a" ∨ v3 = .str "ab" ∨ v3 = .str "b" ∨ v3 = .str "to" ∨ v3 = .str "zzzzzzzz" ∨ v3 = .str "odd" := by
        simpa using hv3
      rcases this with rfl | rfl | rfl | rfl | rfl | rfl <;> exact wok_str (by decide +kernel) (by decide +kernel) (by decide +kernel)
    refine ⟨(by show 2 ≤ sizeLine; decide), fun t1 ht1 => ⟨(by show 2 ≤ sizeLine; decide), fun t2 ht2 => ⟨(by show 0 ≤ sizeLine; decide), fun t3 ht3 => ⟨(by show 4 ≤ sizeLine; decide), fun s2 hs2 => ?_⟩⟩⟩⟩
    have h5 := ((((h4.over (o := .tup [.int 1, .str "a"]) ht1).over (o := .tup [.str "to", .str "a"]) ht2).over (o := .tup []) ht3).new (o := .lst [v3, .ref t1, .ref t2, .ref t3]) hs2)
    refine ⟨s1, s2, _, _, rfl, rfl, h5.at 4 rfl, h5.at 0 rfl, (by show 5 + 4 ≤ sizeLine; decide), fun s3 hs3 => ?_⟩
    have h6 := (h5.new (o := .lst ([.non, .int 0, .int 1, .int d, v2] ++ [v3, .ref t1, .ref t2, .ref t3])) hs3).pre (xs := [_, _, _, _, _, _]) [2, 3, 0]
    refine ⟨_, rfl, _, rfl, p, 9, z3, m + 3, (s3, _) :: R, rfl, by decide, by decide, h6, zo3, by omega, fun e z4 H4 e0 e1 h7 zo4 k4 => ?_⟩
    obtain ⟨v, ev, hv⟩ := atI_mem (xs := [V.non, .int 0, .int 1, .int d, v2] ++ [v3, .ref t1, .ref t2, .ref t3]) e0 e1
    have kA := ((Tk.new (o := .tup [.int 1, .str "a"]) ht1).trans (Tk.new (o := .tup [.str "to", .str "a"]) ht2)).trans ((Tk.new (o := .tup []) ht3).trans ((Tk.new (o := .lst [v3, .ref t1, .ref t2, .ref t3]) hs2).trans ((Tk.new hs3).trans k4)))
    have kB := ((Tk.new (o := .tup [.str "to", .str "a"]) ht2).trans (Tk.new (o := .tup []) ht3)).trans ((Tk.new (o := .lst [v3, .ref t1, .ref t2, .ref t3]) hs2).trans ((Tk.new hs3).trans k4))
    have kC := (Tk.new (o := .tup []) ht3).trans ((Tk.new (o := .lst [v3, .ref t1, .ref t2, .ref t3]) hs2).trans ((Tk.new hs3).trans k4))
    have kD := (Tk.new (o := .lst [v3, .ref t1, .ref t2, .ref t3]) hs2).trans ((Tk.new hs3).trans k4)
    have e1' := kB t1 _ upd_same
    have e2' := kC t2 _ upd_same
    have e3' := kD t3 _ upd_same
    have g1 : Gd 1 0 (.str "a") := Gd.str (by decide +kernel) (by decide +kernel) (by decide +kernel)
    have g2 : Gd 2 0 (.str "to") := Gd.str (by decide +kernel) (by decide +kernel) (by decide +kernel)
    have wv : WOk H4 v := by
      have : v = .non ∨ v = .int 0 ∨ v = .int 1 ∨ v = .int d ∨ v = v2 ∨ v = v3 ∨ v = .ref t1 ∨ v = .ref t2 ∨ v = .ref t3 := by
        simpa using hv
      rcases this with rfl | rfl | rfl | rfl | rfl | rfl | rfl | rfl | rfl
      · exact ⟨_, .non, Gd.non.mono (by decide) (by decide)⟩
      · exact wok_int (by decide)
      · exact wok_int (by decide)
      · exact wok_int (by omega)
      · exact w2 _
      · exact w3 _
      · exact ⟨_, .tup e1' (.cons (.int 1) (.cons (.str "a") .nil)), (GdAll.tup (GdAll.cons (Gd.int (by decide)) (GdAll.cons g1 GdAll.nil))).mono (by decide) (by decide)⟩
      · exact ⟨_, .tup e2' (.cons (.str "to") (.cons (.str "a") .nil)), (GdAll.tup (GdAll.cons g2 (GdAll.cons g1 GdAll.nil))).mono (by decide) (by decide)⟩
      · exact ⟨_, .tup e3' .nil, (GdAll.tup (GdAll.nil (k := 0))).mono (by decide) (by decide)⟩
    refine ⟨s3, _, _, v, rfl, rfl, SqL.of (h7.at 2 rfl), ev, k v z4 H4 wv (h7.up2).tail (zo4.mono (by omega)) ?_⟩
    exact k1.trans ((Tk.new hl1).trans (k2.trans ((Tk.new hs1).trans ((Tk.new hl2).trans (k3.trans kA)))))
theorem ok_l_row_of {f f1 f2 f3 : Addr} {fd fd1 fd2 fd3 : FuncData} (D : De K mg "_law_row_of" s_l_row_of ["_law_pen_here"] f fd) (B : Bl mg) (D_l_draw : De K mg "_law_draw" s_l_draw ["_law_pen_here", "_law_many"] f1 fd1)
    (D_l_pick : De K mg "_law_pick" s_l_pick ["_law_pen_here", "_law_some"] f2 fd2) (D_l_plain : De K mg "_law_plain" s_l_plain ["_law_pen_here"] f3 fd3) : FnOk P w K mg base CX0 4 f fd ["_law_pen_here"] spRowOf := by
  have G_l_draw := ok_l_draw (P := P) (w := w) (base := base) D_l_draw B
  have G_l_plain := ok_l_plain (P := P) (w := w) (base := base) D_l_plain B D_l_draw D_l_pick
  refine D.F.ok sc_l_row_of (fun vs H Q E h => ?_) (fun cdv A outer s H vs Q E hr h => ?_)
  · obtain ⟨p, z, m, R, rfl, _⟩ := h
    rfl
  · obtain ⟨p, z, m, R, rfl, hh, zo, hm, k⟩ := h
    refine ⟨_, (pss_one (ps_ret (pe_callTy (call_tupleE (K := K) rfl) (by rfl) B.b_tuple (by decide +kernel) (pa_cons (pe_lc (own := [("_law_k", 1)]) (g := gName 1) (tt := tYes) rfl sc_l_row_of.nd (pi_range1 (by rfl) B.b_range (pa_cons (pe_call G_l_draw (hr.mono (by decide)) (by rfl) D_l_draw.g D_l_draw.F.kp D_l_draw.b .nil pass0 (pa_cons (pv 0) (pa_cons pe_int pa_nil))) pa_nil)) (blkOk_by (own := [("_law_k", 1)]) (N := N_l_row_of) (sc := defScope s_l_row_of) (by decide +kernel)) (fun _ _ _ _ _ => pg_name (i := 1) sc_l_row_of.nd rfl (Or.inl rfl)) (fun _ _ _ _ _ => pts_nil) (fun _ _ _ _ _ => (pe_call G_l_plain (hr.mono (by decide)) (by rfl) D_l_plain.g D_l_plain.F.kp D_l_plain.b .nil pass0 (pa_cons (pv 0) pa_nil)))) pa_nil)))), ?_⟩
    refine ⟨_, rfl, p, 4, z, m, R, rfl, by decide, by decide, hh, zo, by omega, fun d z1 H1 d0 d1 h1 zo1 k1 => ?_⟩
    refine ⟨d, rfl, by omega, by omega, fun D hD => ?_⟩
    refine lc_range (lo := 0) (n := d.toNat) (fun i H2 => ∃ (z2 : Pen) (ys : List V), ys.length = i ∧ (∀ v ∈ ys, WOk H2 v) ∧ Has H2 ((D, .lst ys) :: (z2.os p ++ R)) ∧ z2.Ok (m + 1 + 4 * i) ∧ Tk H1 H2) ?_ ?_ ?_
    · exact ⟨z1, [], rfl, fun v hv => absurd hv List.not_mem_nil, h1.new hD, zo1.mono (by omega), Tk.new hD⟩
    · rintro i H2 hi ⟨z2, ys, ly, wy, h2, zo2, k2⟩
      refine ⟨rfl, ?_⟩
      refine ⟨_, rfl, p, z2, m + 1 + 4 * i, (D, .lst ys) :: R, rfl, h2.dn2, zo2, by omega, fun v z3 H3 wv h3 zo3 k3 => ?_⟩
      have h3' : Has H3 ((D, .lst ys) :: (z3.os p ++ R)) := h3.up2
      refine ⟨ys, h3'.head, (by rw [ly]; exact small1000 (by omega)), z3, ys ++ [v], ?_, ?_, h3'.put, zo3.mono (by omega), k2.trans (k3.trans (Tk.lst h3'.head))⟩
      · rw [List.length_append, ly]
        rfl
      · intro u hu
        rcases List.mem_append.mp hu with hu | hu
        · exact ((wy u hu).keep k3).keep (Tk.lst h3'.head)
        · rw [List.mem_singleton.mp hu]
          exact wv.keep (Tk.lst h3'.head)
    · rintro H2 ⟨z2, ys, ly, wy, h2, zo2, k2⟩
      refine ⟨D, ys, rfl, .inl ⟨SqL.of h2.head, fun t ht => ?_⟩⟩
      have k3 := Tk.new (o := .tup ys) ht
      obtain ⟨ds, fs, gs⟩ := fz_list fun v hv => (wy v hv).keep k3
      have hl := fs.length
      exact k (.ref t) z2 _ ⟨t, ys, ds, rfl, upd_same, fs, (GdAll.of gs).mono (by omega) (Nat.le_refl _), by omega⟩ (h2.tail.over ht) (zo2.mono (by omega)) (k1.trans (k2.trans k3))
end
end Fc

set_option Elab.async false
set_option linter.all false
set_option maxRecDepth 100000
set_option maxHeartbeats 4000000
namespace Fc
open PySem L2
/-! ### wires -/
structure Wc (K : PySem.W.Frag) (mg : Str → Option Value) (C fI : Addr) (fdI : FuncData) (tR : Tok) : Prop where
  cl : Cls K C
  nk : NoAttr K C "known"
  nw : NoAttr K C "waiting"
  nc : NoAttr K C "came"
  g : mg "Wire" = some (.ref C)
  mk_ : Mk K C fI
  FI : Fun K "__init__" "Wire.__init__" s_Wire_init fI fdI
  b_init : Binds K fdI ["self"] []
  g_ROWS : mg "ROWS" = some (.str "rows" tR)
structure Me (K : PySem.W.Frag) (C : Addr) (x qual : Str) (st : Stmt) (ps : List Str) (f : Addr) (fd : FuncData) : Prop where
  m : Meth K C x f
  F : Fun K x qual st f fd
  b : Binds K fd ps []

def wFs (kn : Int) (l : Addr) (cm : Int) : List (Str × V) := [("known", .int kn), ("waiting", .ref l), ("came", .int cm)]
theorem n_kw : ¬ (("known" : Str) = "waiting") := by decide +kernel
theorem n_kc : ¬ (("known" : Str) = "came") := by decide +kernel
theorem n_wc : ¬ (("waiting" : Str) = "came") := by decide +kernel
theorem putF_nil {f : Str} {v : V} : putF f v [] = [(f, v)] := rfl
theorem putF_pos {f : Str} {v x : V} {r : List (Str × V)} : putF f v ((f, x) :: r) = (f, v) :: r := if_pos rfl
theorem putF_neg {f g : Str} {v x : V} {r : List (Str × V)} (h : ¬ g = f) : putF f v ((g, x) :: r) = (g, x) :: putF f v r := if_neg h
theorem wFs_eq (kn : Int) (l : Addr) (cm : Int) : putF "came" (.int cm) (putF "waiting" (.ref l) (putF "known" (.int kn) [])) = wFs kn l cm := by
  rw [putF_nil, putF_neg n_kw, putF_nil, putF_neg n_kc, putF_neg n_wc, putF_nil]
  rfl
theorem wFs_known (kn : Int) (l : Addr) (cm : Int) : (wFs kn l cm).lookup ("known" : Str) = some (.int kn) := by
  rw [← wFs_eq, lookup_putF, if_neg n_kc, lookup_putF, if_neg n_kw, lookup_putF, if_pos rfl]
theorem wFs_waiting (kn : Int) (l : Addr) (cm : Int) : (wFs kn l cm).lookup ("waiting" : Str) = some (.ref l) := by
  rw [← wFs_eq, lookup_putF, if_neg n_wc, lookup_putF, if_pos rfl]
theorem wFs_came (kn : Int) (l : Addr) (cm : Int) : (wFs kn l cm).lookup ("came" : Str) = some (.int cm) := by
  rw [← wFs_eq, lookup_putF, if_pos rfl]
theorem wFs_no (kn : Int) (l : Addr) (cm : Int) {m : Str} (h1 : ¬ m = "came") (h2 : ¬ m = "waiting") (h3 : ¬ m = "known") : (wFs kn l cm).lookup m = none := by
  rw [← wFs_eq, lookup_putF, if_neg h1, lookup_putF, if_neg h2, lookup_putF, if_neg h3]
  rfl
theorem wFs_setCame (kn : Int) (l : Addr) (cm z : Int) : putF "came" (.int z) (wFs kn l cm) = wFs kn l z := by
  unfold wFs
  rw [putF_neg n_kc, putF_neg n_wc, putF_pos]
theorem wFs_setWaiting (kn : Int) (l k : Addr) (cm : Int) : putF "waiting" (.ref k) (wFs kn l cm) = wFs kn k cm := by
  unfold wFs
  rw [putF_neg n_kw, putF_pos]
theorem wFs_setKnown (kn : Int) (l : Addr) (cm z : Int) : putF "known" (.int z) (wFs kn l cm) = wFs z l cm := by
  unfold wFs
  rw [putF_pos]
theorem wFs_len (kn : Int) (l : Addr) (cm : Int) : (wFs kn l cm).length < 1000 := by
  show 3 < 1000
  decide

/-- what stands at a wire -/
def wOs (C : Addr) (x dx l : Addr) (kn cm : Int) (ws : List V) : List (Addr × HO) := [(x, .ins C dx (wFs kn l cm)), (l, .lst ws)]
/-- a letter that has the form of one -/
structure Let (H : Hp) (a b : Addr) (f h : Int) (rows : List V) : Prop where
  at_ : H a = some (.tup [.str "rows", .int f, .ref b, .int h])
  in_ : H b = some (.tup rows)
  f0 : 0 ≤ f
  h0 : 0 ≤ h
  len : rows.length ≤ 1000
  row : ∀ v ∈ rows, ∃ (c : Addr) (xs : List V), v = .ref c ∧ H c = some (.tup xs)
theorem Let.keep {H H' : Hp} {a b : Addr} {f h : Int} {rows : List V} (l : Let H a b f h rows) (k : Tk H H') : Let H' a b f h rows :=
  ⟨k _ _ l.at_, k _ _ l.in_, l.f0, l.h0, l.len, fun v hv => let ⟨c, xs, e, z⟩ := l.row v hv; ⟨c, xs, e, k _ _ z⟩⟩

def spWInit (C : Addr) : Sp := fun vs H Q _ => ∃ (x dx : Addr) (R : List (Addr × HO)), vs = [.ref x] ∧ Has H ((x, .ins C dx []) :: R) ∧
  ∀ (l : Addr) (H' : Hp), Has H' (wOs C x dx l 0 0 [] ++ R) → Tk H H' → Q .non H'
def spWPut (C : Addr) : Sp := fun vs H Q _ => ∃ (x dx l : Addr) (kn cm : Int) (ws : List V) (v : V) (R : List (Addr × HO)), vs = [.ref x, v] ∧ Has H (wOs C x dx l kn cm ws ++ R) ∧ ws.length < 1000 ∧
  ∀ H' : Hp, Has H' (wOs C x dx l kn cm (ws ++ [v]) ++ R) → Tk H H' → Q (.int (kn + ws.length)) H'
def spWLetter (C : Addr) : Sp := fun vs H Q _ => ∃ (x dx l : Addr) (kn cm : Int) (ws : List V), vs = [.ref x] ∧ Has H (wOs C x dx l kn cm ws) ∧ ws.length ≤ 1000 ∧
  ∀ (a b : Addr) (H' : Hp), H' a = some (.tup [.str "rows", .int kn, .ref b, .int cm]) → H' b = some (.tup ws) → Same H H' → Q (.ref a) H'
def spWHeard (C : Addr) : Sp := fun vs H Q _ => ∃ (x dx l : Addr) (kn cm : Int) (ws : List V), vs = [.ref x] ∧ Has H (wOs C x dx l kn cm ws) ∧ Q (.int cm) H
def spWUnheard (C : Addr) : Sp := fun vs H Q _ => ∃ (x dx l : Addr) (kn cm : Int) (ws : List V) (R : List (Addr × HO)), vs = [.ref x] ∧ Has H (wOs C x dx l kn cm ws ++ R) ∧
  ∀ (q : Addr) (H' : Hp), H q = none → Has H' ((q, .lst ws) :: (wOs C x dx l kn cm ws ++ R)) → Same H H' → Q (.ref q) H'
def spWLen (C : Addr) : Sp := fun vs H Q _ => ∃ (x dx l : Addr) (kn cm : Int) (ws : List V), vs = [.ref x] ∧ Has H (wOs C x dx l kn cm ws) ∧ Q (.int ws.length) H
/-- a right letter is taken -/
def spWTake (C : Addr) : Sp := fun vs H Q _ => ∃ (x dx l a b : Addr) (kn cm f h : Int) (ws rows : List V) (R : List (Addr × HO)), vs = [.ref x, .ref a] ∧ Has H (wOs C x dx l kn cm ws ++ R) ∧ Let H a b f h rows ∧
  f ≤ cm ∧ h ≤ kn + ws.length ∧ ∀ (q l' : Addr) (H' : Hp),
    Has H' ((q, .lst (rows.drop (cm - f).toNat)) :: (wOs C x dx l' (if kn < h then h else kn) (cm + (rows.drop (cm - f).toNat).length) (ws.drop (h - kn).toNat) ++ R)) → Tk H H' → Q (.ref q) H'
def spIsWhole : Sp := fun vs H Q _ => ∃ i : Int, vs = [.int i] ∧ Q (.bl true) H
def spIsCount : Sp := fun vs H Q _ => ∃ i : Int, vs = [.int i] ∧ 0 ≤ i ∧ Q (.bl true) H
def spIsLetter : Sp := fun vs H Q _ => ∃ (a b : Addr) (f h : Int) (rows : List V), vs = [.ref a] ∧ Let H a b f h rows ∧ ∀ H', Same H H' → Q (.bl true) H'

section
variable {P : Program} {w : World} {K : PySem.W.Frag} {mg : Str → Option Value} {base : Heap} {C fI : Addr} {fdI : FuncData} {tR : Tok}
theorem ok_is_whole {f : Addr} {fd : FuncData} (D : De K mg "is_whole" s_is_whole ["thing"] f fd) (B : Bl mg) : FnOk P w K mg base CX0 1 f fd ["thing"] spIsWhole := by
  refine D.F.ok sc_is_whole (fun vs H Q E h => ?_) (fun cdv A outer s H vs Q E hr h => ?_)
  · obtain ⟨i, rfl, _⟩ := h
    rfl
  · obtain ⟨i, rfl, q⟩ := h
    refine ⟨_, (pss_one (ps_ret (pe_and (pe_callB (call_isiE (K := K) rfl) (by rfl) B.b_isinstance (by decide +kernel) (pa_cons (pv 0) (pa_cons (pe_bltn (v := .ty "int") (by rfl) B.b_int (by decide +kernel) rfl) pa_nil))) (pe_one (pe_not (pe_callB (call_isiE (K := K) rfl) (by rfl) B.b_isinstance (by decide +kernel) (pa_cons (pv 0) (pa_cons (pe_bltn (v := .ty "bool") (by rfl) B.b_bool (by decide +kernel) rfl) pa_nil)))))))), ?_⟩
    refine ⟨_, rfl, _, _, _, _, true, rfl, .ty _, .base (.int i), kit_ty (by decide +kernel), _, rfl, ?_⟩
    refine iteT ?_
    exact ⟨_, rfl, _, _, _, _, false, rfl, .ty _, .base (.int i), kit_ty (by decide +kernel), _, rfl, q⟩
theorem ok_is_count {f f1 : Addr} {fd fd1 : FuncData} (D : De K mg "is_count" s_is_count ["thing"] f fd) (B : Bl mg) (D_is_whole : De K mg "is_whole" s_is_whole ["thing"] f1 fd1) : FnOk P w K mg base CX0 2 f fd ["thing"] spIsCount := by
  have G_is_whole := ok_is_whole (P := P) (w := w) (base := base) D_is_whole B
  refine D.F.ok sc_is_count (fun vs H Q E h => ?_) (fun cdv A outer s H vs Q E hr h => ?_)
  · obtain ⟨i, rfl, _⟩ := h
    rfl
  · obtain ⟨i, rfl, h0, q⟩ := h
    refine ⟨_, (pss_one (ps_ret (pe_and (pe_call G_is_whole (hr.mono (by decide)) (by rfl) D_is_whole.g D_is_whole.F.kp D_is_whole.b .nil pass0 (pa_cons (pv 0) pa_nil)) (pe_one (pe_cmpR op_ge (pv 0) pe_int (nomark _)))))), ?_⟩
    refine ⟨_, rfl, i, rfl, _, rfl, ?_⟩
    refine iteT ?_
    refine ⟨_, rfl, _, _, rfl, rfl, ?_⟩
    show Q (.bl (decide (0 ≤ i))) H
    rw [decide_eq_true h0]
    exact q
theorem ok_is_letter {f f1 f2 : Addr} {fd fd1 fd2 : FuncData} (D : De K mg "is_letter" s_is_letter ["thing"] f fd) (B : Bl mg) (W : Wc K mg C fI fdI tR) (D_is_whole : De K mg "is_whole" s_is_whole ["thing"] f1 fd1)
    (D_is_count : De K mg "is_count" s_is_count ["thing"] f2 fd2) : FnOk P w K mg base CX0 3 f fd ["thing"] spIsLetter := by
  have G_is_count := ok_is_count (P := P) (w := w) (base := base) D_is_count B D_is_whole
  refine D.F.ok sc_is_letter (fun vs H Q E h => ?_) (fun cdv A outer s H vs Q E hr h => ?_)
  · obtain ⟨a, b, f, h, rows, rfl, _⟩ := h
    rfl
  · obtain ⟨a, b, f, h, rows, rfl, L, k⟩ := h
    refine ⟨_, (pss_cons (ps_if (PW.pt (pw_or (pt_not (pt_val (pe_callB (call_isiE (K := K) rfl) (by rfl) B.b_isinstance (by decide +kernel) (pa_cons (pv 0) (pa_cons (pe_bltn (v := .ty "tuple") (by rfl) B.b_tuple (by decide +kernel) rfl) pa_nil))))) (pw_or (pt_cmpR op_ne (pe_callB (call_lenE (K := K) rfl) (by rfl) B.b_len (by decide +kernel) (pa_cons (pv 0) pa_nil)) pe_int (nomark _)) (pw_or (pt_not (pt_val (pe_callB (call_isiE (K := K) rfl) (by rfl) B.b_isinstance (by decide +kernel) (pa_cons (pe_ix (ix_tupE (K := K) rfl) (pv 0) pe_int (fun _ _ => rfl)) (pa_cons (pe_bltn (v := .ty "str") (by rfl) B.b_str (by decide +kernel) rfl) pa_nil))))) (pw_or1 (pt_cmpR op_ne (pe_ix (ix_tupE (K := K) rfl) (pv 0) pe_int (fun _ _ => rfl)) (pe_glob (v := .str "rows") rfl W.g_ROWS ⟨_, rfl⟩) (nomark _)))))))
        (pss_one (ps_ret pe_bl))
        pss_nil)
      (pss_cons (ps_asg (pv 0) (pg_tup rfl (pgs_cons (pg_name (i := 1) sc_is_letter.nd rfl (Or.inl rfl)) (pgs_cons (pg_name (i := 2) sc_is_letter.nd rfl (Or.inl rfl)) (pgs_cons (pg_name (i := 3) sc_is_letter.nd rfl (Or.inl rfl)) (pgs_cons (pg_name (i := 4) sc_is_letter.nd rfl (Or.inl rfl)) pgs_nil))))))
      (pss_cons (ps_if (PW.pt (pw_or (pt_not (pt_val (pe_call G_is_count (hr.mono (by decide)) (by rfl) D_is_count.g D_is_count.F.kp D_is_count.b .nil pass0 (pa_cons (pv 2) pa_nil)))) (pw_or (pt_not (pt_val (pe_call G_is_count (hr.mono (by decide)) (by rfl) D_is_count.g D_is_count.F.kp D_is_count.b .nil pass0 (pa_cons (pv 4) pa_nil)))) (pw_or1 (pt_not (pt_val (pe_callB (call_isiE (K := K) rfl) (by rfl) B.b_isinstance (by decide +kernel) (pa_cons (pv 3) (pa_cons (pe_bltn (v := .ty "tuple") (by rfl) B.b_tuple (by decide +kernel) rfl) pa_nil)))))))))
        (pss_one (ps_ret pe_bl))
        pss_nil)
      (pss_one (ps_ret (pe_callB (cr_all rfl) (by rfl) B.b_all (by decide +kernel) (pa_cons (pe_lc (own := [("row", 5)]) (g := gName 5) (tt := tYes) rfl sc_is_letter.nd (pi_tup (pv 3)) (blkOk_by (own := [("row", 5)]) (N := N_is_letter) (sc := defScope s_is_letter) (by decide +kernel)) (fun _ _ _ _ _ => pg_name (i := 5) sc_is_letter.nd rfl (Or.inl rfl)) (fun _ _ _ _ _ => pts_nil) (fun _ _ _ _ _ => (pe_callB (call_isiE (K := K) rfl) (by rfl) B.b_isinstance (by decide +kernel) (pa_cons (pv 5) (pa_cons (pe_bltn (v := .ty "tuple") (by rfl) B.b_tuple (by decide +kernel) rfl) pa_nil))))) pa_nil))))))), ?_⟩
    refine ⟨_, rfl, _, _, _, _, true, rfl, .ty _, .base (.tup L.at_), kit_ty (by decide +kernel), _, rfl, ?_⟩
    refine iteF ?_
    refine ⟨_, rfl, a, _, rfl, .inr (SqT.of L.at_), rfl, _, rfl, ?_⟩
    refine iteF ?_
    refine ⟨_, rfl, a, _, _, _, rfl, rfl, SqT.of L.at_, rfl, _, _, _, _, true, rfl, .ty _, .base (.str _), kit_ty (by decide +kernel), _, rfl, ?_⟩
    refine iteF ?_
    refine ⟨_, rfl, a, _, _, _, rfl, rfl, SqT.of L.at_, rfl, rfl, _, rfl, ?_⟩
    refine iteNS rfl ?_
    refine ⟨_, rfl, a, _, rfl, SqT.of L.at_, rfl, _, _, rfl, _, _, rfl, _, _, rfl, _, _, rfl, rfl, ?_⟩
    refine ⟨_, rfl, f, rfl, L.f0, _, rfl, ?_⟩
    refine iteF ?_
    refine ⟨_, rfl, h, rfl, L.h0, _, rfl, ?_⟩
    refine iteF ?_
    refine ⟨_, rfl, _, _, _, _, true, rfl, .ty _, .base (.tup L.in_), kit_ty (by decide +kernel), _, rfl, ?_⟩
    refine iteF ?_
    refine ⟨_, rfl, b, rfl, ⟨_, SqT.of L.in_⟩, fun D hD => ?_⟩
    refine lc_tup (K := K) (a := b) (xs := rows) (fun i H2 => Same H H2 ∧ H2 D = some (.lst ((List.replicate i true).map V.bl))) ?_ ?_ ?_ ?_
    · exact ⟨same_new hD, upd_same⟩
    · rintro i H2 _ ⟨s2, _⟩
      exact SqT.of (s2 _ _ L.in_)
    · rintro i x H2 hx ⟨s2, d2⟩
      obtain ⟨c, xs, rfl, hc⟩ := L.row x (List.mem_of_getElem? hx)
      have hi : i < rows.length := (List.getElem?_eq_some_iff.mp hx).1
      have hl := L.len
      refine ⟨rfl, ?_⟩
      refine ⟨_, rfl, _, _, _, _, true, rfl, .ty _, .base (.tup (s2 _ _ hc)), kit_ty (by decide +kernel), _, d2, ?_, fun b o e => ?_, ?_⟩
      · rw [List.length_map, List.length_replicate]
        exact small1000 (by omega)
      · rw [upd_ne (ne_of_none e hD)]
        exact s2 _ _ e
      · rw [upd_same, List.replicate_succ', List.map_append]
        rfl
    · rintro H2 ⟨s2, d2⟩
      refine ⟨D, _, rfl, SqL.of d2, ?_⟩
      have : (List.replicate rows.length true).all id = true := by simp
      rw [this]
      exact k H2 s2
end
end Fc

set_option Elab.async false
set_option linter.all false
set_option maxRecDepth 100000
set_option maxHeartbeats 4000000
namespace Fc
open PySem L2
section
variable {P : Program} {w : World} {K : PySem.W.Frag} {mg : Str → Option Value} {base : Heap} {C fI : Addr} {fdI : FuncData} {tR : Tok}
theorem ok_Wire_init (W : Wc K mg C fI fdI tR) : FnOk P w K mg base CX0 1 fI fdI ["self"] (spWInit C) := by
  refine W.FI.ok sc_Wire_init (fun vs H Q E h => ?_) (fun cdv A outer s H vs Q E hr h => ?_)
  · obtain ⟨x, dx, R, rfl, _⟩ := h
    rfl
  · obtain ⟨x, dx, R, rfl, hh, k⟩ := h
    refine ⟨_, (pss_cons (ps_fld (pv 0) pe_int rfl)
      (pss_cons (ps_fld (pv 0) (pe_lst pa_nil) rfl)
      (pss_one (ps_fld (pv 0) pe_int rfl)))), ?_⟩
    refine ⟨_, rfl, x, C, dx, _, rfl, hh.head, W.cl, W.nk, (by show 0 < 1000; decide), ?_⟩
    have h1 := hh.put (u := .ins C dx (putF "known" (.int 0) []))
    refine ⟨(by show 0 ≤ sizeLine; decide), fun l hl => ?_⟩
    have h2 := h1.new (o := .lst []) hl
    refine ⟨_, rfl, x, C, dx, _, rfl, h2.at 1 rfl, W.cl, W.nw, (by show 1 < 1000; decide), ?_⟩
    have h3 := (h2.swap).put (u := .ins C dx (putF "waiting" (.ref l) (putF "known" (.int 0) [])))
    refine ⟨_, rfl, x, C, dx, _, rfl, h3.head, W.cl, W.nc, (by rw [putF_nil, putF_neg n_kw, putF_nil]; show 2 < 1000; decide), ?_⟩
    have h4 := h3.put (u := .ins C dx (putF "came" (.int 0) (putF "waiting" (.ref l) (putF "known" (.int 0) []))))
    have tk := (Tk.ins (u := .ins C dx (putF "known" (.int 0) [])) hh.head).trans ((Tk.new (o := .lst []) hl).trans ((Tk.ins (h2.at 1 rfl)).trans (Tk.ins (u := .ins C dx (putF "came" (.int 0) (putF "waiting" (.ref l) (putF "known" (.int 0) [])))) h3.head)))
    rw [wFs_eq] at h4 tk
    exact k l _ h4 tk
theorem ok_Wire_put {f : Addr} {fd : FuncData} (M : Me K C "put" "Wire.put" s_Wire_put ["self", "row"] f fd) (W : Wc K mg C fI fdI tR) (B : Bl mg) : FnOk P w K mg base CX0 1 f fd ["self", "row"] (spWPut C) := by
  refine M.F.ok sc_Wire_put (fun vs H Q E h => ?_) (fun cdv A outer s H vs Q E hr h => ?_)
  · obtain ⟨x, dx, l, kn, cm, ws, v, R, rfl, _⟩ := h
    rfl
  · obtain ⟨x, dx, l, kn, cm, ws, v, R, rfl, hh, hl, k⟩ := h
    refine ⟨_, (pss_cons (ps_expr (pe_bm PySem.F.plainAttrs_list PySem.F.slot_list_append PySem.F.type_list_append mt_append (pe_fld (pv 0) rfl) (pa_cons (pv 1) pa_nil)))
      (pss_one (ps_ret (pe_op op_sub (pe_op op_add (pe_fld (pv 0) rfl) (pe_callB (call_lenE (K := K) rfl) (by rfl) B.b_len (by decide +kernel) (pa_cons (pe_fld (pv 0) rfl) pa_nil))) pe_int)))), ?_⟩
    have hx := hh.at 0 rfl
    have hw := hh.at 1 rfl
    refine ⟨_, rfl, x, C, dx, _, _, rfl, hx, W.cl, W.nw, wFs_waiting _ _ _, .inl ⟨rfl, _, SqL.of hw⟩, _, rfl, l, _, _, rfl, rfl, hw, small1000 (by omega), ?_⟩
    have h1 : Has _ ((l, .lst (ws ++ [v])) :: (x, .ins C dx (wFs kn l cm)) :: R) := Has.put hh.swap
    refine ⟨_, rfl, x, C, dx, _, _, rfl, h1.at 1 rfl, W.cl, W.nk, wFs_known _ _ _, _, rfl, x, C, dx, _, _, rfl, h1.at 1 rfl, W.cl, W.nw, wFs_waiting _ _ _, l, _, rfl, .inl (SqL.of (h1.at 0 rfl)), _, _, rfl, rfl, _, _, rfl, rfl, ?_⟩
    have e : kn + ((ws ++ [v]).length : Int) - 1 = kn + ws.length := by
      rw [List.length_append, List.length_singleton]
      omega
    show Q (.int (kn + ((ws ++ [v]).length : Int) - 1)) _
    rw [e]
    exact k _ h1.swap (Tk.lst hw)
theorem ok_Wire_letter {f : Addr} {fd : FuncData} (M : Me K C "letter" "Wire.letter" s_Wire_letter ["self"] f fd) (W : Wc K mg C fI fdI tR) (B : Bl mg) : FnOk P w K mg base CX0 1 f fd ["self"] (spWLetter C) := by
  refine M.F.ok sc_Wire_letter (fun vs H Q E h => ?_) (fun cdv A outer s H vs Q E hr h => ?_)
  · obtain ⟨x, dx, l, kn, cm, ws, rfl, _⟩ := h
    rfl
  · obtain ⟨x, dx, l, kn, cm, ws, rfl, hh, hl, k⟩ := h
    refine ⟨_, (pss_one (ps_ret (pe_tup (pa_cons (pe_glob (v := .str "rows") rfl W.g_ROWS ⟨_, rfl⟩) (pa_cons (pe_fld (pv 0) rfl) (pa_cons (pe_callTy (call_tupleE (K := K) rfl) (by rfl) B.b_tuple (by decide +kernel) (pa_cons (pe_fld (pv 0) rfl) pa_nil)) (pa_cons (pe_fld (pv 0) rfl) pa_nil))))))), ?_⟩
    have hx := hh.at 0 rfl
    have hw := hh.at 1 rfl
    refine ⟨_, rfl, x, C, dx, _, _, rfl, hx, W.cl, W.nk, wFs_known _ _ _, _, rfl, x, C, dx, _, _, rfl, hx, W.cl, W.nw, wFs_waiting _ _ _, l, _, rfl, .inl ⟨SqL.of hw, fun b hb => ?_⟩⟩
    have s1 := same_new (o := .tup ws) hb
    refine ⟨_, rfl, x, C, dx, _, _, rfl, s1 _ _ hx, W.cl, W.nc, wFs_came _ _ _, (by show 4 ≤ sizeLine; decide), fun a ha => ?_⟩
    refine k a b _ upd_same ?_ (s1.trans (same_new ha))
    exact same_new ha _ _ upd_same
theorem ok_Wire_heard {f : Addr} {fd : FuncData} (M : Me K C "heard" "Wire.heard" s_Wire_heard ["self"] f fd) (W : Wc K mg C fI fdI tR) : FnOk P w K mg base CX0 1 f fd ["self"] (spWHeard C) := by
  refine M.F.ok sc_Wire_heard (fun vs H Q E h => ?_) (fun cdv A outer s H vs Q E hr h => ?_)
  · obtain ⟨x, dx, l, kn, cm, ws, rfl, _⟩ := h
    rfl
  · obtain ⟨x, dx, l, kn, cm, ws, rfl, hh, k⟩ := h
    refine ⟨_, (pss_one (ps_ret (pe_fld (pv 0) rfl))), ?_⟩
    exact ⟨_, rfl, x, C, dx, _, _, rfl, hh.at 0 rfl, W.cl, W.nc, wFs_came _ _ _, k⟩
theorem ok_Wire_take {f f1 f2 f3 : Addr} {fd fd1 fd2 fd3 : FuncData} (M : Me K C "take" "Wire.take" s_Wire_take ["self", "letter"] f fd) (W : Wc K mg C fI fdI tR) (B : Bl mg) (D_is_whole : De K mg "is_whole" s_is_whole ["thing"] f1 fd1)
    (D_is_count : De K mg "is_count" s_is_count ["thing"] f2 fd2) (D_is_letter : De K mg "is_letter" s_is_letter ["thing"] f3 fd3) : FnOk P w K mg base CX0 4 f fd ["self", "letter"] (spWTake C) := by
  have G_is_letter := ok_is_letter (P := P) (w := w) (base := base) D_is_letter B W D_is_whole D_is_count
  refine M.F.ok sc_Wire_take (fun vs H Q E h => ?_) (fun cdv A outer s H vs Q E hr h => ?_)
  · obtain ⟨x, dx, l, a, b, kn, cm, f, h, ws, rows, R, rfl, _⟩ := h
    rfl
  · obtain ⟨x, dx, l, a, b, kn, cm, f, h, ws, rows, R, rfl, hh0, L0, hf, hhd, k0⟩ := h
    refine ⟨_, (pss_cons (ps_if (pt_not (pt_val (pe_call G_is_letter (hr.mono (by decide)) (by rfl) D_is_letter.g D_is_letter.F.kp D_is_letter.b .nil pass0 (pa_cons (pv 1) pa_nil))))
        (pss_one ps_never)
        pss_nil)
      (pss_cons (ps_asg (pv 1) (pg_tup rfl (pgs_cons (pg_name (i := 2) sc_Wire_take.nd rfl (Or.inl rfl)) (pgs_cons (pg_name (i := 3) sc_Wire_take.nd rfl (Or.inl rfl)) (pgs_cons (pg_name (i := 4) sc_Wire_take.nd rfl (Or.inl rfl)) (pgs_cons (pg_name (i := 5) sc_Wire_take.nd rfl (Or.inl rfl)) pgs_nil))))))
      (pss_cons (ps_if (PW.pt (pw_or (pt_cmpR op_gt (pv 3) (pe_fld (pv 0) rfl) (nomark _)) (pw_or1 (pt_cmpR op_gt (pv 5) (pe_op op_add (pe_fld (pv 0) rfl) (pe_callB (call_lenE (K := K) rfl) (by rfl) B.b_len (by decide +kernel) (pa_cons (pe_fld (pv 0) rfl) pa_nil))) (nomark _)))))
        (pss_one ps_never)
        pss_nil)
      (pss_cons (ps_set (i := 6) sc_Wire_take.nd rfl (Or.inl rfl) (pe_callTy (call_listE (K := K) rfl) (by rfl) B.b_list (by decide +kernel) (pa_cons (pe_slice sl_tupX (pv 4) (po_some (pe_op op_sub (pe_fld (pv 0) rfl) (pv 3))) po_none) pa_nil)))
      (pss_cons (ps_fldaug (pv 0) (pe_callB (call_lenE (K := K) rfl) (by rfl) B.b_len (by decide +kernel) (pa_cons (pv 6) pa_nil)) in_add)
      (pss_cons (ps_if (pt_cmpR op_gt (pv 5) (pe_fld (pv 0) rfl) (nomark _))
        (pss_cons (ps_fld (pv 0) (pe_slice (sl_listE (K := K) rfl) (pe_fld (pv 0) rfl) (po_some (pe_op op_sub (pv 5) (pe_fld (pv 0) rfl))) po_none) rfl)
        (pss_one (ps_fld (pv 0) (pv 5) rfl)))
        pss_nil)
      (pss_one (ps_ret (pv 6))))))))), ?_⟩
    refine ⟨_, rfl, a, b, f, h, rows, rfl, L0, fun H0 s0 => ⟨_, rfl, ?_⟩⟩
    refine iteF ?_
    have hh := hh0.same s0
    have L := L0.keep (same_tk s0)
    have k := fun q l' H' a => (fun c => k0 q l' H' a ((same_tk s0).trans c))
    clear k0 hh0 L0
    have hx := hh.at 0 rfl
    have hw := hh.at 1 rfl
    refine ⟨_, rfl, a, _, rfl, SqT.of L.at_, rfl, _, _, rfl, _, _, rfl, _, _, rfl, _, _, rfl, rfl, ?_⟩
    refine ⟨_, rfl, _, rfl, x, C, dx, _, _, rfl, hx, W.cl, W.nc, wFs_came _ _ _, _, _, rfl, rfl, _, rfl, ?_⟩
    rw [decide_eq_false (show ¬ cm < f by omega)]
    refine iteF ?_
    refine ⟨_, rfl, _, rfl, x, C, dx, _, _, rfl, hx, W.cl, W.nk, wFs_known _ _ _, _, rfl, x, C, dx, _, _, rfl, hx, W.cl, W.nw, wFs_waiting _ _ _, l, _, rfl, .inl (SqL.of hw), _, _, rfl, rfl, _, _, rfl, rfl, _, rfl, ?_⟩
    rw [decide_eq_false (show ¬ kn + (ws.length : Int) < h by omega)]
    refine iteF ?_
    refine ⟨_, rfl, _, rfl, x, C, dx, _, _, rfl, hx, W.cl, W.nc, wFs_came _ _ _, _, rfl, _, _, rfl, rfl, _, rfl, b, rows, rfl, L.in_, fun p H1 s1 hp => ⟨p, _, rfl, .inr (SqT.of hp), fun q hq => ?_⟩⟩
    rw [cut_from (show 0 ≤ cm - f by omega)] at hp ⊢
    have h1 := (hh.same s1).new (o := .lst (rows.drop (cm - f).toNat)) hq
    refine ⟨_, rfl, x, C, dx, _, _, rfl, h1.at 1 rfl, W.cl, W.nc, wFs_came _ _ _, _, rfl, q, _, rfl, .inl (SqL.of h1.head), _, _, rfl, rfl, dx, _, h1.at 1 rfl, wFs_len _ _ _, ?_⟩
    rw [wFs_setCame]
    have h2 := (h1.swap).put (u := .ins C dx (wFs kn l (cm + (rows.drop (cm - f).toNat).length)))
    have k2 := (same_tk s1).trans ((Tk.new (o := .lst (rows.drop (cm - f).toNat)) hq).trans (Tk.ins (u := .ins C dx (wFs kn l (cm + (rows.drop (cm - f).toNat).length))) (h1.at 1 rfl)))
    refine ⟨_, rfl, _, rfl, x, C, dx, _, _, rfl, h2.head, W.cl, W.nk, wFs_known _ _ _, _, _, rfl, rfl, _, rfl, ?_⟩
    refine ite2 (fun hkh => ?_) (fun hkh => ?_)
    · rw [decide_eq_true_eq] at hkh
      refine ⟨_, rfl, x, C, dx, _, _, rfl, h2.head, W.cl, W.nw, wFs_waiting _ _ _, _, rfl, _, rfl, x, C, dx, _, _, rfl, h2.head, W.cl, W.nk, wFs_known _ _ _, _, _, rfl, rfl, _, rfl, l, ws, rfl, SqL.of (h2.at 2 rfl), fun l2 hl2 => ?_⟩
      rw [cut_from (show 0 ≤ h - kn by omega)]
      have h3 := h2.new (o := .lst (ws.drop (h - kn).toNat)) hl2
      refine ⟨_, rfl, x, C, dx, _, rfl, h3.at 1 rfl, W.cl, W.nw, wFs_len _ _ _, ?_⟩
      rw [wFs_setWaiting]
      have h4 := (h3.swap).put (u := .ins C dx (wFs kn l2 (cm + (rows.drop (cm - f).toNat).length)))
      refine ⟨_, rfl, _, rfl, x, C, dx, _, rfl, h4.head, W.cl, W.nk, wFs_len _ _ _, ?_⟩
      rw [wFs_setKnown]
      have h5 := h4.put (u := .ins C dx (wFs h l2 (cm + (rows.drop (cm - f).toNat).length)))
      refine ⟨_, rfl, ?_⟩
      have k3 := k2.trans ((Tk.new (o := .lst (ws.drop (h - kn).toNat)) hl2).trans ((Tk.ins (h3.at 1 rfl)).trans (Tk.ins (u := .ins C dx (wFs h l2 (cm + (rows.drop (cm - f).toNat).length))) h4.head)))
      refine k q l2 _ ?_ k3
      rw [if_pos hkh]
      exact h5.pre (xs := [_, _, _, _]) [2, 0, 1]
    · have hkh' : ¬ kn < h := fun z => hkh (decide_eq_true z)
      refine ⟨_, rfl, ?_⟩
      have k3 := fun H1 => k q l H1
      simp only [if_neg hkh', show (h - kn).toNat = 0 by omega, List.drop_zero] at k3
      exact k3 _ h2.swap k2
end
end Fc

set_option Elab.async false
set_option linter.all false
set_option maxRecDepth 100000
set_option maxHeartbeats 4000000
namespace Fc
open PySem L2
/-! ### the data of rows and letters -/
theorem rows_fz {H : Hp} : ∀ {vs : List V}, Rows H vs → ∃ ds, FzAll H vs ds ∧ ∀ d ∈ ds, Gd 80 2 d
  | [], _ => ⟨[], .nil, fun d hd => absurd hd List.not_mem_nil⟩
  | v :: vs, h => by
    obtain ⟨a, xs, ds, rfl, e, f, g⟩ := h v List.mem_cons_self
    obtain ⟨es, fs, gs⟩ := rows_fz fun u hu => h u (List.mem_cons_of_mem _ hu)
    refine ⟨.tuple ds :: es, .cons (.tup e f) fs, fun c hc => ?_⟩
    rcases List.mem_cons.mp hc with rfl | hc
    · exact g.tup
    · exact gs c hc
theorem g_rows : Gd 4 0 (.str "rows") := Gd.str (by decide +kernel) (by decide +kernel) (by decide +kernel)
def letD (f h : Int) (ds : List PyData) : PyData := .tuple [.str "rows", .int f, .tuple ds, .int h]
theorem let_gd {f h : Int} {ds : List PyData} (hf : f.natAbs < 10 ^ 12) (hh : h.natAbs < 10 ^ 12) (g : ∀ d ∈ ds, Gd 80 2 d) (hl : ds.length ≤ 1000) : Gd (2 ^ 20) 4 (letD f h ds) := by
  have g1 : GdAll (81 * ds.length) 2 ds := GdAll.of g
  have g2 := GdAll.cons (g_rows.mono (Nat.le_refl _) (by decide : 0 ≤ 3)) (GdAll.cons ((Gd.int hf).mono (Nat.le_refl _) (by decide : 0 ≤ 3)) (GdAll.cons g1.tup (GdAll.cons ((Gd.int hh).mono (Nat.le_refl _) (by decide : 0 ≤ 3)) GdAll.nil)))
  exact (GdAll.tup g2).mono (by omega) (Nat.le_refl _)
theorem let_fz {H : Hp} {a b : Addr} {f h : Int} {rows : List V} {ds : List PyData} (ha : H a = some (.tup [.str "rows", .int f, .ref b, .int h])) (hb : H b = some (.tup rows)) (hd : FzAll H rows ds) : Fz H (.ref a) (letD f h ds) :=
  .tup ha (.cons (.str _) (.cons (.int _) (.cons (.tup hb hd) (.cons (.int _) .nil))))
theorem lst_gd {ds : List PyData} (g : ∀ d ∈ ds, Gd 80 2 d) (hl : ds.length ≤ 1000) : Gd (2 ^ 20) 60 (.list ds) :=
  (GdAll.lst (GdAll.of g)).mono (by omega) (by decide)
theorem Rows.drop {H : Hp} {vs : List V} (h : Rows H vs) (n : Nat) : Rows H (vs.drop n) := fun v hv => h v (List.mem_of_mem_drop hv)
theorem Rows.take {H : Hp} {vs : List V} (h : Rows H vs) (n : Nat) : Rows H (vs.take n) := fun v hv => h v (List.mem_of_mem_take hv)
theorem Rows.tups {H : Hp} {vs : List V} (h : Rows H vs) : ∀ v ∈ vs, ∃ (c : Addr) (xs : List V), v = .ref c ∧ H c = some (.tup xs) := fun v hv =>
  let ⟨a, xs, _, e, f, _⟩ := h v hv
  ⟨a, xs, e, f⟩

theorem Has.make {H : Hp} {R : List (Addr × HO)} {x dx : Addr} {o : HO} (h : Has H R) (nx : H x = none) (nd : H dx = none) (ne : dx ≠ x) : Has (upd (upd H dx (.own x)) x o) ((x, o) :: R) :=
  (h.over nd).new (by rw [upd_ne ne.symm]; exact nx)
theorem Tk.make {H : Hp} {x dx : Addr} {o : HO} (nx : H x = none) (nd : H dx = none) (ne : dx ≠ x) : Tk H (upd (upd H dx (.own x)) x o) :=
  (Tk.new nd).trans (Tk.new (by rw [upd_ne ne.symm]; exact nx))
theorem same_mut {H H' : Hp} {t : Addr} {o : HO} (s : Same H H') (h : H t = none) : Same H (upd H' t o) := fun b u e => by
  rw [upd_ne (ne_of_none e h)]
  exact s b u e
theorem ite_dec {c A B : Prop} [Decidable c] (hc : c) (h : A) : if decide c = true then A else B := by
  rw [if_pos (decide_eq_true hc)]
  exact h
end Fc

set_option Elab.async false
set_option linter.all false
set_option maxRecDepth 100000
set_option maxHeartbeats 4000000
namespace Fc
open PySem L2
section
variable {P : Program} {w : World} {K : PySem.W.Frag} {mg : Str → Option Value} {base : Heap} {C fI : Addr} {fdI : FuncData} {tR : Tok}
theorem ok_Wire_len {f : Addr} {fd : FuncData} (M : Me K C "__len__" "Wire.__len__" s_Wire_len ["self"] f fd) (W : Wc K mg C fI fdI tR) (B : Bl mg) : FnOk P w K mg base CX0 1 f fd ["self"] (spWLen C) := by
  refine M.F.ok sc_Wire_len (fun vs H Q E h => ?_) (fun cdv A outer s H vs Q E hr h => ?_)
  · obtain ⟨x, dx, l, kn, cm, ws, rfl, _⟩ := h
    rfl
  · obtain ⟨x, dx, l, kn, cm, ws, rfl, hh, k⟩ := h
    refine ⟨_, (pss_one (ps_ret (pe_callB (call_lenE (K := K) rfl) (by rfl) B.b_len (by decide +kernel) (pa_cons (pe_fld (pv 0) rfl) pa_nil)))), ?_⟩
    exact ⟨_, rfl, x, C, dx, _, _, rfl, hh.at 0 rfl, W.cl, W.nw, wFs_waiting _ _ _, l, ws, rfl, .inl (SqL.of (hh.at 1 rfl)), k⟩
end
end Fc

set_option Elab.async false
set_option linter.all false
set_option maxRecDepth 100000
set_option maxHeartbeats 8000000
namespace Fc
open PySem L2
/-- one pair of wires, what was put at its head, and how far it came -/
structure P9 where
  pj : Addr
  x0 : Addr
  d0 : Addr
  l0 : Addr
  x1 : Addr
  d1 : Addr
  l1 : Addr
  t : Addr
  kn : Int
  cm : Int
  vs : List V
def P9.os (C : Addr) (a : P9) : List (Addr × HO) := [(a.x0, .ins C a.d0 (wFs a.kn a.l0 0)), (a.l0, .lst (a.vs.drop a.kn.toNat)), (a.x1, .ins C a.d1 (wFs 0 a.l1 a.cm)), (a.l1, .lst []), (a.pj, .lst [.ref a.x0, .ref a.x1]), (a.t, .lst (a.vs.take a.cm.toNat))]
def flat (C : Addr) (ps : List P9) : List (Addr × HO) := ps.flatMap (P9.os C)
def kl (ps : List P9) : List V := ps.map fun a => V.ref a.pj
def tls (ps : List P9) : List V := ps.map fun a => V.ref a.t
def Chn : List V → List P9 → Prop
  | _, [] => True
  | vs, a :: ps => a.vs = vs ∧ 0 ≤ a.kn ∧ a.kn ≤ a.cm ∧ a.cm ≤ vs.length ∧ Chn (vs.take a.cm.toNat) ps
def addTo (ws : List V) : List P9 → List P9
  | [] => []
  | b :: r => { b with vs := b.vs ++ ws } :: r
theorem kl_addTo {ws : List V} : ∀ {ps : List P9}, kl (addTo ws ps) = kl ps
  | [] => rfl
  | _ :: _ => rfl
theorem tls_addTo {ws : List V} : ∀ {ps : List P9}, tls (addTo ws ps) = tls ps
  | [] => rfl
  | _ :: _ => rfl
theorem kl_mid {pre post post' : List P9} {a a' : P9} (h : a'.pj = a.pj) (e : kl post' = kl post) : kl (pre ++ a' :: post') = kl (pre ++ a :: post) := by
  unfold kl at e ⊢
  rw [List.map_append, List.map_append, List.map_cons, List.map_cons, h, e]
theorem tls_mid {pre post post' : List P9} {a a' : P9} (h : a'.t = a.t) (e : tls post' = tls post) : tls (pre ++ a' :: post') = tls (pre ++ a :: post) := by
  unfold tls at e ⊢
  rw [List.map_append, List.map_append, List.map_cons, List.map_cons, h, e]
theorem at_kl {pre post : List P9} {a : P9} : atI (kl (pre ++ a :: post)) ((pre.length : Nat) : Int) = some (.ref a.pj) := by
  refine atI_nat ?_
  unfold kl
  rw [List.getElem?_map, List.getElem?_append_right (Nat.le_refl _), Nat.sub_self]
  rfl
theorem at_tls {pre post : List P9} {a : P9} : atI (tls (pre ++ a :: post)) ((pre.length : Nat) : Int) = some (.ref a.t) := by
  refine atI_nat ?_
  unfold tls
  rw [List.getElem?_map, List.getElem?_append_right (Nat.le_refl _), Nat.sub_self]
  rfl
theorem perm_mid {A X P Q : List (Addr × HO)} : (A ++ (X ++ (P ++ Q))).Perm (X ++ (P ++ (A ++ Q))) :=
  (List.perm_append_comm_assoc A X (P ++ Q)).trans ((List.perm_append_comm_assoc A P Q).append_left X)
theorem flat_mid {C : Addr} {pre post : List P9} {a : P9} : flat C (pre ++ a :: post) = flat C pre ++ (a.os C ++ flat C post) := by
  unfold flat
  rw [List.flatMap_append, List.flatMap_cons]
theorem flat_app {C : Addr} {pre post : List P9} : flat C (pre ++ post) = flat C pre ++ flat C post := by
  unfold flat
  rw [List.flatMap_append]
theorem focus {C : Addr} {H : Hp} {X : List (Addr × HO)} {pre post : List P9} {a : P9} (h : Has H (X ++ flat C (pre ++ a :: post))) : Has H (a.os C ++ (X ++ flat C (pre ++ post))) := by
  rw [flat_mid] at h
  rw [flat_app]
  exact h.perm perm_mid
theorem unfocus {C : Addr} {H : Hp} {X : List (Addr × HO)} {pre post : List P9} {a : P9} (h : Has H (a.os C ++ (X ++ flat C (pre ++ post)))) : Has H (X ++ flat C (pre ++ a :: post)) := by
  rw [flat_app] at h
  rw [flat_mid]
  exact h.perm perm_mid.symm
/-! the chain's laws -/
theorem chn_add {ws : List V} : ∀ {hd : List V} {ps : List P9}, Chn hd ps → Chn (hd ++ ws) (addTo ws ps)
  | _, [], _ => trivial
  | hd, b :: r, ⟨e, k0, kc, cl, t⟩ => by
    subst e
    refine ⟨rfl, k0, kc, ?_, ?_⟩
    · show b.cm ≤ ((b.vs ++ ws).length : Int)
      rw [List.length_append]
      omega
    · show Chn ((b.vs ++ ws).take b.cm.toNat) r
      rw [List.take_append_of_le_length (by omega)]
      exact t
theorem chn_kn {a a' : P9} (hv : a'.vs = a.vs) (hc : a'.cm = a.cm) (h0 : 0 ≤ a'.kn) (h1 : a'.kn ≤ a'.cm) : ∀ {pre : List P9} {hd : List V} {post : List P9}, Chn hd (pre ++ a :: post) → Chn hd (pre ++ a' :: post)
  | [], hd, post, ⟨e, _, _, cl, t⟩ => ⟨hv.trans e, h0, h1, by rw [hc]; exact cl, by rw [hc]; exact t⟩
  | b :: pre, hd, post, ⟨e, k0, kc, cl, t⟩ => ⟨e, k0, kc, cl, chn_kn hv hc h0 h1 t⟩
theorem chn_cm {a a' : P9} {ws : List V} (hv : a'.vs = a.vs) (hk : a'.kn = a.kn) (hc : a.cm ≤ a'.cm) (hl : a'.cm ≤ a.vs.length) (hw : a.vs.take a.cm.toNat ++ ws = a.vs.take a'.cm.toNat) :
    ∀ {pre : List P9} {hd : List V} {post : List P9}, Chn hd (pre ++ a :: post) → Chn hd (pre ++ a' :: addTo ws post)
  | [], hd, post, ⟨e, k0, kc, cl, t⟩ => by
    subst e
    refine ⟨hv, by rw [hk]; exact k0, by rw [hk]; omega, hl, ?_⟩
    rw [← hw]
    exact chn_add t
  | b :: pre, hd, post, ⟨e, k0, kc, cl, t⟩ => ⟨e, k0, kc, cl, chn_cm hv hk hc hl hw t⟩
theorem chn_mem : ∀ {hd : List V} {ps : List P9} {a : P9}, Chn hd ps → a ∈ ps → 0 ≤ a.kn ∧ a.kn ≤ a.cm ∧ a.cm ≤ a.vs.length ∧ a.vs = hd.take a.vs.length ∧ a.vs.length ≤ hd.length
  | _, [], _, _, h => absurd h List.not_mem_nil
  | hd, b :: ps, a, ⟨e, k0, kc, cl, t⟩, h => by
    rcases List.mem_cons.mp h with rfl | h
    · subst e
      exact ⟨k0, kc, cl, (List.take_length).symm, Nat.le_refl _⟩
    · obtain ⟨q1, q2, q3, q4, q5⟩ := chn_mem t h
      rw [List.length_take] at q5
      refine ⟨q1, q2, q3, ?_, by omega⟩
      rw [List.take_take, Nat.min_eq_left (by omega)] at q4
      exact q4
/-- what comes new by a letter -/
theorem take_step {vs rows : List V} {f c : Int} (f0 : 0 ≤ f) (fc : f ≤ c) (cv : c ≤ vs.length) (hr : rows = (vs.drop f.toNat).take rows.length) (hl : f + rows.length ≤ vs.length) :
    vs.take c.toNat ++ rows.drop (c - f).toNat = vs.take (c + ((rows.drop (c - f).toNat).length : Int)).toNat := by
  have e1 : rows.drop (c - f).toNat = (vs.drop c.toNat).take (rows.length - (c - f).toNat) := by
    rw [hr, List.drop_take, List.drop_drop, ← hr, show f.toNat + (c - f).toNat = c.toNat by omega]
  have e2 : (rows.drop (c - f).toNat).length = rows.length - (c - f).toNat := List.length_drop
  rw [e2, e1, show (c + ((rows.length - (c - f).toNat : Nat) : Int)).toNat = c.toNat + (rows.length - (c - f).toNat) by omega, List.take_add]
theorem drop_max {vs : List V} {k h : Int} (k0 : 0 ≤ k) : (vs.drop k.toNat).drop (h - k).toNat = vs.drop (if k < h then h else k).toNat := by
  rw [List.drop_drop]
  split
  · rw [show k.toNat + (h - k).toNat = h.toNat by omega]
  · rw [show k.toNat + (h - k).toNat = k.toNat by omega]
theorem eqv_nil (ds : List PyData) : PyData.eqv (.list ds) (.list []) = ds.isEmpty := by
  cases ds <;> rfl
/-- a letter of the pair's head, or of its end -/
def LK1 (a : P9) (f h : Int) (rows : List V) : Prop := h = 0 ∧ f ≤ a.kn ∧ rows = (a.vs.drop f.toNat).take rows.length ∧ f + rows.length ≤ a.vs.length
def LK0 (a : P9) (f h : Int) (rows : List V) : Prop := f = 0 ∧ rows = [] ∧ h ≤ a.cm
theorem ite_ndec {c A B : Prop} [Decidable c] (hc : ¬ c) (h : B) : if decide c = true then A else B := by
  rw [if_neg (by rw [decide_eq_false hc]; decide)]
  exact h
theorem v01 : ¬ (V.int 0 = V.int 1) := fun z => absurd (V.int.inj z) (by decide)
def spBrought (C : Addr) : Sp := fun vs H Q _ => ∃ (prl cl c lb : Addr) (ks ts hd : List V) (pre post : List P9) (a : P9) (side f h : Int) (rows : List V) (R : List (Addr × HO)),
  vs = [.ref prl, .ref cl, .int (pre.length : Nat), .int side, .ref c] ∧ Has H (((prl, .lst ks) :: (cl, .lst ts) :: R) ++ flat C (pre ++ a :: post)) ∧ ks = kl (pre ++ a :: post) ∧ ts = tls (pre ++ a :: post) ∧
  Chn hd (pre ++ a :: post) ∧ hd.length ≤ 200 ∧ Rows H hd ∧ Let H c lb f h rows ∧
  ((side = 1 ∧ LK1 a f h rows ∧ ∀ (H' : Hp) (a' : P9) (ws : List V), a' = { a with cm := a.cm + ((rows.drop (a.cm - f).toNat).length : Nat), l1 := a'.l1 } → ws = rows.drop (a.cm - f).toNat →
      Has H' (((prl, .lst ks) :: (cl, .lst ts) :: R) ++ flat C (pre ++ a' :: addTo ws post)) → Tk H H' → Q (.bl true) H') ∨
   (side = 0 ∧ LK0 a f h rows ∧ ∀ (H' : Hp) (a' : P9), a' = { a with kn := if a.kn < h then h else a.kn, l0 := a'.l0 } →
      Has H' (((prl, .lst ks) :: (cl, .lst ts) :: R) ++ flat C (pre ++ a' :: post)) → Tk H H' → Q (.bl true) H'))
section
variable {P : Program} {w : World} {K : PySem.W.Frag} {mg : Str → Option Value} {base : Heap} {C fI : Addr} {fdI : FuncData} {tR : Tok}
theorem ok_l_brought_on {f f1 f2 f3 f4 f5 : Addr} {fd fd1 fd2 fd3 fd4 fd5 : FuncData} (D : De K mg "_law_brought_on" s_l_brought_on ["_law_pairs", "_law_came", "_law_k", "_law_side", "_law_letter"] f fd) (B : Bl mg) (W : Wc K mg C fI fdI tR)
    (D_is_whole : De K mg "is_whole" s_is_whole ["thing"] f1 fd1) (D_is_count : De K mg "is_count" s_is_count ["thing"] f2 fd2) (D_is_letter : De K mg "is_letter" s_is_letter ["thing"] f3 fd3)
    (M_take : Me K C "take" "Wire.take" s_Wire_take ["self", "letter"] f4 fd4) (M_put : Me K C "put" "Wire.put" s_Wire_put ["self", "row"] f5 fd5) :
    FnOk P w K mg base CX0 5 f fd ["_law_pairs", "_law_came", "_law_k", "_law_side", "_law_letter"] (spBrought C) := by
  have G_Wire_take := ok_Wire_take (P := P) (w := w) (base := base) M_take W B D_is_whole D_is_count D_is_letter
  have G_Wire_put := ok_Wire_put (P := P) (w := w) (base := base) M_put W B
  refine D.F.ok sc_l_brought_on (fun vs H Q E h => ?_) (fun cdv A outer s H vs Q E hr h => ?_)
  · obtain ⟨prl, cl, c, lb, ks, ts, hd, pre, post, a, side, f, h, rows, R, rfl, _⟩ := h
    rfl
  · obtain ⟨prl, cl, c, lb, ks, ts, hd, pre, post, a, side, f, h, rows, R, rfl, hh, eks, ets, ch, hl, rw_, L, z⟩ := h
    refine ⟨_, (pss_cons (ps_set (i := 5) sc_l_brought_on.nd rfl (Or.inl rfl) (pe_meth (pe_ix (ix_listE (K := K) rfl) (pe_ix (ix_listE (K := K) rfl) (pv 0) (pv 2) (fun _ _ => rfl)) (pv 3) (fun _ _ => rfl)) W.cl M_take.m G_Wire_take (hr.mono (by decide)) M_take.b .nil pass0 (pa_cons (pv 4) pa_nil)))
      (pss_cons (ps_if (pt_cmpR op_eq (pv 3) pe_int (nomark _))
        (pss_cons (ps_expr (pe_bm PySem.F.plainAttrs_list PySem.F.slot_list_extend PySem.F.type_list_extend mt_extend (pe_ix (ix_listE (K := K) rfl) (pv 1) (pv 2) (fun _ _ => rfl)) (pa_cons (pv 5) pa_nil)))
        (pss_one (ps_if (pt_cmpR op_lt (pe_op op_add (pv 2) pe_int) (pe_callB (call_lenE (K := K) rfl) (by rfl) B.b_len (by decide +kernel) (pa_cons (pv 0) pa_nil)) (nomark _))
          (pss_one (ps_for PassesOwn.never rfl (pi_list (pv 5)) (pg_name (i := 6) sc_l_brought_on.nd rfl (Or.inl rfl))
            (pss_one (ps_expr (pe_meth (pe_ix (ix_listE (K := K) rfl) (pe_ix (ix_listE (K := K) rfl) (pv 0) (pe_op op_add (pv 2) pe_int) (fun _ _ => rfl)) pe_int (fun _ _ => rfl)) W.cl M_put.m G_Wire_put (hr.mono (by decide)) M_put.b .nil pass0 (pa_cons (pv 6) pa_nil))))))
          pss_nil)))
        pss_nil)
      (pss_one (ps_ret (pe_or (pe_cmpR op_eq (pv 3) pe_int (nomark _)) (pe_one (pe_cmpR (op_eqE (K := K) rfl hr.units) (pv 5) (pe_lst pa_nil) (nomark _)))))))), ?_⟩
    obtain ⟨k0, kc, cv, va, vl⟩ := chn_mem ch (List.mem_append_right pre List.mem_cons_self)
    have hf := focus hh
    -- 0 x0, 1 l0, 2 x1, 3 l1, 4 pj, 5 t, 6 prl, 7 cl
    have hak : atI ks ((pre.length : Nat) : Int) = some (.ref a.pj) := by rw [eks]; exact at_kl
    have hat : atI ts ((pre.length : Nat) : Int) = some (.ref a.t) := by rw [ets]; exact at_tls
    have f0 := L.f0
    have h0 := L.h0
    rcases z with ⟨rfl, lk, k⟩ | ⟨rfl, lk, k⟩
    · obtain ⟨rfl, lf, lr, ll⟩ := lk
      refine ⟨_, rfl, _, rfl, prl, _, _, _, rfl, rfl, SqL.of (hf.at 6 rfl), hak, _, rfl, a.pj, _, _, _, rfl, rfl, SqL.of (hf.at 4 rfl), rfl, a.x1, a.d1, _, rfl, hf.at 2 rfl, wFs_no _ _ _ (by decide +kernel) (by decide +kernel) (by decide +kernel), _, rfl, ?_⟩
      refine ⟨a.x1, a.d1, a.l1, c, lb, 0, a.cm, f, 0, _, rows, _, rfl, hf.pre (xs := [_, _, _, _, _, _, _, _]) [2, 3, 0, 1, 4, 5, 6, 7], L, by omega, by omega, fun fo l' HB hB kB => ?_⟩
      obtain ⟨ws, ew⟩ : ∃ ws, ws = rows.drop (a.cm - f).toNat := ⟨_, rfl⟩
      have st := take_step f0 (show f ≤ a.cm by omega) cv lr ll
      rw [← ew] at hB k st
      -- 0 fo, 1 x1, 2 l1, 3 x0, 4 l0, 5 pj, 6 t, 7 prl, 8 cl
      refine ⟨_, rfl, rfl, _, rfl, ?_⟩
      refine ite_dec rfl ?_
      have lw : ws.length ≤ a.vs.length := by rw [ew, List.length_drop]; omega
      have lw2 : a.cm + (ws.length : Int) ≤ a.vs.length := by rw [ew, List.length_drop]; omega
      refine ⟨_, rfl, _, rfl, cl, _, _, _, rfl, rfl, SqL.of (hB.at 8 rfl), hat, .inl ⟨rfl, _, SqL.of (hB.at 6 rfl)⟩, _, rfl, ?_⟩
      refine ⟨a.t, fo, _, ws, rfl, rfl, hB.at 6 rfl, hB.head, (by rw [List.length_take]; exact Nat.le_of_lt (small1000 (by omega))), ?_⟩
      rw [st]
      have hC := (hB.pre (xs := [_, _, _, _, _, _, _, _, _]) [6, 0, 1, 2, 3, 4, 5, 7, 8]).put (u := .lst (a.vs.take (a.cm + (ws.length : Int)).toNat))
      have kC := Tk.lst (u := .lst (a.vs.take (a.cm + (ws.length : Int)).toNat)) (hB.at 6 rfl)
      generalize upd HB a.t (.lst (a.vs.take (a.cm + (ws.length : Int)).toNat)) = HC at hC kC ⊢
      have kD := kB.trans kC
      -- 0 t, 1 fo, 2 x1, 3 l1, 4 x0, 5 l0, 6 pj, 7 prl, 8 cl
      obtain ⟨a', ea⟩ : ∃ a' : P9, a' = { a with cm := a.cm + (ws.length : Nat), l1 := l' } := ⟨_, rfl⟩
      have ea' : a' = { a with cm := a.cm + (ws.length : Nat), l1 := a'.l1 } := by rw [ea]
      have hE : Has HC (((fo, .lst ws) :: (prl, .lst ks) :: (cl, .lst ts) :: R) ++ flat C (pre ++ a' :: post)) := by
        refine unfocus ?_
        rw [ea]
        exact hC.pre (xs := [_, _, _, _, _, _, _, _, _]) [4, 5, 2, 3, 6, 0, 1, 7, 8]
      clear hC hB hf hh
      refine ⟨_, rfl, _, _, rfl, rfl, _, rfl, prl, _, rfl, .inl (SqL.of (hE.at 1 rfl)), _, _, rfl, rfl, _, rfl, ?_⟩
      have lk : ks.length = pre.length + 1 + post.length := by
        rw [eks]
        unfold kl
        rw [List.length_map, List.length_append, List.length_cons]
        omega
      cases post with
      | nil =>
        refine ite_ndec (by rw [lk, List.length_nil]; omega) ?_
        refine ⟨_, rfl, rfl, _, rfl, ?_⟩
        refine ite_dec rfl ?_
        exact k HC a' ws ea' rfl hE.tail kD
      | cons b r =>
        refine ite_dec (by rw [lk, List.length_cons]; omega) ?_
        have hkb : atI ks ((pre.length : Nat) + 1 : Int) = some (.ref b.pj) := by
          rw [eks, show pre ++ a :: b :: r = (pre ++ [a]) ++ b :: r by rw [List.append_assoc]; rfl, show ((pre.length : Nat) + 1 : Int) = (((pre ++ [a]).length : Nat) : Int) by rw [List.length_append, List.length_singleton]; omega]
          exact at_kl
        have eb : pre ++ a' :: b :: r = (pre ++ [a']) ++ b :: r := by rw [List.append_assoc]; rfl
        rw [eb] at hE
        have chb := chn_mem ch (List.mem_append_right pre (List.mem_cons_of_mem _ List.mem_cons_self))
        obtain ⟨kb0, kbc, cvb, vb, vlb⟩ := chb
        have hF := focus hE
        -- 0 x0, 1 l0, 2 x1, 3 l1, 4 pj, 5 t, 6 fo, 7 prl, 8 cl
        refine ⟨_, rfl, fo, rfl, ⟨_, SqL.of (hF.at 6 rfl)⟩, for_list (K := K) (a := fo) (xs := ws) (fun i σ H2 => ∃ v6 : Option V, σ = [some (.ref prl), some (.ref cl), some (.int (pre.length : Nat)), some (.int 1), some (.ref c), some (.ref fo), v6] ∧
          Has H2 (P9.os C { b with vs := b.vs ++ ws.take i } ++ (((fo, .lst ws) :: (prl, .lst ks) :: (cl, .lst ts) :: R) ++ flat C ((pre ++ [a']) ++ r))) ∧ Tk H H2) ?_ ?_ ?_ ?_⟩
        · refine ⟨none, rfl, ?_, kD⟩
          rw [List.take_zero, List.append_nil]
          exact hF
        · rintro i σ H2 _ ⟨_, _, h2, _⟩
          exact SqL.of (h2.at 6 rfl)
        · rintro i y σ H2 hy ⟨v6, rfl, h2, k2⟩
          have hi := (List.getElem?_eq_some_iff.mp hy).1
          have lt : (ws.take i).length = i := by rw [List.length_take]; omega
          refine ⟨_, rfl, _, rfl, _, _, rfl, rfl, prl, _, _, _, rfl, rfl, SqL.of (h2.at 7 rfl), hkb, b.pj, _, _, _, rfl, rfl, SqL.of (h2.at 4 rfl), rfl, b.x0, b.d0, _, rfl, h2.at 0 rfl, wFs_no _ _ _ (by decide +kernel) (by decide +kernel) (by decide +kernel), _, rfl, ?_⟩
          refine ⟨b.x0, b.d0, b.l0, b.kn, 0, _, y, _, rfl, h2.pre (xs := [_, _]) [0, 1], (by show ((b.vs ++ ws.take i).drop b.kn.toNat).length < 1000; rw [List.length_drop, List.length_append]; omega), fun H3 h3 k3 => ?_⟩
          refine ⟨_, rfl, ?_, k2.trans k3⟩
          have e1 : (b.vs ++ ws.take i).drop b.kn.toNat ++ [y] = (b.vs ++ ws.take (i + 1)).drop b.kn.toNat := by
            rw [List.take_succ, hy, ← List.append_assoc, List.drop_append_of_le_length (l₁ := b.vs ++ ws.take i) (by rw [List.length_append]; omega)]
            rfl
          have e2 : (b.vs ++ ws.take i).take b.cm.toNat = (b.vs ++ ws.take (i + 1)).take b.cm.toNat := by
            rw [List.take_append_of_le_length (by omega), List.take_append_of_le_length (by omega)]
          have h4 := h3
          rw [show (P9.vs { b with vs := b.vs ++ ws.take i }) = b.vs ++ ws.take i from rfl, e1] at h4
          unfold P9.os
          dsimp only
          rw [← e2]
          exact h4
        · rintro σ H2 ⟨v6, rfl, h2, k2⟩
          rw [List.take_length] at h2
          refine ⟨_, rfl, rfl, _, rfl, ?_⟩
          refine ite_dec rfl ?_
          refine k H2 a' ws ea' rfl ?_ k2
          have h5 := (unfocus h2).tail
          rw [List.append_assoc] at h5
          exact h5
    · obtain ⟨rfl, rfl, lh⟩ := lk
      refine ⟨_, rfl, _, rfl, prl, _, _, _, rfl, rfl, SqL.of (hf.at 6 rfl), hak, _, rfl, a.pj, _, _, _, rfl, rfl, SqL.of (hf.at 4 rfl), rfl, a.x0, a.d0, _, rfl, hf.at 0 rfl, wFs_no _ _ _ (by decide +kernel) (by decide +kernel) (by decide +kernel), _, rfl, ?_⟩
      refine ⟨a.x0, a.d0, a.l0, c, lb, a.kn, 0, 0, h, _, [], _, rfl, hf.pre (xs := [_, _, _, _, _, _, _, _]) [0, 1, 2, 3, 4, 5, 6, 7], L, Int.le_refl _, (by rw [List.length_drop]; omega), fun fo l' HB hB kB => ?_⟩
      rw [drop_max k0, show (0 : Int) + ((([] : List V).drop (0 - 0 : Int).toNat).length : Int) = 0 from rfl] at hB
      refine ⟨_, rfl, rfl, _, rfl, ?_⟩
      refine ite_ndec v01 ?_
      refine ⟨_, rfl, rfl, _, rfl, ?_⟩
      refine ite_ndec v01 ?_
      refine ⟨_, rfl, (by show 0 ≤ sizeLine; decide), fun em hem => ?_⟩
      have hC := hB.over (o := .lst []) hem
      refine ⟨.list [], .list [], .lst (SqL.of hC.head) .nil, .lst (SqL.of upd_same) .nil, rfl, rfl, ?_⟩
      refine k _ { a with kn := if a.kn < h then h else a.kn, l0 := l' } rfl ?_ (kB.trans (Tk.new hem))
      exact unfocus (C := C) (a := { a with kn := if a.kn < h then h else a.kn, l0 := l' }) (X := (prl, .lst ks) :: (cl, .lst ts) :: R) hC.tail
end
end Fc

set_option Elab.async false
set_option linter.all false
set_option maxRecDepth 100000
set_option maxHeartbeats 16000000
namespace Fc
open PySem L2
/-! ### what only grows -/
def Grew (a a' : P9) : Prop := a.kn ≤ a'.kn ∧ a.cm ≤ a'.cm ∧ ∃ ws, a'.vs = a.vs ++ ws
theorem Grew.refl (a : P9) : Grew a a := ⟨Int.le_refl _, Int.le_refl _, [], (List.append_nil _).symm⟩
def Grows : List P9 → List P9 → Prop
  | [], [] => True
  | a :: ps, b :: qs => Grew a b ∧ Grows ps qs
  | _, _ => False
theorem Grows.refl : ∀ ps : List P9, Grows ps ps
  | [] => trivial
  | a :: ps => ⟨Grew.refl a, Grows.refl ps⟩
theorem grows_add {ws : List V} : ∀ {ps : List P9}, Grows ps (addTo ws ps)
  | [] => trivial
  | b :: r => ⟨⟨Int.le_refl _, Int.le_refl _, ws, rfl⟩, Grows.refl r⟩
theorem grows_mid {a a' : P9} {post post' : List P9} (ga : Grew a a') (gp : Grows post post') : ∀ {pre : List P9}, Grows (pre ++ a :: post) (pre ++ a' :: post')
  | [] => ⟨ga, gp⟩
  | b :: pre => ⟨Grew.refl b, grows_mid ga gp⟩
theorem Grows.get : ∀ {ps qs : List P9} {k : Nat} {a : P9}, Grows ps qs → ps[k]? = some a → ∃ a', qs[k]? = some a' ∧ Grew a a'
  | [], [], _, _, _, h => by rw [List.getElem?_nil] at h; cases h
  | a :: ps, b :: qs, 0, c, ⟨g, _⟩, h => by
    cases h
    exact ⟨b, rfl, g⟩
  | a :: ps, b :: qs, k + 1, c, ⟨_, t⟩, h => Grows.get (ps := ps) (qs := qs) (k := k) t (by rw [List.getElem?_cons_succ] at h; exact h)
  | [], _ :: _, _, _, z, _ => z.elim
  | _ :: _, [], _, _, z, _ => z.elim
theorem Grows.len : ∀ {ps qs : List P9}, Grows ps qs → qs.length = ps.length
  | [], [], _ => rfl
  | _ :: _, _ :: _, ⟨_, t⟩ => congrArg (· + 1) t.len
  | [], _ :: _, z => z.elim
  | _ :: _, [], z => z.elim
theorem LK1.grew {a a' : P9} {f h : Int} {rows : List V} (f0 : 0 ≤ f) (g : Grew a a') (k : LK1 a f h rows) : LK1 a' f h rows := by
  obtain ⟨k1, k2, k3, k4⟩ := k
  obtain ⟨g1, g2, ws, e⟩ := g
  refine ⟨k1, Int.le_trans k2 g1, ?_, ?_⟩
  · rw [e, List.drop_append_of_le_length (by omega), List.take_append_of_le_length (by rw [List.length_drop]; omega)]
    exact k3
  · rw [e, List.length_append]
    omega
theorem LK0.grew {a a' : P9} {f h : Int} {rows : List V} (g : Grew a a') (k : LK0 a f h rows) : LK0 a' f h rows := ⟨k.1, k.2.1, Int.le_trans k.2.2 g.2.1⟩
/-! ### the net -/
def NetOk (H : Hp) (ps : List P9) (v : V) : Prop := ∃ (t c lb : Addr) (k : Nat) (to f h : Int) (rows : List V) (a : P9), v = .ref t ∧ H t = some (.tup [.int (k : Nat), .int to, .ref c]) ∧ Let H c lb f h rows ∧ ps[k]? = some a ∧ ((to = 1 ∧ LK1 a f h rows) ∨ (to = 0 ∧ LK0 a f h rows))
def Net (H : Hp) (ps : List P9) (net : List V) : Prop := ∀ v ∈ net, NetOk H ps v
theorem NetOk.keep {H H' : Hp} {ps : List P9} {v : V} (k : Tk H H') (h : NetOk H ps v) : NetOk H' ps v := by
  obtain ⟨t, c, lb, j, to, f, g, rows, a, e, ht, L, z⟩ := h
  exact ⟨t, c, lb, j, to, f, g, rows, a, e, k _ _ ht, L.keep k, z⟩
theorem NetOk.grew {H : Hp} {ps qs : List P9} {v : V} (gr : Grows ps qs) (h : NetOk H ps v) : NetOk H qs v := by
  obtain ⟨t, c, lb, j, to, f, g, rows, a, e, ht, L, ha, z⟩ := h
  obtain ⟨a', ha', ga⟩ := gr.get ha
  exact ⟨t, c, lb, j, to, f, g, rows, a', e, ht, L, ha', z.imp (fun q => ⟨q.1, q.2.grew L.f0 ga⟩) (fun q => ⟨q.1, q.2.grew ga⟩)⟩
theorem Net.keep {H H' : Hp} {ps : List P9} {net : List V} (k : Tk H H') (h : Net H ps net) : Net H' ps net := fun v hv => (h v hv).keep k
theorem Net.grew {H : Hp} {ps qs : List P9} {net : List V} (g : Grows ps qs) (h : Net H ps net) : Net H qs net := fun v hv => (h v hv).grew g
theorem net_fz {H : Hp} {hd : List V} {ps : List P9} (ch : Chn hd ps) (rh : Rows H hd) (hl : hd.length ≤ 200) (pl : ps.length ≤ 10) : ∀ {net : List V}, Net H ps net → ∃ ds, FzAll H net ds ∧ ∀ d ∈ ds, Gd (2 ^ 21) 5 d
  | [], _ => ⟨[], .nil, fun d hd => absurd hd List.not_mem_nil⟩
  | v :: net, h => by
    obtain ⟨t, c, lb, k, to, f, g, rows, a, rfl, ht, L, ha, z⟩ := h v List.mem_cons_self
    obtain ⟨es, fs, gs⟩ := net_fz ch rh hl pl fun u hu => h u (List.mem_cons_of_mem _ hu)
    obtain ⟨q1, q2, q3, q4, q5⟩ := chn_mem ch (List.mem_of_getElem? ha)
    have hk := (List.getElem?_eq_some_iff.mp ha).1
    have zz : Rows H rows ∧ f < 10 ^ 9 ∧ g < 10 ^ 9 ∧ to.natAbs < 10 := by
      rcases z with ⟨rfl, z1, z2, z3, z4⟩ | ⟨rfl, z1, z2, z3⟩
      · refine ⟨?_, by omega, by omega, by decide⟩
        rw [z3, q4]
        exact ((rh.take _).drop _).take _
      · refine ⟨?_, by omega, by omega, by decide⟩
        rw [z2]
        exact fun v hv => absurd hv List.not_mem_nil
    obtain ⟨R, hf, hg, hto⟩ := zz
    obtain ⟨ds, fz, gd⟩ := rows_fz R
    have hl := L.len
    have h1 := fz.length
    have f0 := L.f0
    have h0 := L.h0
    have gl := let_gd (f := f) (h := g) (by omega) (by omega) gd (by omega)
    refine ⟨.tuple [.int (k : Nat), .int to, letD f g ds] :: es, .cons (.tup ht (.cons (.int _) (.cons (.int _) (.cons (let_fz L.at_ L.in_ fz) .nil)))) fs, fun e he => ?_⟩
    rcases List.mem_cons.mp he with rfl | he
    · exact ((GdAll.tup (GdAll.cons ((Gd.int (by omega)).mono (Nat.le_refl _) (by decide : 0 ≤ 4)) (GdAll.cons ((Gd.int (by omega)).mono (Nat.le_refl _) (by decide : 0 ≤ 4)) (GdAll.cons gl GdAll.nil)))).mono (by decide) (Nat.le_refl _))
    · exact gs e he
/-! ### the pairs as they are made -/
structure Q9 where
  pj : Addr
  x0 : Addr
  d0 : Addr
  l0 : Addr
  x1 : Addr
  d1 : Addr
  l1 : Addr
def Q9.os (C : Addr) (a : Q9) : List (Addr × HO) := [(a.x0, .ins C a.d0 (wFs 0 a.l0 0)), (a.l0, .lst []), (a.x1, .ins C a.d1 (wFs 0 a.l1 0)), (a.l1, .lst []), (a.pj, .lst [.ref a.x0, .ref a.x1])]
def qflat (C : Addr) (qs : List Q9) : List (Addr × HO) := qs.flatMap (Q9.os C)
def ql (qs : List Q9) : List V := qs.map fun a => V.ref a.pj
def toP (q : Q9) (t : Addr) : P9 := ⟨q.pj, q.x0, q.d0, q.l0, q.x1, q.d1, q.l1, t, 0, 0, []⟩
def tos (ts : List Addr) : List (Addr × HO) := ts.map fun t => (t, HO.lst [])
def toPs : List Q9 → List Addr → List P9
  | q :: qs, t :: ts => toP q t :: toPs qs ts
  | _, _ => []
theorem toPs_perm {C : Addr} : ∀ {qs : List Q9} {ts : List Addr}, qs.length = ts.length → (flat C (toPs qs ts)).Perm (qflat C qs ++ tos ts)
  | [], [], _ => .nil
  | q :: qs, t :: ts, h => by
    have ih := toPs_perm (C := C) (qs := qs) (ts := ts) (Nat.succ.inj h)
    have e1 : flat C (toPs (q :: qs) (t :: ts)) = q.os C ++ ((t, HO.lst []) :: flat C (toPs qs ts)) := rfl
    have e2 : qflat C (q :: qs) ++ tos (t :: ts) = q.os C ++ (qflat C qs ++ ((t, HO.lst []) :: tos ts)) := by
      show (q.os C ++ qflat C qs) ++ _ = _
      rw [List.append_assoc]
      rfl
    rw [e1, e2]
    exact ((ih.cons _).trans List.perm_middle.symm).append_left _
  | [], _ :: _, h => nomatch h
  | _ :: _, [], h => nomatch h
theorem toPs_kl : ∀ {qs : List Q9} {ts : List Addr}, qs.length = ts.length → kl (toPs qs ts) = ql qs ∧ tls (toPs qs ts) = ts.map V.ref ∧ (toPs qs ts).length = qs.length ∧ Chn [] (toPs qs ts)
  | [], [], _ => ⟨rfl, rfl, rfl, trivial⟩
  | q :: qs, t :: ts, h => by
    obtain ⟨i1, i2, i3, i4⟩ := toPs_kl (qs := qs) (ts := ts) (Nat.succ.inj h)
    refine ⟨?_, ?_, congrArg (· + 1) i3, ⟨rfl, Int.le_refl _, Int.le_refl _, Int.le_refl _, i4⟩⟩
    · show V.ref q.pj :: kl (toPs qs ts) = V.ref q.pj :: ql qs
      rw [i1]
    · show V.ref t :: tls (toPs qs ts) = V.ref t :: ts.map V.ref
      rw [i2]
  | [], _ :: _, h => nomatch h
  | _ :: _, [], h => nomatch h
/-! ### all was taken and heard -/
def FullAll (hd : List V) (pre : List P9) : Prop := ∀ a ∈ pre, a.vs = hd ∧ a.kn = hd.length ∧ a.cm = hd.length
theorem full_next {hd : List V} : ∀ {pre : List P9} {a : P9} {post : List P9}, FullAll hd pre → Chn hd (pre ++ a :: post) → a.vs = hd
  | [], a, post, _, ⟨e, _⟩ => e
  | b :: pre, a, post, hf, ⟨e, k0, kc, cl, t⟩ => by
    obtain ⟨f1, f2, f3⟩ := hf b List.mem_cons_self
    rw [f3, Int.toNat_natCast, List.take_length] at t
    exact full_next (fun c hc => hf c (List.mem_cons_of_mem _ hc)) t
theorem split_at {ps : List P9} {k : Nat} {a : P9} (h : ps[k]? = some a) : ∃ pre post, ps = pre ++ a :: post ∧ pre.length = k := by
  obtain ⟨hk, e⟩ := List.getElem?_eq_some_iff.mp h
  refine ⟨ps.take k, ps.drop (k + 1), ?_, by rw [List.length_take]; omega⟩
  rw [← e, List.getElem_cons_drop, List.take_append_drop]
theorem getP {ps : List P9} {g : P9 → V} {i : Nat} {x : V} (h : (ps.map g)[i]? = some x) : ∃ a, ps[i]? = some a ∧ x = g a := by
  rw [List.getElem?_map] at h
  cases e : ps[i]? with
  | none => rw [e] at h; cases h
  | some a => rw [e] at h; exact ⟨a, rfl, (Option.some.inj h).symm⟩
def X9 (p prl cl hl nl : Addr) (z : Pen) (ks ts hd net : List V) : List (Addr × HO) := z.os p ++ [(prl, .lst ks), (cl, .lst ts), (hl, .lst hd), (nl, .lst net)]
structure St9 (C p prl cl hl nl : Addr) (ks ts : List V) (n : Nat) (z : Pen) (ps : List P9) (hd net : List V) (H : Hp) : Prop where
  has : Has H (X9 p prl cl hl nl z ks ts hd net ++ flat C ps)
  ek : ks = kl ps
  et : ts = tls ps
  pl : ps.length = n
  ch : Chn hd ps
  rh : Rows H hd
  nt : Net H ps net
theorem St9.keep {C p prl cl hl nl : Addr} {ks ts : List V} {n : Nat} {z : Pen} {ps : List P9} {hd net : List V} {H H' : Hp} (s : St9 C p prl cl hl nl ks ts n z ps hd net H) (k : Same H H') : St9 C p prl cl hl nl ks ts n z ps hd net H' :=
  ⟨s.has.same k, s.ek, s.et, s.pl, s.ch, s.rh.keep (same_tk k), s.nt.keep (same_tk k)⟩
theorem St9.tAt {C p prl cl hl nl : Addr} {ks ts : List V} {n : Nat} {z : Pen} {ps : List P9} {hd net : List V} {H : Hp} (s : St9 C p prl cl hl nl ks ts n z ps hd net H) {a : P9} (h : a ∈ ps) : H a.t = some (.lst (a.vs.take a.cm.toNat)) :=
  s.has.get (a.t, .lst (a.vs.take a.cm.toNat)) (List.mem_append_right _ (List.mem_flatMap.mpr ⟨a, h, List.mem_of_getElem? (i := 5) rfl⟩))
def Mid9 (C p prl cl hl nl : Addr) (ks ts : List V) (n m j : Nat) (H : Hp) : Prop := ∃ (z : Pen) (ps : List P9) (hd net : List V), St9 C p prl cl hl nl ks ts n z ps hd net H ∧ hd.length ≤ j ∧ net.length ≤ j ∧ z.Ok m
theorem lst_fz {K : PySem.W.Frag} {H : Hp} {l : Addr} {vs : List V} (hl : H l = some (.lst vs)) (r : Rows H vs) (n : vs.length ≤ 1000) : ∃ ds, FzAll H vs ds ∧ (∀ d ∈ ds, Gd 80 2 d) ∧ Dp K H (.ref l) (.list ds) ∧ Gd (2 ^ 20) 60 (.list ds) := by
  obtain ⟨ds, fz, gd⟩ := rows_fz r
  have e := fz.length
  exact ⟨ds, fz, gd, .lst (SqL.of hl) fz.dp, lst_gd gd (by omega)⟩
def spLaw (K : PySem.W.Frag) : Sp := fun vs H Q _ => ∃ (a : Addr) (ns : List Int), vs = [.ref a] ∧ SqL K H a (ns.map V.int) ∧ ns.length ≤ 63 ∧ ∀ H', Q (.bl true) H'
section
variable {P : Program} {w : World} {K : PySem.W.Frag} {mg : Str → Option Value} {base : Heap} {C fI : Addr} {fdI : FuncData} {tR : Tok}
theorem ok_law {f : Addr} {fd : FuncData} {g1 g2 g3 g4 g5 g6 g7 g8 g9 g10 g11 g12 g13 g14 : Addr} {d1 d2 d3 d4 d5 d6 d7 d8 d9 d10 d11 d12 d13 d14 : FuncData}
    (D : De K mg "law" s_law ["_law_script"] f fd) (B : Bl mg) (W : Wc K mg C fI fdI tR)
    (D_l_pen : De K mg "_law_pen" s_l_pen ["_law_script"] g1 d1) (D_l_draw : De K mg "_law_draw" s_l_draw ["_law_pen_here", "_law_many"] g2 d2) (D_l_pick : De K mg "_law_pick" s_l_pick ["_law_pen_here", "_law_some"] g3 d3)
    (D_l_plain : De K mg "_law_plain" s_l_plain ["_law_pen_here"] g4 d4) (D_l_row_of : De K mg "_law_row_of" s_l_row_of ["_law_pen_here"] g5 d5)
    (D_l_brought_on : De K mg "_law_brought_on" s_l_brought_on ["_law_pairs", "_law_came", "_law_k", "_law_side", "_law_letter"] g6 d6) (D_is_whole : De K mg "is_whole" s_is_whole ["thing"] g7 d7) (D_is_count : De K mg "is_count" s_is_count ["thing"] g8 d8)
    (D_is_letter : De K mg "is_letter" s_is_letter ["thing"] g9 d9) (M_put : Me K C "put" "Wire.put" s_Wire_put ["self", "row"] g10 d10) (M_letter : Me K C "letter" "Wire.letter" s_Wire_letter ["self"] g11 d11)
    (M_take : Me K C "take" "Wire.take" s_Wire_take ["self", "letter"] g12 d12) (M_heard : Me K C "heard" "Wire.heard" s_Wire_heard ["self"] g13 d13) (M_len : Me K C "__len__" "Wire.__len__" s_Wire_len ["self"] g14 d14) :
    FnG P w K mg base CX0 6 f fd ["_law_script"] (spLaw K) := by
  have G_l_pen := ok_l_pen (P := P) (w := w) (base := base) D_l_pen B
  have G_l_draw := ok_l_draw (P := P) (w := w) (base := base) D_l_draw B
  have G_l_row_of := ok_l_row_of (P := P) (w := w) (base := base) D_l_row_of B D_l_draw D_l_pick D_l_plain
  have G_l_brought_on := ok_l_brought_on (P := P) (w := w) (base := base) D_l_brought_on B W D_is_whole D_is_count D_is_letter M_take M_put
  have G_Wire_init := ok_Wire_init (P := P) (w := w) (base := base) W
  have G_Wire_put := ok_Wire_put (P := P) (w := w) (base := base) M_put W B
  have G_Wire_letter := ok_Wire_letter (P := P) (w := w) (base := base) M_letter W B
  have G_Wire_heard := ok_Wire_heard (P := P) (w := w) (base := base) M_heard W
  have G_Wire_len := ok_Wire_len (P := P) (w := w) (base := base) M_len W B
  refine fun_okG D.F sc_law (fun vs H Q E h => ?_) (fun cdv A outer s H vs Q E hg hr h => ?_)
  · obtain ⟨a, ns, rfl, _⟩ := h
    rfl
  · obtain ⟨sc, ns, rfl, hS, hn, k⟩ := h
    have hu := hu_of hr
    refine ⟨_, (pss_cons (ps_set (i := 1) sc_law.nd rfl (Or.inl rfl) (pe_call G_l_pen (hr.mono (by decide)) (by rfl) D_l_pen.g D_l_pen.F.kp D_l_pen.b .nil pass0 (pa_cons (pv 0) pa_nil)))
      (pss_cons (ps_for PassesOwn.never rfl (pi_range1 (by rfl) B.b_range (pa_cons pe_int pa_nil)) (pg_name (i := 2) sc_law.nd rfl (Or.inl rfl))
        (pss_cons (ps_setLc (i := 3) (own := [("_law_k", 4)]) (g := gName 4) (tt := tYes) rfl sc_law.nd rfl rfl (sw_true rfl rfl rfl (by decide +kernel)) (pi_range1 (by rfl) B.b_range (pa_cons (pe_op op_add pe_int (pe_call G_l_draw (hr.mono (by decide)) (by rfl) D_l_draw.g D_l_draw.F.kp D_l_draw.b .nil pass0 (pa_cons (pv 1) (pa_cons pe_int pa_nil)))) pa_nil)) (blkOk_by (own := [("_law_k", 4)]) (N := N_law) (sc := defScope s_law) (by decide +kernel)) (fun _ _ _ _ _ => pg_name (i := 4) sc_law.nd rfl (Or.inl rfl)) (fun _ _ _ _ _ => pts_nil) (fun _ _ _ _ _ => (pe_lst (pa_cons (pe_make0 W.mk_ G_Wire_init (hr.mono (by decide)) rfl W.g W.b_init .nil pass0) (pa_cons (pe_make0 W.mk_ G_Wire_init (hr.mono (by decide)) rfl W.g W.b_init .nil pass0) pa_nil)))))
        (pss_cons (ps_asg (pe_tup (pa_cons (pe_lst pa_nil) (pa_cons (pe_lc (own := [("_law_pair", 8)]) (g := gName 8) (tt := tYes) rfl sc_law.nd (pi_list (pv 3)) (blkOk_by (own := [("_law_pair", 8)]) (N := N_law) (sc := defScope s_law) (by decide +kernel)) (fun _ _ _ _ _ => pg_name (i := 8) sc_law.nd rfl (Or.inl rfl)) (fun _ _ _ _ _ => pts_nil) (fun _ _ _ _ _ => (pe_lst pa_nil))) (pa_cons (pe_lst pa_nil) pa_nil)))) (pg_tup rfl (pgs_cons (pg_name (i := 5) sc_law.nd rfl (Or.inr rfl)) (pgs_cons (pg_name (i := 6) sc_law.nd rfl (Or.inl rfl)) (pgs_cons (pg_name (i := 7) sc_law.nd rfl (Or.inl rfl)) pgs_nil)))))
        (pss_cons (ps_for PassesOwn.never rfl (pi_range1 (by rfl) B.b_range (pa_cons (pe_op op_add pe_int (pe_call G_l_draw (hr.mono (by decide)) (by rfl) D_l_draw.g D_l_draw.F.kp D_l_draw.b .nil pass0 (pa_cons (pv 1) (pa_cons pe_int pa_nil)))) pa_nil)) (pg_name (i := 9) sc_law.nd rfl (Or.inl rfl))
          (pss_cons (ps_par (i := 10) (j := 4) (by rfl) sc_law.nd rfl rfl (by decide) rfl rfl (pa_cons (pe_call G_l_draw (hr.mono (by decide)) (by rfl) D_l_draw.g D_l_draw.F.kp D_l_draw.b .nil pass0 (pa_cons (pv 1) (pa_cons pe_int pa_nil))) (pa_cons (pe_call G_l_draw (hr.mono (by decide)) (by rfl) D_l_draw.g D_l_draw.F.kp D_l_draw.b .nil pass0 (pa_cons (pv 1) (pa_cons (pe_callB (call_lenE (K := K) rfl) (by rfl) B.b_len (by decide +kernel) (pa_cons (pv 3) pa_nil)) pa_nil))) pa_nil)) (by rfl))
          (C8.pss_cut (ps_if (pt_cmpR op_lt (pv 10) pe_int (nomark _))
            (pss_cons (ps_expr (pe_bm PySem.F.plainAttrs_list PySem.F.slot_list_append PySem.F.type_list_append mt_append (pv 5) (pa_cons (pe_op op_catX (pe_tup (pa_cons (pv 9) pa_nil)) (pe_call G_l_row_of (hr.mono (by decide)) (by rfl) D_l_row_of.g D_l_row_of.F.kp D_l_row_of.b .nil pass0 (pa_cons (pv 1) pa_nil))) pa_nil)))
            (pss_one (ps_expr (pe_meth (pe_ix (ix_listE (K := K) rfl) (pe_ix (ix_listE (K := K) rfl) (pv 3) pe_int (fun _ _ => rfl)) pe_int (fun _ _ => rfl)) W.cl M_put.m G_Wire_put (hr.mono (by decide)) M_put.b .nil pass0 (pa_cons (pe_ix (ix_listE (K := K) rfl) (pv 5) (pe_un un_neg pe_int) (fun _ _ => rfl)) pa_nil)))))
            (pss_one (ps_if (PW.pt (pw_or (pt_cmpR op_lt (pv 10) pe_int (nomark _)) (pw_or1 (pt_cmpR (op_eqE (K := K) rfl hr.units) (pv 7) (pe_lst pa_nil) (nomark _)))))
              (pss_cons (ps_set (i := 11) sc_law.nd rfl (Or.inl rfl) (pe_call G_l_draw (hr.mono (by decide)) (by rfl) D_l_draw.g D_l_draw.F.kp D_l_draw.b .nil pass0 (pa_cons (pv 1) (pa_cons pe_int pa_nil))))
              (pss_one (ps_expr (pe_bm PySem.F.plainAttrs_list PySem.F.slot_list_append PySem.F.type_list_append mt_append (pv 7) (pa_cons (pe_tup (pa_cons (pv 4) (pa_cons (pe_op op_sub pe_int (pv 11)) (pa_cons (pe_meth0 (pe_ix (ix_listE (K := K) rfl) (pe_ix (ix_listE (K := K) rfl) (pv 3) (pv 4) (fun _ _ => rfl)) (pv 11) (fun _ _ => rfl)) W.cl M_letter.m G_Wire_letter (hr.mono (by decide)) M_letter.b .nil pass0) pa_nil)))) pa_nil)))))
              (pss_cons (ps_set (i := 12) sc_law.nd rfl (Or.inl rfl) (pe_call G_l_draw (hr.mono (by decide)) (by rfl) D_l_draw.g D_l_draw.F.kp D_l_draw.b .nil pass0 (pa_cons (pv 1) (pa_cons (pe_callB (call_lenE (K := K) rfl) (by rfl) B.b_len (by decide +kernel) (pa_cons (pv 7) pa_nil)) pa_nil))))
              (pss_cons (ps_asg (pe_ix (ix_listE (K := K) rfl) (pv 7) (pv 12) (fun _ _ => rfl)) (pg_tup rfl (pgs_cons (pg_name (i := 13) sc_law.nd rfl (Or.inl rfl)) (pgs_cons (pg_name (i := 11) sc_law.nd rfl (Or.inl rfl)) (pgs_cons (pg_name (i := 14) sc_law.nd rfl (Or.inl rfl)) pgs_nil)))))
              (C8.pss_cut (ps_if (PW.pt (pw_and (pt_cmpR op_lt (pv 10) pe_int (nomark _)) (pw_and1 (pt_not (pt_val (pe_call G_l_brought_on (hr.mono (by decide)) (by rfl) D_l_brought_on.g D_l_brought_on.F.kp D_l_brought_on.b .nil pass0 (pa_cons (pv 3) (pa_cons (pv 6) (pa_cons (pv 13) (pa_cons (pv 11) (pa_cons (pv 14) pa_nil)))))))))))
                (pss_one (ps_ret pe_bl))
                pss_nil)
              (pss_one (ps_set (i := 7) sc_law.nd rfl (Or.inl rfl) (pe_op op_cat (pe_slice (sl_listE (K := K) rfl) (pv 7) po_none (po_some (pv 12))) (pe_slice (sl_listE (K := K) rfl) (pv 7) (po_some (pe_op op_add (pv 12) (pe_callTy call_int1 (by rfl) B.b_int (by decide +kernel) (pa_cons (pe_cmpR op_ne (pv 10) pe_int (nomark _)) pa_nil)))) po_none))))))))))
          (pss_cons (ps_setLc (i := 15) (own := [("_law_one", 16)]) (g := gName 16) rfl sc_law.nd rfl rfl (sw_true rfl rfl rfl (by decide +kernel)) (pi_list (pv 6)) (blkOk_by (own := [("_law_one", 16)]) (N := N_law) (sc := defScope s_law) (by decide +kernel)) (fun _ _ _ _ _ => pg_name (i := 16) sc_law.nd rfl (Or.inl rfl)) (fun _ _ _ _ _ => pts_one (pt_cmpR op_ne (pe_callB (call_reprE (K := K) rfl hg hr.units) (by rfl) B.b_repr (by decide +kernel) (pa_cons (pv 16) pa_nil)) (pe_callB (call_reprE (K := K) rfl hg hr.units) (by rfl) B.b_repr (by decide +kernel) (pa_cons (pe_slice (sl_listE (K := K) rfl) (pv 5) po_none (po_some (pe_callB (call_lenE (K := K) rfl) (by rfl) B.b_len (by decide +kernel) (pa_cons (pv 16) pa_nil)))) pa_nil)) (nomark _))) (fun _ _ _ _ _ => (pv 16)))
          (pss_one (ps_if (pt_cmpR (op_neE (K := K) rfl hr.units) (pv 15) (pe_lst pa_nil) (nomark _))
            (pss_one (ps_ret pe_bl))
            pss_nil))))))
        (pss_cons (ps_for PassesOwn.never rfl (pi_range1 (by rfl) B.b_range (pa_cons (pe_callB (call_lenE (K := K) rfl) (by rfl) B.b_len (by decide +kernel) (pa_cons (pv 3) pa_nil)) pa_nil)) (pg_name (i := 4) sc_law.nd rfl (Or.inl rfl))
          (pss_one (ps_for PassesOwn.never rfl (pi_tup (pe_tup (pa_cons pe_int (pa_cons pe_int (pa_cons pe_int (pa_cons pe_int pa_nil)))))) (pg_name (i := 11) sc_law.nd rfl (Or.inl rfl))
            (pss_one (ps_if (pt_not (pt_val (pe_call G_l_brought_on (hr.mono (by decide)) (by rfl) D_l_brought_on.g D_l_brought_on.F.kp D_l_brought_on.b .nil pass0 (pa_cons (pv 3) (pa_cons (pv 6) (pa_cons (pv 4) (pa_cons (pv 11) (pa_cons (pe_meth0 (pe_ix (ix_listE (K := K) rfl) (pe_ix (ix_listE (K := K) rfl) (pv 3) (pv 4) (fun _ _ => rfl)) (pe_op op_sub pe_int (pv 11)) (fun _ _ => rfl)) W.cl M_letter.m G_Wire_letter (hr.mono (by decide)) M_letter.b .nil pass0) pa_nil))))))))
              (pss_one (ps_ret pe_bl))
              pss_nil)))))
        (pss_cons (ps_if (pt_cmpR (op_neE (K := K) rfl hr.units) (pe_lc (own := [("_law_one", 16)]) (g := gName 16) rfl sc_law.nd (pi_list (pv 6)) (blkOk_by (own := [("_law_one", 16)]) (N := N_law) (sc := defScope s_law) (by decide +kernel)) (fun _ _ _ _ _ => pg_name (i := 16) sc_law.nd rfl (Or.inl rfl)) (fun _ _ _ _ _ => pts_one (pt_cmpR op_ne (pe_callB (call_reprE (K := K) rfl hg hr.units) (by rfl) B.b_repr (by decide +kernel) (pa_cons (pv 16) pa_nil)) (pe_callB (call_reprE (K := K) rfl hg hr.units) (by rfl) B.b_repr (by decide +kernel) (pa_cons (pv 5) pa_nil)) (nomark _))) (fun _ _ _ _ _ => (pv 16))) (pe_lst pa_nil) (nomark _))
          (pss_one (ps_ret pe_bl))
          pss_nil)
        (pss_cons (ps_if (pt_cmpR (op_neE (K := K) rfl hr.units) (pe_lc (own := [("_law_pair", 8)]) (g := gName 8) rfl sc_law.nd (pi_list (pv 3)) (blkOk_by (own := [("_law_pair", 8)]) (N := N_law) (sc := defScope s_law) (by decide +kernel)) (fun _ _ _ _ _ => pg_name (i := 8) sc_law.nd rfl (Or.inl rfl)) (fun _ _ _ _ _ => pts_one (pt_cmpR op_ne (pe_op op_add (pe_callB (call_lenO M_len.m.at_ M_len.m.fn G_Wire_len (hr.mono (by decide)) M_len.b pass0) (by rfl) B.b_len (by decide +kernel) (pa_cons (pe_ix (ix_listE (K := K) rfl) (pv 8) pe_int (fun _ _ => rfl)) pa_nil)) (pe_callB (call_lenO M_len.m.at_ M_len.m.fn G_Wire_len (hr.mono (by decide)) M_len.b pass0) (by rfl) B.b_len (by decide +kernel) (pa_cons (pe_ix (ix_listE (K := K) rfl) (pv 8) pe_int (fun _ _ => rfl)) pa_nil))) pe_int (nomark _))) (fun _ _ _ _ _ => (pv 8))) (pe_lst pa_nil) (nomark _))
          (pss_one (ps_ret pe_bl))
          pss_nil)
        (pss_one (ps_if (pt_cmpR (op_neE (K := K) rfl hr.units) (pe_lc (own := [("_law_pair", 8)]) (g := gName 8) rfl sc_law.nd (pi_list (pv 3)) (blkOk_by (own := [("_law_pair", 8)]) (N := N_law) (sc := defScope s_law) (by decide +kernel)) (fun _ _ _ _ _ => pg_name (i := 8) sc_law.nd rfl (Or.inl rfl)) (fun _ _ _ _ _ => pts_one (pt_cmpR op_ne (pe_meth0 (pe_ix (ix_listE (K := K) rfl) (pv 8) pe_int (fun _ _ => rfl)) W.cl M_heard.m G_Wire_heard (hr.mono (by decide)) M_heard.b .nil pass0) (pe_callB (call_lenE (K := K) rfl) (by rfl) B.b_len (by decide +kernel) (pa_cons (pv 5) pa_nil)) (nomark _))) (fun _ _ _ _ _ => (pv 8))) (pe_lst pa_nil) (nomark _))
          (pss_one (ps_ret pe_bl))
          pss_nil)))))))))
      (pss_one (ps_ret pe_bl)))), ?_⟩
    -- pen
    refine ⟨_, rfl, sc, ns, [], rfl, hS, Has.nil, fun p z1 H1 h1 zo1 k1 => ?_⟩
    -- for bout in range(2)
    refine ⟨2, rfl, by decide, by decide, for_range (lo := 0) (n := 2) (fun i σ H2 => ∃ (v2 v3 v4 v5 v6 v7 v8 v9 v10 v11 v12 v13 v14 v15 v16 : Option V) (z : Pen), σ = [some (.ref sc), some (.ref p), v2, v3, v4, v5, v6, v7, v8, v9, v10, v11, v12, v13, v14, v15, v16] ∧ Has H2 (z.os p) ∧ z.Ok (4000 * i)) ?_ ?_ ?_⟩
    · exact ⟨none, none, none, none, none, none, none, none, none, none, none, none, none, none, none, z1, rfl, h1, zo1⟩
    · rintro i σ H2 hi ⟨v2, v3, v4, v5, v6, v7, v8, v9, v10, v11, v12, v13, v14, v15, v16, z2, rfl, h2, zo2⟩
      -- pairs = [[Wire(), Wire()] for k in range(2 + draw)]
      refine ⟨_, rfl, p, 4, z2, 4000 * i, [], rfl, by decide, by decide, (by rw [List.append_nil]; exact h2), zo2, by show _ < 1099511627776; omega, fun d z3 H3 d0 d1 h3 zo3 k3 => ?_⟩
      refine ⟨_, _, rfl, rfl, 2 + d, rfl, by omega, by omega, fun prl hprl => ?_⟩
      rw [List.append_nil] at h3
      obtain ⟨n, hn2, n2, n5⟩ : ∃ n : Nat, (2 + d).toNat = n ∧ 2 ≤ n ∧ n ≤ 5 := ⟨_, rfl, by omega, by omega⟩
      rw [hn2]
      refine lc_range (lo := 0) (n := n) (fun j H4 => ∃ qs : List Q9, qs.length = j ∧ Has H4 ((prl, .lst (ql qs)) :: (z3.os p ++ qflat C qs))) ?_ ?_ ?_
      · refine ⟨[], rfl, ?_⟩
        show Has _ ((prl, .lst []) :: (z3.os p ++ []))
        rw [List.append_nil]
        exact h3.new hprl
      · rintro j H4 hj ⟨qs, lq, h4⟩
        refine ⟨rfl, ?_⟩
        intro x0 y0 nx0 ny0 ne0
        have m0 := h4.make (o := .ins C y0 []) nx0 ny0 ne0
        refine ⟨x0, y0, _, rfl, m0, fun l0 H5 h5 k5 => ⟨rfl, ?_⟩⟩
        intro x1 y1 nx1 ny1 ne1
        have m1 := h5.make (o := .ins C y1 []) nx1 ny1 ne1
        refine ⟨x1, y1, _, rfl, m1, fun l1 H6 h6 k6 => ⟨rfl, (by show 2 ≤ sizeLine; decide), fun pj hpj => ?_⟩⟩
        have h7 := h6.new (o := .lst [.ref x0, .ref x1]) hpj
        -- 0 pj, 1 x1, 2 l1, 3 x0, 4 l0, 5 prl, 6 p, 7 c
        refine ⟨_, h7.at 5 rfl, (by show (ql qs).length < sizeLine; unfold ql; rw [List.length_map]; exact small1000 (by omega)), qs ++ [⟨pj, x0, y0, l0, x1, y1, l1⟩], (by rw [List.length_append, lq]; rfl), ?_⟩
        have h8 := (h7.pre (xs := [_, _, _, _, _, _, _, _]) [5, 0, 1, 2, 3, 4, 6, 7]).put (u := .lst (ql qs ++ [V.ref pj]))
        have e1 : ql (qs ++ [⟨pj, x0, y0, l0, x1, y1, l1⟩]) = ql qs ++ [V.ref pj] := by
          unfold ql
          rw [List.map_append]
          rfl
        have e2 : qflat C (qs ++ [⟨pj, x0, y0, l0, x1, y1, l1⟩]) = qflat C qs ++ Q9.os C ⟨pj, x0, y0, l0, x1, y1, l1⟩ := by
          unfold qflat
          rw [List.flatMap_append]
          exact congrArg (qs.flatMap (Q9.os C) ++ ·) (List.append_nil _)
        rw [e1, e2]
        have h9 := h8.pre (xs := [_, _, _, _, _, _, _, _]) [0, 6, 7, 4, 5, 2, 3, 1]
        refine h9.perm ?_
        exact (List.perm_append_comm (l₁ := qflat C qs) (l₂ := Q9.os C ⟨pj, x0, y0, l0, x1, y1, l1⟩)).append_left [_, _, _]
      · rintro H4 ⟨qs, lq, h4⟩
        -- head, came, net = ([], [[] for pair in pairs], [])
        refine ⟨(by show 0 ≤ sizeLine; decide), fun hl hhl => ?_⟩
        have h5 := h4.new (o := .lst []) hhl
        generalize upd H4 hl (.lst []) = H5 at h5
        refine ⟨_, rfl, prl, rfl, ⟨_, SqL.of (h5.at 1 rfl)⟩, fun cl hcl => ?_⟩
        have lks : (ql qs).length = n := by unfold ql; rw [List.length_map, lq]
        refine lc_list (K := K) (a := prl) (xs := ql qs) (fun j H6 => ∃ ts : List Addr, ts.length = j ∧ Has H6 ((cl, .lst (ts.map V.ref)) :: (hl, .lst []) :: (prl, .lst (ql qs)) :: (z3.os p ++ (qflat C qs ++ tos ts)))) ?_ ?_ ?_ ?_
        · refine ⟨[], rfl, ?_⟩
          show Has _ ((cl, .lst []) :: (hl, .lst []) :: (prl, .lst (ql qs)) :: (z3.os p ++ (qflat C qs ++ [])))
          rw [List.append_nil]
          exact h5.new hcl
        · rintro j H6 _ ⟨ts, _, h6⟩
          exact SqL.of (h6.at 2 rfl)
        · rintro j x H6 hx ⟨ts, lt, h6⟩
          have hj := (List.getElem?_eq_some_iff.mp hx).1
          refine ⟨rfl, (by show 0 ≤ sizeLine; decide), fun t ht => ?_⟩
          have h7 := h6.new (o := .lst []) ht
          refine ⟨_, h7.at 1 rfl, (by rw [List.length_map]; exact small1000 (by omega)), ts ++ [t], (by rw [List.length_append, lt]; rfl), ?_⟩
          have h8 := h7.swap.put (u := .lst (ts.map V.ref ++ [V.ref t]))
          rw [List.map_append]
          have e2 : tos (ts ++ [t]) = tos ts ++ [(t, HO.lst [])] := by
            unfold tos
            rw [List.map_append]
            rfl
          rw [e2, show qflat C qs ++ (tos ts ++ [(t, HO.lst [])]) = (qflat C qs ++ tos ts) ++ [(t, HO.lst [])] from (List.append_assoc _ _ _).symm]
          refine (h8.pre (xs := [_, _, _, _, _, _]) [0, 2, 3, 4, 5, 1]).perm ?_
          exact (List.perm_append_comm (l₁ := qflat C qs ++ tos ts) (l₂ := [(t, HO.lst [])])).append_left [_, _, _, _, _]
        · rintro H6 ⟨ts, lt, h6⟩
          rw [lks] at lt
          refine ⟨(by show 0 ≤ sizeLine; decide), fun nl hnl => ⟨(by show 3 ≤ sizeLine; decide), fun tp htp => ?_⟩⟩
          have h7 := (h6.new (o := .lst []) hnl).over (o := .tup [.ref hl, .ref cl, .ref nl]) htp
          refine ⟨tp, _, rfl, SqT.of upd_same, rfl, _, _, rfl, _, _, rfl, _, _, rfl, rfl, ?_⟩
          generalize upd _ tp _ = H7 at h7
          obtain ⟨ps0, eps⟩ : ∃ ps0, ps0 = toPs qs ts := ⟨_, rfl⟩
          obtain ⟨i1, i2, i3, i4⟩ := toPs_kl (qs := qs) (ts := ts) (lq.trans lt.symm)
          rw [← eps] at i1 i2 i3 i4
          have st0 : St9 C p prl cl hl nl (ql qs) (ts.map V.ref) n z3 ps0 [] [] H7 := by
            refine ⟨?_, i1.symm, i2.symm, i3.trans lq, i4, fun v hv => absurd hv List.not_mem_nil, fun v hv => absurd hv List.not_mem_nil⟩
            have h8 := h7.pre (xs := [_, _, _, _, _, _]) [4, 5, 3, 1, 2, 0]
            refine h8.perm ?_
            rw [eps]
            exact (toPs_perm (lq.trans lt.symm)).append_left [_, _, _, _, _, _]
          clear h2 h3 h4 h5 h6 h7
          generalize eks : ql qs = ks at st0 lks ⊢
          generalize ets : ts.map V.ref = tvs at st0 ⊢
          clear eks ets i1 i2 i3 i4 eps lq lt zo2 hprl hhl hcl hnl htp
          -- for turn in range(20 + draw(pen, 80))
          refine ⟨_, rfl, p, 80, z3, _, _, rfl, by decide, by decide, st0.has, zo3, by show _ < 1099511627776; omega, fun dt z4 H8 dt0 dt1 h8 zo4 k8 => ?_⟩
          have st1 : St9 C p prl cl hl nl ks tvs n z4 ps0 [] [] H8 := ⟨h8, st0.ek, st0.et, st0.pl, st0.ch, fun v hv => absurd hv List.not_mem_nil, fun v hv => absurd hv List.not_mem_nil⟩
          refine ⟨_, _, rfl, rfl, 20 + dt, rfl, by omega, by omega, for_range (lo := 0) (n := (20 + dt).toNat) (fun j σ H9 => ∃ (nl : Addr) (v4 v9 v10 v11 v12 v13 v14 v15 v16 : Option V), σ = [some (.ref sc), some (.ref p), some (.int (0 + i)), some (.ref prl), v4, some (.ref hl), some (.ref cl), some (.ref nl), v8, v9, v10, v11, v12, v13, v14, v15, v16] ∧
            Mid9 C p prl cl hl nl ks tvs n (4000 * i + 2 + 20 * j) j H9) ?_ ?_ ?_⟩
          · exact ⟨nl, v4, v9, v10, v11, v12, v13, v14, v15, v16, rfl, z4, ps0, [], [], st1, Nat.le_refl _, Nat.le_refl _, zo4.mono (by omega)⟩
          · clear st0 st1 h8 zo4 zo3 k8
            rintro j σ H5 hj ⟨nl, v4, v9, v10, v11, v12, v13, v14, v15, v16, rfl, z5, ps, hd, net, s5, lh, ln, zo5⟩
            have lim' : 4000 * i + 2 + 20 * j + 20 < 1099511627776 := by omega
            -- lot, k = draw(pen, 7), draw(pen, len(pairs))
            refine ⟨_, rfl, p, 7, z5, _, _, rfl, by decide, by decide, s5.has, zo5, by show _ < 1099511627776; omega, fun lot z6 H6 lot0 lot1 h6 zo6 k6 => ?_⟩
            refine ⟨_, rfl, _, rfl, prl, _, rfl, .inl (SqL.of (h6.at 2 rfl)), p, _, z6, _, _, rfl, by omega, by omega, h6, zo6, by show _ < 1099511627776; omega, fun kk z8 H8 kk0 kk1 h8 zo8 k8 => ⟨_, _, rfl, ?_⟩⟩
            have k68 := k6.trans k8
            have n8 := s5.nt.keep k68
            have rh8 := s5.rh.keep k68
            obtain ⟨_, ek, et, epl, ch, _, _⟩ := s5
            clear h6 zo5 zo6 k6 k8 k68
            have hkn : kk.toNat < ps.length := by omega
            obtain ⟨pre, post, eps, lpre⟩ := split_at (List.getElem?_eq_getElem hkn)
            generalize ps[kk.toNat] = a at eps
            have ekk : kk = ((pre.length : Nat) : Int) := by omega
            subst eps
            obtain ⟨ka0, kac, cva, va, vla⟩ := chn_mem ch (List.mem_append_right pre List.mem_cons_self)
            have hak : atI ks kk = some (.ref a.pj) := by rw [ek, ekk]; exact at_kl
            refine ⟨fun σ' H' => ∃ (nl : Addr) (v11 v12 v13 v14 v15 v16 : Option V), σ' = [some (.ref sc), some (.ref p), some (.int (0 + i)), some (.ref prl), some (.int kk), some (.ref hl), some (.ref cl), some (.ref nl), v8, some (.int (0 + j)), some (.int lot), v11, v12, v13, v14, v15, v16] ∧
              Mid9 C p prl cl hl nl ks tvs n (4000 * i + 2 + 20 * (j + 1)) (j + 1) H', ?_, ?_⟩
            · -- if lot < 2
              refine ⟨_, rfl, _, _, rfl, rfl, _, rfl, ?_⟩
              refine ite2 (fun hl2 => ?_) (fun hl2 => ?_)
              · -- head.append((turn,) + row_of(pen))
                refine ⟨_, rfl, .inl ⟨rfl, _, SqL.of (h8.at 4 rfl)⟩, _, rfl, (by show 1 ≤ sizeLine; decide), fun u hu' => ?_⟩
                have h9 := h8.over (o := .tup [.int (0 + j)]) hu'
                have k9 := Tk.new (o := .tup [.int (0 + j)]) hu'
                refine ⟨_, rfl, p, z8, _, _, rfl, h9, zo8, by show _ < 1099511627776; omega, fun v zA HA hv hA zoA kA => ?_⟩
                obtain ⟨ra, xs, ds, rfl, hra, fzr, gdr, lxs⟩ := hv
                refine ⟨u, ra, _, xs, rfl, rfl, kA _ _ upd_same, hra, (by show 1 + xs.length ≤ sizeLine; exact Nat.le_trans (by omega : 1 + xs.length ≤ 1000) (by decide)), fun r HB sB hrB => ?_⟩
                have hB := hA.same sB
                refine ⟨hl, _, _, rfl, rfl, hB.at 4 rfl, small1000 (by omega), ?_⟩
                have hC := (hB.pre (xs := [_, _, _, _, _, _]) [4, 0, 1, 2, 3, 5]).put (u := .lst (hd ++ [V.ref r]))
                have kC := Tk.lst (u := .lst (hd ++ [V.ref r])) (hB.at 4 rfl)
                have rowOk : RowOk HB (.ref r) := ⟨r, _, .int (0 + j) :: ds, rfl, hrB, .cons (.int _) (fzr.keep (same_tk sB)), (GdAll.cons ((Gd.int (by omega)).mono (Nat.le_refl _) (by decide)) gdr).mono (by decide) (Nat.le_refl _)⟩
                generalize upd HB hl (.lst (hd ++ [V.ref r])) = HC at hC kC ⊢
                -- pairs[0][0].put(head[-1])
                obtain ⟨b, r', eb⟩ : ∃ b r', pre ++ a :: post = b :: r' := by
                  cases pre with
                  | nil => exact ⟨_, _, rfl⟩
                  | cons b pre => exact ⟨_, _, rfl⟩
                rw [eb] at hC ek et epl ch n8
                obtain ⟨kb0, kbc, cvb, vb, vlb⟩ := chn_mem ch List.mem_cons_self
                have hF := focus (C := C) (X := [_, _, _, _, _, _]) (pre := []) (a := b) (post := r') hC
                -- 0 x0, 1 l0, 2 x1, 3 l1, 4 pj, 5 t, 6 hl, 7 p, 8 c, 9 prl, 10 cl, 11 nl
                refine ⟨_, rfl, prl, _, _, _, rfl, rfl, SqL.of (hF.at 9 rfl), (by rw [ek]; exact at_kl (pre := [])), b.pj, _, _, _, rfl, rfl, SqL.of (hF.at 4 rfl), rfl, b.x0, b.d0, _, rfl, hF.at 0 rfl, wFs_no _ _ _ (by decide +kernel) (by decide +kernel) (by decide +kernel), _, rfl, _, rfl, hl, _, _, _, rfl, rfl, SqL.of (hF.at 6 rfl), atI_last _ _, b.x0, b.d0, b.l0, b.kn, 0, _, _, _, rfl, hF.pre (xs := [_, _]) [0, 1], (by rw [List.length_drop]; omega), fun HD hD kD => ?_⟩
                have kk9 := k9.trans (kA.trans ((same_tk sB).trans (kC.trans kD)))
                have e0 : b.vs.drop b.kn.toNat ++ [V.ref r] = (b.vs ++ [V.ref r]).drop b.kn.toNat := (List.drop_append_of_le_length (by omega)).symm
                have e1 : b.vs.take b.cm.toNat = (b.vs ++ [V.ref r]).take b.cm.toNat := (List.take_append_of_le_length (by omega)).symm
                have hE : Has HD (P9.os C { b with vs := b.vs ++ [V.ref r] } ++ ([(hl, .lst (hd ++ [V.ref r])), (p, .dK (penKv zA.c zA.a zA.l)), (zA.c, .lst (zA.ns.map V.int)), (prl, .lst ks), (cl, .lst tvs), (nl, .lst net)] ++ flat C ([] ++ r'))) := by
                  unfold P9.os
                  dsimp only
                  rw [← e0, ← e1]
                  exact hD
                have hG := unfocus hE
                refine ⟨nl, _, _, _, _, _, _, rfl, zA, addTo [V.ref r] (b :: r'), hd ++ [V.ref r], net, ⟨hG.pre (xs := [_, _, _, _, _, _]) [1, 2, 3, 4, 0, 5], ek, et, epl, chn_add ch, ?_, (n8.keep kk9).grew grows_add⟩, ?_, by omega, zoA.mono (by omega)⟩
                · intro u hu'
                  rcases List.mem_append.mp hu' with hu' | hu'
                  · exact (rh8 u hu').keep kk9
                  · rw [List.mem_singleton.mp hu']
                    exact rowOk.keep (kC.trans kD)
                · rw [List.length_append, List.length_singleton]
                  omega
              · -- elif lot < 4 or net == []
                refine ⟨_, rfl, _, _, rfl, rfl, _, rfl, ?_⟩
                refine ite2 (fun hl3 => ?_) (fun hl3 => ?_)
                · have h9 := h8
                  have k9 : Tk H8 H8 := Tk.refl
                  -- side = draw(pen, 2); net.append((k, 1 - side, pairs[k][side].letter()))
                  refine ⟨_, rfl, p, 2, z8, _, _, rfl, by decide, by decide, h9, zo8, by show _ < 1099511627776; omega, fun sd zA HA sd0 sd1 hA zoA kA => ?_⟩
                  have hF := focus (X := [_, _, _, _, _, _]) (pre := pre) (a := a) (post := post) hA
                  -- 0 x0, 1 l0, 2 x1, 3 l1, 4 pj, 5 t, 6 p, 7 c, 8 prl, 9 cl, 10 hl, 11 nl
                  have hs : sd = 0 ∨ sd = 1 := by omega
                  obtain ⟨xx, dd, ll, kk', cc', ws, ehs, hw, exx, lw⟩ : ∃ (xx dd ll : Addr) (kk' cc' : Int) (ws : List V), Has HA (wOs C xx dd ll kk' cc' ws) ∧ atI [V.ref a.x0, .ref a.x1] sd = some (.ref xx) ∧ ((sd = 0 ∧ kk' = a.kn ∧ cc' = 0 ∧ ws = a.vs.drop a.kn.toNat) ∨ (sd = 1 ∧ kk' = 0 ∧ cc' = a.cm ∧ ws = [])) ∧ ws.length ≤ 200 := by
                    rcases hs with rfl | rfl
                    · exact ⟨a.x0, a.d0, a.l0, a.kn, 0, _, (hF.pre (xs := [_, _, _, _, _, _, _, _, _, _, _, _]) [0, 1]).left, rfl, .inl ⟨rfl, rfl, rfl, rfl⟩, by rw [List.length_drop]; omega⟩
                    · exact ⟨a.x1, a.d1, a.l1, 0, a.cm, [], (hF.pre (xs := [_, _, _, _, _, _, _, _, _, _, _, _]) [2, 3]).left, rfl, .inr ⟨rfl, rfl, rfl, rfl⟩, Nat.zero_le _⟩
                  refine ⟨_, rfl, .inl ⟨rfl, _, SqL.of (hF.at 11 rfl)⟩, _, rfl, _, rfl, _, _, rfl, rfl, _, rfl, _, rfl, prl, _, _, _, rfl, rfl, SqL.of (hF.at 8 rfl), hak, _, rfl, a.pj, _, _, _, rfl, rfl, SqL.of (hF.at 4 rfl), hw, xx, dd, _, rfl, ehs.at 0 rfl, wFs_no _ _ _ (by decide +kernel) (by decide +kernel) (by decide +kernel), xx, dd, ll, kk', cc', ws, rfl, ehs, by omega, fun c bb HB hc hb sB => ⟨(by show 3 ≤ sizeLine; decide), fun u hu' => ?_⟩⟩
                  have hB := (hA.same sB).over (o := .tup [.int kk, .int (1 - sd), .ref c]) hu'
                  refine ⟨nl, net, .ref u, rfl, rfl, hB.at 5 rfl, small1000 (by omega), ?_⟩
                  have hC := (hB.pre (xs := [_, _, _, _, _, _]) [5, 0, 1, 2, 3, 4]).put (u := .lst (net ++ [V.ref u]))
                  have kC := Tk.lst (u := .lst (net ++ [V.ref u])) (hB.at 5 rfl)
                  have kB := (Tk.new (o := .tup [.int kk, .int (1 - sd), .ref c]) hu').trans kC
                  have kZ := ((k9.trans kA).trans (same_tk sB)).trans kB
                  have rZ := rh8.keep kZ
                  refine ⟨nl, _, _, _, _, _, _, rfl, zA, pre ++ a :: post, hd, net ++ [V.ref u], ⟨hC.pre (xs := [_, _, _, _, _, _]) [1, 2, 3, 4, 5, 0], ek, et, epl, ch, rZ, ?_⟩, by omega, ?_, zoA.mono (by omega)⟩
                  · intro v hv
                    rcases List.mem_append.mp hv with hv | hv
                    · exact (n8 v hv).keep kZ
                    · rw [List.mem_singleton.mp hv]
                      have ut : upd (upd HB u (.tup [.int kk, .int (1 - sd), .ref c])) nl (.lst (net ++ [V.ref u])) u = some (.tup [.int ((pre.length : Nat) : Int), .int (1 - sd), .ref c]) := by
                        rw [← ekk]
                        exact kC _ _ upd_same
                      have rr : Rows (upd (upd HB u (.tup [.int kk, .int (1 - sd), .ref c])) nl (.lst (net ++ [V.ref u]))) ws := by
                        rcases exx with ⟨_, _, _, rfl⟩ | ⟨_, _, _, rfl⟩
                        · rw [va]
                          exact (rZ.take _).drop _
                        · exact fun v hv => absurd hv List.not_mem_nil
                      have k00 : 0 ≤ kk' ∧ 0 ≤ cc' := by omega
                      refine ⟨u, c, bb, pre.length, 1 - sd, kk', cc', ws, a, rfl, ut, ⟨kB _ _ hc, kB _ _ hb, k00.1, k00.2, by omega, rr.tups⟩, ?_, ?_⟩
                      · rw [List.getElem?_append_right (Nat.le_refl _), Nat.sub_self]
                        rfl
                      · rcases exx with ⟨rfl, rfl, rfl, rfl⟩ | ⟨rfl, rfl, rfl, rfl⟩
                        · refine .inl ⟨rfl, rfl, Int.le_refl _, (List.take_length).symm, ?_⟩
                          rw [List.length_drop]
                          omega
                        · exact .inr ⟨rfl, rfl, rfl, Int.le_refl _⟩
                  · rw [List.length_append, List.length_singleton]
                    omega
                · refine ⟨_, rfl, (by show 0 ≤ sizeLine; decide), fun q hq => ?_⟩
                  have h9 := h8.over (o := .lst []) hq
                  have h9' := h8.new (o := .lst []) hq
                  have k9 : Tk H8 _ := Tk.new (o := .lst []) hq
                  have n9 := n8.keep k9
                  have rh9 := rh8.keep k9
                  obtain ⟨ds, fz, gd⟩ := net_fz ch rh9 (by omega) (by omega) n9
                  refine ⟨.list ds, .list [], .lst (SqL.of (h9.at 5 rfl)) fz.dp, .lst (SqL.of h9'.head) .nil, ((GdAll.lst (GdAll.of gd)).shaped (by decide)), rfl, _, rfl, ?_⟩
                  rw [eqv_nil]
                  have dl := fz.length
                  refine ite2 (fun hemp => ?_) (fun hemp => ?_)
                  · clear fz gd
                    -- side = draw(pen, 2); net.append((k, 1 - side, pairs[k][side].letter()))
                    refine ⟨_, rfl, p, 2, z8, _, _, rfl, by decide, by decide, h9, zo8, by show _ < 1099511627776; omega, fun sd zA HA sd0 sd1 hA zoA kA => ?_⟩
                    have hF := focus (X := [_, _, _, _, _, _]) (pre := pre) (a := a) (post := post) hA
                    -- 0 x0, 1 l0, 2 x1, 3 l1, 4 pj, 5 t, 6 p, 7 c, 8 prl, 9 cl, 10 hl, 11 nl
                    have hs : sd = 0 ∨ sd = 1 := by omega
                    obtain ⟨xx, dd, ll, kk', cc', ws, ehs, hw, exx, lw⟩ : ∃ (xx dd ll : Addr) (kk' cc' : Int) (ws : List V), Has HA (wOs C xx dd ll kk' cc' ws) ∧ atI [V.ref a.x0, .ref a.x1] sd = some (.ref xx) ∧ ((sd = 0 ∧ kk' = a.kn ∧ cc' = 0 ∧ ws = a.vs.drop a.kn.toNat) ∨ (sd = 1 ∧ kk' = 0 ∧ cc' = a.cm ∧ ws = [])) ∧ ws.length ≤ 200 := by
                      rcases hs with rfl | rfl
                      · exact ⟨a.x0, a.d0, a.l0, a.kn, 0, _, (hF.pre (xs := [_, _, _, _, _, _, _, _, _, _, _, _]) [0, 1]).left, rfl, .inl ⟨rfl, rfl, rfl, rfl⟩, by rw [List.length_drop]; omega⟩
                      · exact ⟨a.x1, a.d1, a.l1, 0, a.cm, [], (hF.pre (xs := [_, _, _, _, _, _, _, _, _, _, _, _]) [2, 3]).left, rfl, .inr ⟨rfl, rfl, rfl, rfl⟩, Nat.zero_le _⟩
                    refine ⟨_, rfl, .inl ⟨rfl, _, SqL.of (hF.at 11 rfl)⟩, _, rfl, _, rfl, _, _, rfl, rfl, _, rfl, _, rfl, prl, _, _, _, rfl, rfl, SqL.of (hF.at 8 rfl), hak, _, rfl, a.pj, _, _, _, rfl, rfl, SqL.of (hF.at 4 rfl), hw, xx, dd, _, rfl, ehs.at 0 rfl, wFs_no _ _ _ (by decide +kernel) (by decide +kernel) (by decide +kernel), xx, dd, ll, kk', cc', ws, rfl, ehs, by omega, fun c bb HB hc hb sB => ⟨(by show 3 ≤ sizeLine; decide), fun u hu' => ?_⟩⟩
                    have hB := (hA.same sB).over (o := .tup [.int kk, .int (1 - sd), .ref c]) hu'
                    refine ⟨nl, net, .ref u, rfl, rfl, hB.at 5 rfl, small1000 (by omega), ?_⟩
                    have hC := (hB.pre (xs := [_, _, _, _, _, _]) [5, 0, 1, 2, 3, 4]).put (u := .lst (net ++ [V.ref u]))
                    have kC := Tk.lst (u := .lst (net ++ [V.ref u])) (hB.at 5 rfl)
                    have kB := (Tk.new (o := .tup [.int kk, .int (1 - sd), .ref c]) hu').trans kC
                    have kZ := ((k9.trans kA).trans (same_tk sB)).trans kB
                    have rZ := rh8.keep kZ
                    refine ⟨nl, _, _, _, _, _, _, rfl, zA, pre ++ a :: post, hd, net ++ [V.ref u], ⟨hC.pre (xs := [_, _, _, _, _, _]) [1, 2, 3, 4, 5, 0], ek, et, epl, ch, rZ, ?_⟩, by omega, ?_, zoA.mono (by omega)⟩
                    · intro v hv
                      rcases List.mem_append.mp hv with hv | hv
                      · exact (n8 v hv).keep kZ
                      · rw [List.mem_singleton.mp hv]
                        have ut : upd (upd HB u (.tup [.int kk, .int (1 - sd), .ref c])) nl (.lst (net ++ [V.ref u])) u = some (.tup [.int ((pre.length : Nat) : Int), .int (1 - sd), .ref c]) := by
                          rw [← ekk]
                          exact kC _ _ upd_same
                        have rr : Rows (upd (upd HB u (.tup [.int kk, .int (1 - sd), .ref c])) nl (.lst (net ++ [V.ref u]))) ws := by
                          rcases exx with ⟨_, _, _, rfl⟩ | ⟨_, _, _, rfl⟩
                          · rw [va]
                            exact (rZ.take _).drop _
                          · exact fun v hv => absurd hv List.not_mem_nil
                        have k00 : 0 ≤ kk' ∧ 0 ≤ cc' := by omega
                        refine ⟨u, c, bb, pre.length, 1 - sd, kk', cc', ws, a, rfl, ut, ⟨kB _ _ hc, kB _ _ hb, k00.1, k00.2, by omega, rr.tups⟩, ?_, ?_⟩
                        · rw [List.getElem?_append_right (Nat.le_refl _), Nat.sub_self]
                          rfl
                        · rcases exx with ⟨rfl, rfl, rfl, rfl⟩ | ⟨rfl, rfl, rfl, rfl⟩
                          · refine .inl ⟨rfl, rfl, Int.le_refl _, (List.take_length).symm, ?_⟩
                            rw [List.length_drop]
                            omega
                          · exact .inr ⟨rfl, rfl, rfl, Int.le_refl _⟩
                    · rw [List.length_append, List.length_singleton]
                      omega
                  · have hpos : 0 < net.length := by
                      cases ds with
                      | nil => exact absurd rfl hemp
                      | cons d ds => rw [dl]; exact Nat.succ_pos _
                    clear fz gd h9'
                    generalize upd H8 q (.lst []) = H9 at h9 k9 n9 rh9
                    -- at = draw(pen, len(net)); there, side, letter = net[at]
                    refine ⟨_, rfl, _, rfl, nl, _, rfl, .inl (SqL.of (h9.at 5 rfl)), p, _, z8, _, _, rfl, by omega, by omega, h9, zo8, by show _ < 1099511627776; omega, fun at_ zA HA at0 at1 hA zoA kA => ?_⟩
                    have nA := n9.keep kA
                    have rA := rh9.keep kA
                    clear n9 rh9 h9 h8 n8 rh8 hak ka0 kac cva va vla
                    have al : at_.toNat < net.length := by omega
                    have kv : net[at_.toNat]? = some net[at_.toNat] := List.getElem?_eq_getElem al
                    have kat : atI net at_ = some net[at_.toNat] := by
                      unfold atI ixN
                      rw [if_pos at0, if_pos at1]
                      exact kv
                    obtain ⟨t, c, lb, k2, to, f, g, rows, a2, ev, ht, L, ha2, zz⟩ := nA _ (List.getElem_mem al)
                    rw [ev] at kat
                    refine ⟨_, rfl, _, rfl, nl, _, _, _, rfl, rfl, SqL.of (hA.at 5 rfl), kat, t, _, rfl, SqT.of ht, rfl, _, _, rfl, _, _, rfl, _, _, rfl, rfl, ?_⟩
                    generalize pre ++ a :: post = ps at *
                    obtain ⟨pre2, post2, eps2, lpre2⟩ := split_at ha2
                    subst lpre2
                    subst eps2
                    obtain ⟨ka0, kac, cva, va, vla⟩ := chn_mem ch (List.mem_append_right pre2 List.mem_cons_self)
                    refine ⟨fun σ' H' => ∃ (v11 v13 v14 : Option V) (ps' : List P9), σ' = [some (.ref sc), some (.ref p), some (.int (0 + i)), some (.ref prl), some (.int kk), some (.ref hl), some (.ref cl), some (.ref nl), v8, some (.int (0 + j)), some (.int lot), v11, some (.int at_), v13, v14, v15, v16] ∧
                      St9 C p prl cl hl nl ks tvs n zA ps' hd net H', ?_, ?_⟩
                    · refine ⟨_, rfl, _, _, rfl, rfl, _, rfl, ?_⟩
                      refine ite2 (fun hl6 => ?_) (fun hl6 => ?_)
                      · refine ⟨_, rfl, _, rfl, _, rfl, _, rfl, _, rfl, prl, cl, c, lb, ks, tvs, hd, pre2, post2, a2, to, f, g, rows, _, rfl, hA.pre (xs := [_, _, _, _, _, _]) [2, 3, 0, 1, 4, 5], ek, et, ch, by omega, rA, L, ?_⟩
                        rcases zz with ⟨rfl, lk⟩ | ⟨rfl, lk⟩
                        · refine .inl ⟨rfl, lk, fun HB a' ws ea ew hB kB => ⟨_, rfl, ?_⟩⟩
                          have f0 := L.f0
                          obtain ⟨l1, l2, l3, l4⟩ := id lk
                          have lw : ((rows.drop (a2.cm - f).toNat).length : Int) = (rows.length : Int) - (a2.cm - f) ∨ (((rows.drop (a2.cm - f).toNat).length : Nat) : Int) = 0 := by
                            rw [List.length_drop]
                            omega
                          have e1 : a'.vs = a2.vs := by rw [ea]
                          have e2 : a'.kn = a2.kn := by rw [ea]
                          have e3 : a'.cm = a2.cm + ((rows.drop (a2.cm - f).toNat).length : Nat) := by rw [ea]
                          have e4 : a'.pj = a2.pj := by rw [ea]
                          have e5 : a'.t = a2.t := by rw [ea]
                          refine iteF ?_
                          refine ⟨_, _, _, pre2 ++ a' :: addTo ws post2, rfl, hB.pre (xs := [_, _, _, _, _, _]) [2, 3, 0, 1, 4, 5], ?_, ?_, ?_, ?_, rA.keep kB, ?_⟩
                          · rw [ek]
                            exact (kl_mid e4 kl_addTo).symm
                          · rw [et]
                            exact (tls_mid e5 tls_addTo).symm
                          · rw [← epl]
                            exact (grows_mid (a := a2) (a' := a') ⟨by omega, by omega, [], by rw [e1, List.append_nil]⟩ grows_add).len
                          · refine chn_cm e1 e2 (by omega) (by omega) ?_ ch
                            rw [ew, e3]
                            exact take_step f0 (by omega) cva l3 l4
                          · exact (nA.keep kB).grew (grows_mid ⟨by omega, by omega, [], by rw [e1, List.append_nil]⟩ grows_add)
                        · refine .inr ⟨rfl, lk, fun HB a' ea hB kB => ⟨_, rfl, ?_⟩⟩
                          obtain ⟨l1, l2, l3⟩ := id lk
                          have e1 : a'.vs = a2.vs := by rw [ea]
                          have e2 : a'.kn = if a2.kn < g then g else a2.kn := by rw [ea]
                          have e3 : a'.cm = a2.cm := by rw [ea]
                          have e4 : a'.pj = a2.pj := by rw [ea]
                          have e5 : a'.t = a2.t := by rw [ea]
                          have e6 : a2.kn ≤ a'.kn ∧ a'.kn ≤ a2.cm := by
                            rw [e2]
                            split <;> omega
                          refine iteF ?_
                          refine ⟨_, _, _, pre2 ++ a' :: post2, rfl, hB.pre (xs := [_, _, _, _, _, _]) [2, 3, 0, 1, 4, 5], ?_, ?_, ?_, ?_, rA.keep kB, ?_⟩
                          · rw [ek]
                            exact (kl_mid e4 rfl).symm
                          · rw [et]
                            exact (tls_mid e5 rfl).symm
                          · rw [← epl, List.length_append, List.length_append]
                            rfl
                          · exact chn_kn e1 e3 (by omega) (by omega) ch
                          · exact (nA.keep kB).grew (grows_mid ⟨by omega, by omega, [], by rw [e1, List.append_nil]⟩ (Grows.refl _))
                      · refine iteF ?_
                        exact ⟨_, _, _, pre2 ++ a2 :: post2, rfl, hA, ek, et, epl, ch, rA, nA⟩
                    · rintro σ' HB ⟨v11', v13', v14', ps', rfl, sB⟩
                      have hB := sB.has
                      refine ⟨_, rfl, _, rfl, _, rfl, nl, net, rfl, SqL.of (hB.at 5 rfl), fun p1 hp1 => ?_⟩
                      have hD := hB.new (o := .lst (cutV net none (some at_))) hp1
                      refine ⟨_, rfl, _, rfl, _, rfl, rfl, .inr ⟨_, rfl, _, _, rfl, rfl, _, rfl, nl, net, rfl, SqL.of (hD.at 6 rfl), fun p2 hp2 => ?_⟩⟩
                      have hE := hD.new (o := .lst (cutV net (some (at_ + if (!decide (V.int lot = V.int 5)) = true then 1 else 0)) none)) hp2
                      refine ⟨p1, p2, _, _, rfl, rfl, hE.at 1 rfl, hE.at 0 rfl, ?_, fun p3 hp3 => ?_⟩
                      · have q1 := cutV_length net none (some at_)
                        have q2 := cutV_length net (some (at_ + if (!decide (V.int lot = V.int 5)) = true then 1 else 0)) none
                        exact Nat.le_of_lt (small1000 (by omega))
                      have hF := hE.new (o := .lst (cutV net none (some at_) ++ cutV net (some (at_ + if (!decide (V.int lot = V.int 5)) = true then 1 else 0)) none)) hp3
                      have kF := ((Tk.new (o := .lst (cutV net none (some at_))) hp1).trans ((Tk.new (o := .lst (cutV net (some (at_ + if (!decide (V.int lot = V.int 5)) = true then 1 else 0)) none)) hp2).trans (Tk.new (o := .lst (cutV net none (some at_) ++ cutV net (some (at_ + if (!decide (V.int lot = V.int 5)) = true then 1 else 0)) none)) hp3)))
                      -- 0 p3, 1 p2, 2 p1, 3 p, 4 c, 5 prl, 6 cl, 7 hl, 8 nl
                      have ez : ∃ e : Int, 0 ≤ e ∧ (at_ + if (!decide (V.int lot = V.int 5)) = true then 1 else 0) = at_ + e := by
                        split
                        · exact ⟨1, by decide, rfl⟩
                        · exact ⟨0, by decide, rfl⟩
                      obtain ⟨e, e0, ee⟩ := ez
                      have en : cutV net none (some at_) ++ cutV net (some (at_ + if (!decide (V.int lot = V.int 5)) = true then 1 else 0)) none = net.take at_.toNat ++ net.drop (at_ + e).toNat := by
                        rw [ee, cut_to at0, cut_from (by omega)]
                      rw [en] at hF kF ⊢
                      refine ⟨p3, _, _, _, _, _, _, rfl, zA, ps', hd, net.take at_.toNat ++ net.drop (at_ + e).toNat, ⟨hF.pre (xs := [_, _, _, _, _, _, _, _, _]) [3, 4, 5, 6, 7, 0], sB.ek, sB.et, sB.pl, sB.ch, sB.rh.keep kF, fun v hv => ?_⟩, by omega, ?_, zoA.mono (by omega)⟩
                      · rcases List.mem_append.mp hv with hv | hv
                        · exact (sB.nt v (List.mem_of_mem_take hv)).keep kF
                        · exact (sB.nt v (List.mem_of_mem_drop hv)).keep kF
                      · rw [List.length_append, List.length_take, List.length_drop]
                        omega
            · -- wrong = [one for one in came if repr(one) != repr(head[:len(one)])]
              clear ch ek et epl n8 rh8 h8 hak ka0 kac cva va vla hkn lpre ekk zo8 lh ln kk0 kk1 lot0 lot1
              rintro σ' H9 ⟨nl, v11, v12, v13, v14, v15, v16, rfl, z9, ps, hd, net, s9, lh9, ln9, zo9⟩
              refine ⟨_, rfl, cl, rfl, ⟨_, SqL.of (s9.has.at 3 rfl)⟩, fun D hD => ?_⟩
              refine lc_list (K := K) (a := cl) (xs := tvs) (fun i2 H2 => Same (upd H9 D (.lst [])) H2) ?_ ?_ ?_ ?_
              · exact Same.refl _
              · rintro i2 H2 _ s2
                exact SqL.of (s2 _ _ (same_new hD _ _ (s9.has.at 3 rfl)))
              · rintro i2 x H2 hx s2
                have s3 := s9.keep ((same_new hD).trans s2)
                rw [s9.et] at hx
                obtain ⟨a, ha, rfl⟩ := getP hx
                have ma := List.mem_of_getElem? ha
                obtain ⟨ka0, kac, cva, va, vla⟩ := chn_mem s9.ch ma
                have et' : a.vs.take a.cm.toNat = hd.take a.cm.toNat := by
                  rw [va, List.take_take, Nat.min_eq_left (by omega)]
                have ht := s3.tAt ma
                rw [et'] at ht
                obtain ⟨ds, fz, gd, dp1, g1⟩ := lst_fz (K := K) ht (s3.rh.take _) (by rw [List.length_take]; omega)
                refine ⟨rfl, ?_⟩
                refine ⟨_, rfl, a.t, .list ds, rfl, dp1, g1, _, rfl, _, rfl, a.t, _, rfl, .inl (SqL.of ht), _, rfl, hl, hd, rfl, SqL.of (s3.has.at 4 rfl), fun p hp => ?_⟩
                have ec : cutV hd none (some ((hd.take a.cm.toNat).length : Int)) = hd.take a.cm.toNat := by
                  rw [cut_to (by omega), List.length_take, Int.toNat_natCast, Nat.min_eq_left (by omega)]
                rw [ec]
                have s4 := same_new (o := .lst (hd.take a.cm.toNat)) hp
                refine ⟨p, .list ds, rfl, .lst (SqL.of upd_same) (fz.keep (same_tk s4)).dp, g1, rfl, _, rfl, ?_⟩
                refine iteNS rfl ?_
                exact s2.trans s4
              · rintro H2 s2
                refine ⟨_, rfl, (by show 0 ≤ sizeLine; decide), fun em hem => ⟨.list [], .list [], .lst (SqL.of (same_new hem _ _ (s2 _ _ upd_same))) .nil, .lst (SqL.of upd_same) .nil, rfl, rfl, _, rfl, ?_⟩⟩
                refine iteF ?_
                exact ⟨nl, _, _, _, _, _, _, _, _, _, rfl, z9, ps, hd, net, s9.keep ((same_new hD).trans (s2.trans (same_new hem))), lh9, ln9, zo9⟩
          · -- behind the turns: for k in range(len(pairs)): for side in (1, 0, 1, 0)
            clear st0 st1 h8 zo4 zo3 k8
            rintro σ H5 ⟨nl, v4, v9, v10, v11, v12, v13, v14, v15, v16, rfl, z5, ps, hd, net, s5, lh, ln, zo5⟩
            have lh' : hd.length ≤ 200 := by omega
            refine ⟨_, rfl, prl, _, rfl, .inl (SqL.of (s5.has.at 2 rfl)), (ks.length : Int), rfl, by omega, by omega, for_range (lo := 0) (n := ks.length) (fun i2 σ H6 => ∃ (v4 v11 : Option V) (pre post : List P9), σ = [some (.ref sc), some (.ref p), some (.int (0 + i)), some (.ref prl), v4, some (.ref hl), some (.ref cl), some (.ref nl), v8, v9, v10, v11, v12, v13, v14, v15, v16] ∧
              St9 C p prl cl hl nl ks tvs n z5 (pre ++ post) hd net H6 ∧ pre.length = i2 ∧ FullAll hd pre) ?_ ?_ ?_⟩
            · exact ⟨v4, v11, [], ps, rfl, s5, rfl, fun a ha => absurd ha List.not_mem_nil⟩
            · rintro i2 σ H6 hi2 ⟨v4', v11', pre, post, rfl, s6, lp, fu⟩
              have pl := s6.pl
              obtain ⟨a0, post0, rfl⟩ : ∃ a post', post = a :: post' := by
                cases post with
                | nil =>
                  rw [List.append_nil] at pl
                  omega
                | cons a r => exact ⟨_, _, rfl⟩
              clear pl
              refine ⟨(by show 4 ≤ sizeLine; decide), fun tu htu => ⟨tu, rfl, ⟨_, SqT.of upd_same⟩, for_tup (K := K) (a := tu) (xs := [.int 1, .int 0, .int 1, .int 0]) (fun c σ H7 => H7 tu = some (.tup [.int 1, .int 0, .int 1, .int 0]) ∧ ∃ (v11 : Option V) (a : P9) (post : List P9), σ = [some (.ref sc), some (.ref p), some (.int (0 + i)), some (.ref prl), some (.int (0 + i2)), some (.ref hl), some (.ref cl), some (.ref nl), v8, v9, v10, v11, v12, v13, v14, v15, v16] ∧
                St9 C p prl cl hl nl ks tvs n z5 (pre ++ a :: post) hd net H7 ∧ (1 ≤ c → a.cm = hd.length) ∧ (2 ≤ c → a.kn = hd.length)) ?_ ?_ ?_ ?_⟩⟩
              · exact ⟨upd_same, v11', a0, post0, rfl, s6.keep (same_new htu), fun z => absurd z (by decide), fun z => absurd z (by decide)⟩
              · rintro c σ H7 _ ⟨e, _⟩
                exact SqT.of e
              · rintro c y σ H7 hy ⟨etu, v11'', a, post, rfl, s7, p1, p2⟩
                have va := full_next fu s7.ch
                obtain ⟨ka0, kac, cva, _, _⟩ := chn_mem s7.ch (List.mem_append_right pre List.mem_cons_self)
                have hak : atI ks (0 + (i2 : Int)) = some (.ref a.pj) := by
                  rw [s7.ek, Int.zero_add, ← lp]
                  exact at_kl
                have eva : (a.vs.length : Int) = hd.length := by rw [va]
                have hF := focus (X := [_, _, _, _, _, _]) (pre := pre) (a := a) (post := post) s7.has
                -- 0 x0, 1 l0, 2 x1, 3 l1, 4 pj, 5 t, 6 p, 7 c, 8 prl, 9 cl, 10 hl, 11 nl
                have hy' : (y = .int 1 ∧ (c = 0 ∨ c = 2)) ∨ (y = .int 0 ∧ (c = 1 ∨ c = 3)) := by
                  match c, hy with
                  | 0, e => exact .inl ⟨(Option.some.inj e).symm, .inl rfl⟩
                  | 1, e => exact .inr ⟨(Option.some.inj e).symm, .inl rfl⟩
                  | 2, e => exact .inl ⟨(Option.some.inj e).symm, .inr rfl⟩
                  | 3, e => exact .inr ⟨(Option.some.inj e).symm, .inr rfl⟩
                rcases hy' with ⟨rfl, hc⟩ | ⟨rfl, hc⟩
                · refine ⟨_, rfl, _, rfl, _, rfl, _, rfl, _, rfl, _, rfl, prl, _, _, _, rfl, rfl, SqL.of (hF.at 8 rfl), hak, _, rfl, _, _, rfl, rfl, a.pj, _, _, _, rfl, rfl, SqL.of (hF.at 4 rfl), rfl, a.x0, a.d0, _, rfl, hF.at 0 rfl, wFs_no _ _ _ (by decide +kernel) (by decide +kernel) (by decide +kernel), a.x0, a.d0, a.l0, a.kn, 0, _, rfl, (hF.pre (xs := [_, _, _, _, _, _, _, _, _, _, _, _]) [0, 1]).left, (by rw [List.length_drop]; omega), fun cc bb HB hc' hb sB => ?_⟩
                  have s8 := s7.keep sB
                  have rr : Rows HB (a.vs.drop a.kn.toNat) := by
                    rw [va]
                    exact s8.rh.drop _
                  refine ⟨prl, cl, cc, bb, ks, tvs, hd, pre, post, a, 1, a.kn, 0, _, _, (by rw [lp, Int.zero_add]; rfl), s8.has.pre (xs := [_, _, _, _, _, _]) [2, 3, 0, 1, 4, 5], s8.ek, s8.et, s8.ch, lh', s8.rh, ⟨hc', hb, ka0, Int.le_refl _, by rw [List.length_drop]; omega, rr.tups⟩, .inl ⟨rfl, ⟨rfl, Int.le_refl _, (List.take_length).symm, by rw [List.length_drop]; omega⟩, fun HC a' ws ea ew hC kC => ⟨_, rfl, ?_⟩⟩⟩
                  have lw : (((a.vs.drop a.kn.toNat).drop (a.cm - a.kn).toNat).length : Int) = a.vs.length - a.cm := by
                    rw [List.length_drop, List.length_drop]
                    omega
                  have e1 : a'.vs = a.vs := by rw [ea]
                  have e2 : a'.kn = a.kn := by rw [ea]
                  have e3 : a'.cm = a.cm + (((a.vs.drop a.kn.toNat).drop (a.cm - a.kn).toNat).length : Nat) := by rw [ea]
                  have e4 : a'.pj = a.pj := by rw [ea]
                  have e5 : a'.t = a.t := by rw [ea]
                  refine iteF ?_
                  refine ⟨kC _ _ (sB _ _ etu), _, a', addTo ws post, rfl, ⟨hC.pre (xs := [_, _, _, _, _, _]) [2, 3, 0, 1, 4, 5], ?_, ?_, ?_, ?_, s8.rh.keep kC, ?_⟩, ?_, ?_⟩
                  · rw [s8.ek]
                    exact (kl_mid e4 kl_addTo).symm
                  · rw [s8.et]
                    exact (tls_mid e5 tls_addTo).symm
                  · rw [← s8.pl]
                    exact (grows_mid (a := a) (a' := a') ⟨by omega, by omega, [], by rw [e1, List.append_nil]⟩ grows_add).len
                  · refine chn_cm e1 e2 (by omega) (by omega) ?_ s8.ch
                    rw [ew, e3]
                    exact take_step ka0 kac cva (List.take_length).symm (by rw [List.length_drop]; omega)
                  · exact (s8.nt.keep kC).grew (grows_mid ⟨by omega, by omega, [], by rw [e1, List.append_nil]⟩ grows_add)
                  · intro _
                    omega
                  · intro h2
                    rw [e2]
                    exact p2 (by omega)
                · refine ⟨_, rfl, _, rfl, _, rfl, _, rfl, _, rfl, _, rfl, prl, _, _, _, rfl, rfl, SqL.of (hF.at 8 rfl), hak, _, rfl, _, _, rfl, rfl, a.pj, _, _, _, rfl, rfl, SqL.of (hF.at 4 rfl), rfl, a.x1, a.d1, _, rfl, hF.at 2 rfl, wFs_no _ _ _ (by decide +kernel) (by decide +kernel) (by decide +kernel), a.x1, a.d1, a.l1, 0, a.cm, _, rfl, (hF.pre (xs := [_, _, _, _, _, _, _, _, _, _, _, _]) [2, 3]).left, Nat.zero_le _, fun cc bb HB hc' hb sB => ?_⟩
                  have s8 := s7.keep sB
                  refine ⟨prl, cl, cc, bb, ks, tvs, hd, pre, post, a, 0, 0, a.cm, [], _, (by rw [lp, Int.zero_add]; rfl), s8.has.pre (xs := [_, _, _, _, _, _]) [2, 3, 0, 1, 4, 5], s8.ek, s8.et, s8.ch, lh', s8.rh, ⟨hc', hb, Int.le_refl _, by omega, Nat.zero_le _, fun v hv => absurd hv List.not_mem_nil⟩, .inr ⟨rfl, ⟨rfl, rfl, Int.le_refl _⟩, fun HC a' ea hC kC => ⟨_, rfl, ?_⟩⟩⟩
                  have e1 : a'.vs = a.vs := by rw [ea]
                  have e2 : a'.kn = if a.kn < a.cm then a.cm else a.kn := by rw [ea]
                  have e3 : a'.cm = a.cm := by rw [ea]
                  have e4 : a'.pj = a.pj := by rw [ea]
                  have e5 : a'.t = a.t := by rw [ea]
                  have e6 : a'.kn = a.cm := by
                    rw [e2]
                    split <;> omega
                  have ec := p1 (by omega)
                  refine iteF ?_
                  refine ⟨kC _ _ (sB _ _ etu), _, a', post, rfl, ⟨hC.pre (xs := [_, _, _, _, _, _]) [2, 3, 0, 1, 4, 5], ?_, ?_, ?_, ?_, s8.rh.keep kC, ?_⟩, ?_, ?_⟩
                  · rw [s8.ek]
                    exact (kl_mid e4 rfl).symm
                  · rw [s8.et]
                    exact (tls_mid e5 rfl).symm
                  · rw [← s8.pl, List.length_append, List.length_append]
                    rfl
                  · exact chn_kn e1 e3 (by omega) (by omega) s8.ch
                  · exact (s8.nt.keep kC).grew (grows_mid ⟨by omega, by omega, [], by rw [e1, List.append_nil]⟩ (Grows.refl _))
                  · intro _
                    omega
                  · intro _
                    omega
              · rintro σ H7 ⟨_, v11'', a, post, rfl, s7, p1, p2⟩
                refine ⟨_, _, pre ++ [a], post, rfl, (by rw [List.append_assoc]; exact s7), (by rw [List.length_append, lp]; rfl), fun b hb => ?_⟩
                rcases List.mem_append.mp hb with hb | hb
                · exact fu b hb
                · rw [List.mem_singleton.mp hb]
                  exact ⟨full_next fu s7.ch, p2 (by decide), p1 (by decide)⟩
            · rintro σ H6 ⟨v4', v11', pre, post, rfl, s6, lp, fu⟩
              have pl := s6.pl
              have epo : post = [] := by
                rw [List.length_append] at pl
                exact List.eq_nil_of_length_eq_zero (by omega)
              subst epo
              rw [List.append_nil] at s6
              clear pl
              -- [one for one in came if repr(one) != repr(head)] != []
              refine ⟨_, rfl, cl, rfl, ⟨_, SqL.of (s6.has.at 3 rfl)⟩, fun D hD => ?_⟩
              refine lc_list (K := K) (a := cl) (xs := tvs) (fun i2 H2 => Same (upd H6 D (.lst [])) H2) ?_ ?_ ?_ ?_
              · exact Same.refl _
              · rintro i2 H2 _ s2
                exact SqL.of (s2 _ _ (same_new hD _ _ (s6.has.at 3 rfl)))
              · rintro i2 x H2 hx s2
                have s3 := s6.keep ((same_new hD).trans s2)
                rw [s6.et] at hx
                obtain ⟨a, ha, rfl⟩ := getP hx
                have ma := List.mem_of_getElem? ha
                obtain ⟨f1, f2, f3⟩ := fu a ma
                have ht := s3.tAt ma
                rw [f1, f3, Int.toNat_natCast, List.take_length] at ht
                obtain ⟨ds, fz, gd, dp1, g1⟩ := lst_fz (K := K) ht s3.rh (by omega)
                refine ⟨rfl, ?_⟩
                refine ⟨_, rfl, a.t, .list ds, rfl, dp1, g1, _, rfl, hl, .list ds, rfl, .lst (SqL.of (s3.has.at 4 rfl)) fz.dp, g1, rfl, _, rfl, ?_⟩
                refine iteNS rfl ?_
                exact s2
              · rintro H7 s7
                refine ⟨(by show 0 ≤ sizeLine; decide), fun em hem => ⟨.list [], .list [], .lst (SqL.of (same_new hem _ _ (s7 _ _ upd_same))) .nil, .lst (SqL.of upd_same) .nil, rfl, rfl, _, rfl, ?_⟩⟩
                refine iteF ?_
                have s8 := s6.keep ((same_new hD).trans (s7.trans (same_new (o := .lst []) hem)))
                generalize upd H7 em (.lst []) = H8 at s8 ⊢
                clear s6 s7 hD hem
                -- [pair for pair in pairs if len(pair[0]) + len(pair[1]) != 0] != []
                refine ⟨_, rfl, prl, rfl, ⟨_, SqL.of (s8.has.at 2 rfl)⟩, fun D hD => ?_⟩
                refine lc_list (K := K) (a := prl) (xs := ks) (fun i2 H2 => Same (upd H8 D (.lst [])) H2) ?_ ?_ ?_ ?_
                · exact Same.refl _
                · rintro i2 H2 _ s2
                  exact SqL.of (s2 _ _ (same_new hD _ _ (s8.has.at 2 rfl)))
                · rintro i2 x H2 hx s2
                  have s3 := s8.keep ((same_new hD).trans s2)
                  rw [s8.ek] at hx
                  obtain ⟨a, ha, rfl⟩ := getP hx
                  obtain ⟨f1, f2, f3⟩ := fu a (List.mem_of_getElem? ha)
                  obtain ⟨pr, po, epr, _⟩ := split_at ha
                  have h3 := s3.has
                  rw [epr] at h3
                  have hF := focus (X := [_, _, _, _, _, _]) (pre := pr) (a := a) (post := po) h3
                  have ed : a.vs.drop a.kn.toNat = [] := by
                    rw [f1, f2]
                    exact List.drop_of_length_le (by omega)
                  unfold P9.os at hF
                  rw [ed] at hF
                  refine ⟨rfl, ?_⟩
                  refine ⟨_, rfl, a.pj, _, _, _, rfl, rfl, SqL.of (hF.at 4 rfl), rfl, a.x0, a.d0, _, rfl, hF.at 0 rfl, a.x0, a.d0, a.l0, a.kn, 0, _, rfl, (hF.pre (xs := [_, _, _, _, _, _, _, _, _, _, _, _]) [0, 1]).left, _, rfl, by decide, by decide, ?_⟩
                  refine ⟨_, rfl, a.pj, _, _, _, rfl, rfl, SqL.of (hF.at 4 rfl), rfl, a.x1, a.d1, _, rfl, hF.at 2 rfl, a.x1, a.d1, a.l1, 0, a.cm, _, rfl, (hF.pre (xs := [_, _, _, _, _, _, _, _, _, _, _, _]) [2, 3]).left, _, rfl, by decide, by decide, ?_⟩
                  refine ⟨_, _, rfl, rfl, rfl, _, rfl, ?_⟩
                  refine iteNS rfl ?_
                  exact s2
                · rintro H9 s9
                  refine ⟨(by show 0 ≤ sizeLine; decide), fun em hem => ⟨.list [], .list [], .lst (SqL.of (same_new hem _ _ (s9 _ _ upd_same))) .nil, .lst (SqL.of upd_same) .nil, rfl, rfl, _, rfl, ?_⟩⟩
                  refine iteF ?_
                  have sA := s8.keep ((same_new hD).trans (s9.trans (same_new (o := .lst []) hem)))
                  generalize upd H9 em (.lst []) = HA at sA ⊢
                  clear s8 s9 hD hem
                  -- [pair for pair in pairs if pair[1].heard() != len(head)] != []
                  refine ⟨_, rfl, prl, rfl, ⟨_, SqL.of (sA.has.at 2 rfl)⟩, fun D hD => ?_⟩
                  refine lc_list (K := K) (a := prl) (xs := ks) (fun i2 H2 => Same (upd HA D (.lst [])) H2) ?_ ?_ ?_ ?_
                  · exact Same.refl _
                  · rintro i2 H2 _ s2
                    exact SqL.of (s2 _ _ (same_new hD _ _ (sA.has.at 2 rfl)))
                  · rintro i2 x H2 hx s2
                    have s3 := sA.keep ((same_new hD).trans s2)
                    rw [sA.ek] at hx
                    obtain ⟨a, ha, rfl⟩ := getP hx
                    obtain ⟨f1, f2, f3⟩ := fu a (List.mem_of_getElem? ha)
                    obtain ⟨pr, po, epr, _⟩ := split_at ha
                    have h3 := s3.has
                    rw [epr] at h3
                    have hF := focus (X := [_, _, _, _, _, _]) (pre := pr) (a := a) (post := po) h3
                    refine ⟨rfl, ?_⟩
                    refine ⟨_, rfl, a.pj, _, _, _, rfl, rfl, SqL.of (hF.at 4 rfl), rfl, a.x1, a.d1, _, rfl, hF.at 2 rfl, wFs_no _ _ _ (by decide +kernel) (by decide +kernel) (by decide +kernel), a.x1, a.d1, a.l1, 0, a.cm, _, rfl, (hF.pre (xs := [_, _, _, _, _, _, _, _, _, _, _, _]) [2, 3]).left, _, rfl, hl, _, rfl, .inl (SqL.of (hF.at 10 rfl)), rfl, _, rfl, ?_⟩
                    refine iteNS (congrArg V.int f3) ?_
                    exact s2
                  · rintro HB sB
                    refine ⟨(by show 0 ≤ sizeLine; decide), fun em hem => ⟨.list [], .list [], .lst (SqL.of (same_new hem _ _ (sB _ _ upd_same))) .nil, .lst (SqL.of upd_same) .nil, rfl, rfl, _, rfl, ?_⟩⟩
                    refine iteF ?_
                    have sC := sA.keep ((same_new hD).trans (sB.trans (same_new (o := .lst []) hem)))
                    exact ⟨_, _, _, _, _, _, _, _, _, _, _, _, _, _, _, z5, rfl, sC.has.left.left, zo5.mono (by omega)⟩
    · rintro σ H5 _
      exact k H5
end
end Fc

set_option Elab.async false
set_option linter.all false
set_option maxRecDepth 100000
set_option maxHeartbeats 16000000
namespace Fc
open PySem L2
theorem all_mk {l : PySem.W.OpenLaw} {w : World} {K : PySem.W.Frag} {h : Heap} {mg : Str → Option Value} {fa C fI f1 f2 f3 f4 f5 f6 f7 f8 f9 f10 f11 f12 f13 f14 fL : Addr} {tR : Tok} (X : K.In h) (G : h.Ns mainGlobals mg) (hfa : mg "law" = some (.ref fa))
    {odI anI od1 an1 od2 an2 od3 an3 od4 an4 od5 an5 od6 an6 od7 an7 od8 an8 od9 an9 od10 an10 od11 an11 od12 an12 od13 an13 od14 an14 odL anL : Option Addr} {slI sl1 sl2 sl3 sl4 sl5 sl6 sl7 sl8 sl9 sl10 sl11 sl12 sl13 sl14 slL : Array (Option Value)} {ocI kVI dcI pmI cdI ctI oc1 kV1 dc1 pm1 cd1 ct1 oc2 kV2 dc2 pm2 cd2 ct2 oc3 kV3 dc3 pm3 cd3 ct3 oc4 kV4 dc4 pm4 cd4 ct4 oc5 kV5 dc5 pm5 cd5 ct5 oc6 kV6 dc6 pm6 cd6 ct6 oc7 kV7 dc7 pm7 cd7 ct7 oc8 kV8 dc8 pm8 cd8 ct8 oc9 kV9 dc9 pm9 cd9 ct9 oc10 kV10 dc10 pm10 cd10 ct10 oc11 kV11 dc11 pm11 cd11 ct11 oc12 kV12 dc12 pm12 cd12 ct12 oc13 kV13 dc13 pm13 cd13 ct13 oc14 kV14 dc14 pm14 cd14 ct14 ocL kVL dcL pmL cdL ctL : Value}
    (aW : PySem.W.nsIn K mainGlobals "Wire" = some (some (.ref C))) (pg : PySem.W.plainGet K C Str.empty = true) (hd : PySem.W.hasDictIn K C = true) (po : PySem.W.plainOver K C = true)
    (sa : PySem.W.findIn K (.ref C) "__setattr__" = some (some (.builtin "object.__setattr__"))) (mkC : PySem.W.makesIn K C = true) (kc : PySem.W.keepIn K (.ref C) = true) (nf0 : PySem.W.findIn K (.ref C) "known" = some none)
    (nf1 : PySem.W.findIn K (.ref C) "waiting" = some none) (nf2 : PySem.W.findIn K (.ref C) "came" = some none) (z_len : PySem.W.nsIn K mainGlobals "len" = some none) (z_isinstance : PySem.W.nsIn K mainGlobals "isinstance" = some none)
    (z_int : PySem.W.nsIn K mainGlobals "int" = some none) (z_bool : PySem.W.nsIn K mainGlobals "bool" = some none) (z_str : PySem.W.nsIn K mainGlobals "str" = some none) (z_list : PySem.W.nsIn K mainGlobals "list" = some none)
    (z_tuple : PySem.W.nsIn K mainGlobals "tuple" = some none) (z_range : PySem.W.nsIn K mainGlobals "range" = some none) (z_abs : PySem.W.nsIn K mainGlobals "abs" = some none) (z_min : PySem.W.nsIn K mainGlobals "min" = some none)
    (z_max : PySem.W.nsIn K mainGlobals "max" = some none) (z_all : PySem.W.nsIn K mainGlobals "all" = some none) (z_repr : PySem.W.nsIn K mainGlobals "repr" = some none) (z_dict : PySem.W.nsIn K mainGlobals "dict" = some none)
    (aR : PySem.W.nsIn K mainGlobals "ROWS" = some (some (.str "rows" tR))) (aI : PySem.W.findIn K (.ref C) "__init__" = some (some (.ref fI))) (iI : PySem.W.isFn K (.ref fI) = true) (lI : K.lookup fI = some ⟨ocI, odI, .func (PySem.W.fnOf "__init__" "Wire.__init__" (defArgs s_Wire_init) (defBody s_Wire_init) (defScope s_Wire_init) .none kVI dcI pmI anI cdI ctI), slI⟩)
    (cI : PySem.W.codeIn K cdI "Wire.__init__" = true) (kI : PySem.W.keepIn K (.ref fI) = true) (a1 : PySem.W.nsIn K mainGlobals "_law_pen" = some (some (.ref f1))) (l1 : K.lookup f1 = some ⟨oc1, od1, .func (PySem.W.fnOf "_law_pen" "_law_pen" (defArgs s_l_pen) (defBody s_l_pen) (defScope s_l_pen) .none kV1 dc1 pm1 an1 cd1 ct1), sl1⟩)
    (c1 : PySem.W.codeIn K cd1 "_law_pen" = true) (k1 : PySem.W.keepIn K (.ref f1) = true) (a2 : PySem.W.nsIn K mainGlobals "_law_draw" = some (some (.ref f2))) (l2 : K.lookup f2 = some ⟨oc2, od2, .func (PySem.W.fnOf "_law_draw" "_law_draw" (defArgs s_l_draw) (defBody s_l_draw) (defScope s_l_draw) .none kV2 dc2 pm2 an2 cd2 ct2), sl2⟩)
    (c2 : PySem.W.codeIn K cd2 "_law_draw" = true) (k2 : PySem.W.keepIn K (.ref f2) = true) (a3 : PySem.W.nsIn K mainGlobals "_law_pick" = some (some (.ref f3))) (l3 : K.lookup f3 = some ⟨oc3, od3, .func (PySem.W.fnOf "_law_pick" "_law_pick" (defArgs s_l_pick) (defBody s_l_pick) (defScope s_l_pick) .none kV3 dc3 pm3 an3 cd3 ct3), sl3⟩)
    (c3 : PySem.W.codeIn K cd3 "_law_pick" = true) (k3 : PySem.W.keepIn K (.ref f3) = true) (a4 : PySem.W.nsIn K mainGlobals "_law_plain" = some (some (.ref f4))) (l4 : K.lookup f4 = some ⟨oc4, od4, .func (PySem.W.fnOf "_law_plain" "_law_plain" (defArgs s_l_plain) (defBody s_l_plain) (defScope s_l_plain) .none kV4 dc4 pm4 an4 cd4 ct4), sl4⟩)
    (c4 : PySem.W.codeIn K cd4 "_law_plain" = true) (k4 : PySem.W.keepIn K (.ref f4) = true) (a5 : PySem.W.nsIn K mainGlobals "_law_row_of" = some (some (.ref f5))) (l5 : K.lookup f5 = some ⟨oc5, od5, .func (PySem.W.fnOf "_law_row_of" "_law_row_of" (defArgs s_l_row_of) (defBody s_l_row_of) (defScope s_l_row_of) .none kV5 dc5 pm5 an5 cd5 ct5), sl5⟩)
    (c5 : PySem.W.codeIn K cd5 "_law_row_of" = true) (k5 : PySem.W.keepIn K (.ref f5) = true) (a6 : PySem.W.nsIn K mainGlobals "_law_brought_on" = some (some (.ref f6))) (l6 : K.lookup f6 = some ⟨oc6, od6, .func (PySem.W.fnOf "_law_brought_on" "_law_brought_on" (defArgs s_l_brought_on) (defBody s_l_brought_on) (defScope s_l_brought_on) .none kV6 dc6 pm6 an6 cd6 ct6), sl6⟩)
    (c6 : PySem.W.codeIn K cd6 "_law_brought_on" = true) (k6 : PySem.W.keepIn K (.ref f6) = true) (a7 : PySem.W.nsIn K mainGlobals "is_whole" = some (some (.ref f7))) (l7 : K.lookup f7 = some ⟨oc7, od7, .func (PySem.W.fnOf "is_whole" "is_whole" (defArgs s_is_whole) (defBody s_is_whole) (defScope s_is_whole) .none kV7 dc7 pm7 an7 cd7 ct7), sl7⟩)
    (c7 : PySem.W.codeIn K cd7 "is_whole" = true) (k7 : PySem.W.keepIn K (.ref f7) = true) (a8 : PySem.W.nsIn K mainGlobals "is_count" = some (some (.ref f8))) (l8 : K.lookup f8 = some ⟨oc8, od8, .func (PySem.W.fnOf "is_count" "is_count" (defArgs s_is_count) (defBody s_is_count) (defScope s_is_count) .none kV8 dc8 pm8 an8 cd8 ct8), sl8⟩)
    (c8 : PySem.W.codeIn K cd8 "is_count" = true) (k8 : PySem.W.keepIn K (.ref f8) = true) (a9 : PySem.W.nsIn K mainGlobals "is_letter" = some (some (.ref f9))) (l9 : K.lookup f9 = some ⟨oc9, od9, .func (PySem.W.fnOf "is_letter" "is_letter" (defArgs s_is_letter) (defBody s_is_letter) (defScope s_is_letter) .none kV9 dc9 pm9 an9 cd9 ct9), sl9⟩)
    (c9 : PySem.W.codeIn K cd9 "is_letter" = true) (k9 : PySem.W.keepIn K (.ref f9) = true) (a10 : PySem.W.findIn K (.ref C) "put" = some (some (.ref f10))) (i10 : PySem.W.isFn K (.ref f10) = true)
    (l10 : K.lookup f10 = some ⟨oc10, od10, .func (PySem.W.fnOf "put" "Wire.put" (defArgs s_Wire_put) (defBody s_Wire_put) (defScope s_Wire_put) .none kV10 dc10 pm10 an10 cd10 ct10), sl10⟩) (c10 : PySem.W.codeIn K cd10 "Wire.put" = true) (k10 : PySem.W.keepIn K (.ref f10) = true) (a11 : PySem.W.findIn K (.ref C) "letter" = some (some (.ref f11)))
    (i11 : PySem.W.isFn K (.ref f11) = true) (l11 : K.lookup f11 = some ⟨oc11, od11, .func (PySem.W.fnOf "letter" "Wire.letter" (defArgs s_Wire_letter) (defBody s_Wire_letter) (defScope s_Wire_letter) .none kV11 dc11 pm11 an11 cd11 ct11), sl11⟩) (c11 : PySem.W.codeIn K cd11 "Wire.letter" = true) (k11 : PySem.W.keepIn K (.ref f11) = true)
    (a12 : PySem.W.findIn K (.ref C) "take" = some (some (.ref f12))) (i12 : PySem.W.isFn K (.ref f12) = true) (l12 : K.lookup f12 = some ⟨oc12, od12, .func (PySem.W.fnOf "take" "Wire.take" (defArgs s_Wire_take) (defBody s_Wire_take) (defScope s_Wire_take) .none kV12 dc12 pm12 an12 cd12 ct12), sl12⟩) (c12 : PySem.W.codeIn K cd12 "Wire.take" = true)
    (k12 : PySem.W.keepIn K (.ref f12) = true) (a13 : PySem.W.findIn K (.ref C) "heard" = some (some (.ref f13))) (i13 : PySem.W.isFn K (.ref f13) = true) (l13 : K.lookup f13 = some ⟨oc13, od13, .func (PySem.W.fnOf "heard" "Wire.heard" (defArgs s_Wire_heard) (defBody s_Wire_heard) (defScope s_Wire_heard) .none kV13 dc13 pm13 an13 cd13 ct13), sl13⟩)
    (c13 : PySem.W.codeIn K cd13 "Wire.heard" = true) (k13 : PySem.W.keepIn K (.ref f13) = true) (a14 : PySem.W.findIn K (.ref C) "__len__" = some (some (.ref f14))) (i14 : PySem.W.isFn K (.ref f14) = true)
    (l14 : K.lookup f14 = some ⟨oc14, od14, .func (PySem.W.fnOf "__len__" "Wire.__len__" (defArgs s_Wire_len) (defBody s_Wire_len) (defScope s_Wire_len) .none kV14 dc14 pm14 an14 cd14 ct14), sl14⟩) (c14 : PySem.W.codeIn K cd14 "Wire.__len__" = true) (k14 : PySem.W.keepIn K (.ref f14) = true) (aL : PySem.W.nsIn K mainGlobals "law" = some (some (.ref fL)))
    (lL : K.lookup fL = some ⟨ocL, odL, .func (PySem.W.fnOf "law" "law" (defArgs s_law) (defBody s_law) (defScope s_law) .none kVL dcL pmL anL cdL ctL), slL⟩) (cL : PySem.W.codeIn K cdL "law" = true) (kL : PySem.W.keepIn K (.ref fL) = true) :
    ∃ fd : FuncData, (∀ (s : Shared) (v : Value), BindsTo s fd ⟨[v], []⟩ [("_law_script", v)]) ∧ ∀ base : Heap, K.In base → base.Ns mainGlobals mg → FnG l.prog w K mg base CX0 6 fa fd ["_law_script"] (spLaw K) := by
  have e := hfa.symm.trans (PySem.W.mg_of X G aL)
  cases e
  have B : Bl mg := ⟨PySem.W.mg_none_of X G z_len, PySem.W.mg_none_of X G z_isinstance, PySem.W.mg_none_of X G z_int, PySem.W.mg_none_of X G z_bool, PySem.W.mg_none_of X G z_str, PySem.W.mg_none_of X G z_list, PySem.W.mg_none_of X G z_tuple, PySem.W.mg_none_of X G z_range, PySem.W.mg_none_of X G z_abs, PySem.W.mg_none_of X G z_min, PySem.W.mg_none_of X G z_max, PySem.W.mg_none_of X G z_all, PySem.W.mg_none_of X G z_repr, PySem.W.mg_none_of X G z_dict⟩
  have FI := fun_mk (st := s_Wire_init) lI cI kI
  have bI := FI.binds (ps := ["self"]) fun _ _ _ _ _ _ us hl => match us, hl with | [_], _ => rfl
  have F1 := fun_mk (st := s_l_pen) l1 c1 k1
  have b1 := F1.binds (ps := ["_law_script"]) fun _ _ _ _ _ _ us hl => match us, hl with | [_], _ => rfl
  have F2 := fun_mk (st := s_l_draw) l2 c2 k2
  have b2 := F2.binds (ps := ["_law_pen_here", "_law_many"]) fun _ _ _ _ _ _ us hl => match us, hl with | [_, _], _ => rfl
  have F3 := fun_mk (st := s_l_pick) l3 c3 k3
  have b3 := F3.binds (ps := ["_law_pen_here", "_law_some"]) fun _ _ _ _ _ _ us hl => match us, hl with | [_, _], _ => rfl
  have F4 := fun_mk (st := s_l_plain) l4 c4 k4
  have b4 := F4.binds (ps := ["_law_pen_here"]) fun _ _ _ _ _ _ us hl => match us, hl with | [_], _ => rfl
  have F5 := fun_mk (st := s_l_row_of) l5 c5 k5
  have b5 := F5.binds (ps := ["_law_pen_here"]) fun _ _ _ _ _ _ us hl => match us, hl with | [_], _ => rfl
  have F6 := fun_mk (st := s_l_brought_on) l6 c6 k6
  have b6 := F6.binds (ps := ["_law_pairs", "_law_came", "_law_k", "_law_side", "_law_letter"]) fun _ _ _ _ _ _ us hl => match us, hl with | [_, _, _, _, _], _ => rfl
  have F7 := fun_mk (st := s_is_whole) l7 c7 k7
  have b7 := F7.binds (ps := ["thing"]) fun _ _ _ _ _ _ us hl => match us, hl with | [_], _ => rfl
  have F8 := fun_mk (st := s_is_count) l8 c8 k8
  have b8 := F8.binds (ps := ["thing"]) fun _ _ _ _ _ _ us hl => match us, hl with | [_], _ => rfl
  have F9 := fun_mk (st := s_is_letter) l9 c9 k9
  have b9 := F9.binds (ps := ["thing"]) fun _ _ _ _ _ _ us hl => match us, hl with | [_], _ => rfl
  have F10 := fun_mk (st := s_Wire_put) l10 c10 k10
  have b10 := F10.binds (ps := ["self", "row"]) fun _ _ _ _ _ _ us hl => match us, hl with | [_, _], _ => rfl
  have F11 := fun_mk (st := s_Wire_letter) l11 c11 k11
  have b11 := F11.binds (ps := ["self"]) fun _ _ _ _ _ _ us hl => match us, hl with | [_], _ => rfl
  have F12 := fun_mk (st := s_Wire_take) l12 c12 k12
  have b12 := F12.binds (ps := ["self", "letter"]) fun _ _ _ _ _ _ us hl => match us, hl with | [_, _], _ => rfl
  have F13 := fun_mk (st := s_Wire_heard) l13 c13 k13
  have b13 := F13.binds (ps := ["self"]) fun _ _ _ _ _ _ us hl => match us, hl with | [_], _ => rfl
  have F14 := fun_mk (st := s_Wire_len) l14 c14 k14
  have b14 := F14.binds (ps := ["self"]) fun _ _ _ _ _ _ us hl => match us, hl with | [_], _ => rfl
  have FL := fun_mk (st := s_law) lL cL kL
  have bL := FL.binds (ps := ["_law_script"]) fun _ _ _ _ _ _ us hl => match us, hl with | [_], _ => rfl
  have W : Wc K mg C fI _ tR := ⟨⟨pg, hd, po, sa⟩, nf0, nf1, nf2, PySem.W.mg_of X G aW, ⟨mkC, aI, iI, kc⟩, FI, bI, PySem.W.mg_of X G aR⟩
  refine ⟨PySem.W.fnOf "law" "law" (defArgs s_law) (defBody s_law) (defScope s_law) .none kVL dcL pmL anL cdL ctL, fun s v => .of_eq rfl, fun base _ _ => ?_⟩
  exact ok_law ⟨FL, bL, PySem.W.mg_of X G aL⟩ B W ⟨F1, b1, PySem.W.mg_of X G a1⟩ ⟨F2, b2, PySem.W.mg_of X G a2⟩ ⟨F3, b3, PySem.W.mg_of X G a3⟩ ⟨F4, b4, PySem.W.mg_of X G a4⟩ ⟨F5, b5, PySem.W.mg_of X G a5⟩ ⟨F6, b6, PySem.W.mg_of X G a6⟩ ⟨F7, b7, PySem.W.mg_of X G a7⟩ ⟨F8, b8, PySem.W.mg_of X G a8⟩ ⟨F9, b9, PySem.W.mg_of X G a9⟩ ⟨⟨a10, i10, k10⟩, F10, b10⟩ ⟨⟨a11, i11, k11⟩, F11, b11⟩ ⟨⟨a12, i12, k12⟩, F12, b12⟩ ⟨⟨a13, i13, k13⟩, F13, b13⟩ ⟨⟨a14, i14, k14⟩, F14, b14⟩
theorem walk {l : PySem.W.OpenLaw} {q : Program} {loose : List Str} {XP : (Str → Option Value) → Heap → Prop} {YP : World → Heap → Prop} {d : DefRec} {K : Params → PySem.W.Frag} (hn : l.most = some 63) (hdf : d.params.defaults = [])
    (hY : ∀ (w : World) (h : Heap), YP w h → (K w.params).In h)
    (F : ∀ (w : World) (mg : Str → Option Value) (fa : Addr) (h : Heap), (K w.params).In h → h.Ns mainGlobals mg → mg d.name = some (.ref fa) →
      ∃ fd : FuncData, (∀ (s : Shared) (u : Value), BindsTo s fd ⟨[u], []⟩ [("_law_script", u)]) ∧ ∀ base : Heap, (K w.params).In base → base.Ns mainGlobals mg → FnG l.prog w (K w.params) mg base CX0 6 fa fd ["_law_script"] (spLaw (K w.params))) :
    PySem.W.WalkO q loose XP YP l.row.toRowW d [] (fun f vs => PySem.call f vs) :=
  walk_ofG (n := 63) (k := 6) (x := "_law_script") (sp := spLaw) hn (by decide) hdf ⟨rfl, by decide, by decide⟩ hY F fun K H a ns hl _ hS => ⟨a, ns, rfl, hS, hl, fun _ => rfl⟩
end Fc
open PySem PySem.W PyProof.Rows
set_option maxRecDepth 100000 in
set_option maxHeartbeats 0 in
theorem PySem.Challenge.cw_farcalls_k29_whole_rows_handed_on_holds : PySem.Challenge.rw_farcalls_k29_whole_rows_handed_on.Holds := by
  w_on; o_law; k_head; (case hw => w_witness2)
  k_fill
  refine Fc.walk (l := PySem.Challenge.rw_farcalls_k29_whole_rows_handed_on) rfl rfl (fun w h Y => PySem.W.kIn_of Y) ?F
  case F =>
    intro w mg fa h KX G hmg
    refine' Fc.all_mk KX G hmg ?aW ?pg ?hd ?po ?sa ?mkC ?kc ?nf0 ?nf1 ?nf2 ?z_len ?z_isinstance ?z_int ?z_bool ?z_str ?z_list ?z_tuple ?z_range ?z_abs ?z_min ?z_max ?z_all ?z_repr ?z_dict ?aR ?aI ?iI ?lI ?cI ?kI ?a1 ?l1 ?c1 ?k1 ?a2 ?l2 ?c2 ?k2 ?a3 ?l3 ?c3 ?k3 ?a4 ?l4 ?c4 ?k4 ?a5 ?l5 ?c5 ?k5 ?a6 ?l6 ?c6 ?k6 ?a7 ?l7 ?c7 ?k7 ?a8 ?l8 ?c8 ?k8 ?a9 ?l9 ?c9 ?k9 ?a10 ?i10 ?l10 ?c10 ?k10 ?a11 ?i11 ?l11 ?c11 ?k11 ?a12 ?i12 ?l12 ?c12 ?k12 ?a13 ?i13 ?l13 ?c13 ?k13 ?a14 ?i14 ?l14 ?c14 ?k14 ?aL ?lL ?cL ?kL
    (case aW => k_is); (case pg => k_is); (case hd => k_is); (case po => k_is); (case sa => k_is); (case mkC => k_is); (case kc => k_is); (case nf0 => k_is)
    (case nf1 => k_is); (case nf2 => k_is); (case z_len => k_is); (case z_isinstance => k_is); (case z_int => k_is); (case z_bool => k_is); (case z_str => k_is); (case z_list => k_is)
    (case z_tuple => k_is); (case z_range => k_is); (case z_abs => k_is); (case z_min => k_is); (case z_max => k_is); (case z_all => k_is); (case z_repr => k_is); (case z_dict => k_is)
    (case aR => k_is); (case aI => k_is); (case iI => k_is); (case lI => k_is); (case cI => k_is); (case kI => k_is); (case a1 => k_is); (case l1 => k_is)
    (case c1 => k_is); (case k1 => k_is); (case a2 => k_is); (case l2 => k_is); (case c2 => k_is); (case k2 => k_is); (case a3 => k_is); (case l3 => k_is)
    (case c3 => k_is); (case k3 => k_is); (case a4 => k_is); (case l4 => k_is); (case c4 => k_is); (case k4 => k_is); (case a5 => k_is); (case l5 => k_is)
    (case c5 => k_is); (case k5 => k_is); (case a6 => k_is); (case l6 => k_is); (case c6 => k_is); (case k6 => k_is); (case a7 => k_is); (case l7 => k_is)
    (case c7 => k_is); (case k7 => k_is); (case a8 => k_is); (case l8 => k_is); (case c8 => k_is); (case k8 => k_is); (case a9 => k_is); (case l9 => k_is)
    (case c9 => k_is); (case k9 => k_is); (case a10 => k_is); (case i10 => k_is); (case l10 => k_is); (case c10 => k_is); (case k10 => k_is); (case a11 => k_is)
    (case i11 => k_is); (case l11 => k_is); (case c11 => k_is); (case k11 => k_is); (case a12 => k_is); (case i12 => k_is); (case l12 => k_is); (case c12 => k_is)
    (case k12 => k_is); (case a13 => k_is); (case i13 => k_is); (case l13 => k_is); (case c13 => k_is); (case k13 => k_is); (case a14 => k_is); (case i14 => k_is)
    (case l14 => k_is); (case c14 => k_is); (case k14 => k_is); (case aL => k_is); (case lL => k_is); (case cL => k_is); (case kL => k_is)
#print axioms PySem.Challenge.cw_farcalls_k29_whole_rows_handed_on_holds
