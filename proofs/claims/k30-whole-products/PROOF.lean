import PyProof.Rows.All
import Wide.All
import OpenK.AllK
import Wide.FinOn
import PySem.Challenge.RW_straightleast_k30_whole_products_of_chan
import HandS.ForMost
import HandS.IsInst
import HandS.NoneIn
import HandS.Zip
import HandS.Wide
import HandS.Conv
import HandS.Style
import HandS.Walk
import HandS.Codes
import HandS.EndBits
set_option Elab.async false
set_option linter.all false
set_option maxRecDepth 100000
set_option maxHeartbeats 4000000
/-! Helpers: lists by a function of the place, tables in the heap, least sums, comprehensions. -/
namespace K30
open PySem PySem.Spec PyProof.Rows L2

/-! ### least values -/
/-- v is the least of h over the places below m -/
def IsMin (m : Nat) (h : Nat → Int) (v : Int) : Prop := (∃ x, x < m ∧ h x = v) ∧ ∀ x, x < m → v ≤ h x
theorem IsMin.uniq {m : Nat} {h : Nat → Int} {v w : Int} (a : IsMin m h v) (b : IsMin m h w) : v = w := by
  obtain ⟨⟨x, hx, ex⟩, la⟩ := a
  obtain ⟨⟨y, hy, ey⟩, lb⟩ := b
  have h1 := la y hy
  have h2 := lb x hx
  omega
theorem IsMin.congr {m : Nat} {h h' : Nat → Int} {v : Int} (a : IsMin m h v) (e : ∀ x, x < m → h x = h' x) : IsMin m h' v := by
  obtain ⟨⟨x, hx, ex⟩, la⟩ := a
  refine ⟨⟨x, hx, by rw [← e x hx]; exact ex⟩, fun y hy => ?_⟩
  rw [← e y hy]
  exact la y hy
theorem IsMin.shift {m : Nat} {h : Nat → Int} {v : Int} (c : Int) (a : IsMin m h v) : IsMin m (fun x => h x + c) (v + c) := by
  obtain ⟨⟨x, hx, ex⟩, la⟩ := a
  exact ⟨⟨x, hx, by show h x + c = v + c; rw [ex]⟩, fun y hy => Int.add_le_add_right (la y hy) c⟩
theorem IsMin.scale {m : Nat} {h : Nat → Int} {v : Int} {c : Int} (hc : 0 ≤ c) (a : IsMin m h v) : IsMin m (fun x => h x * c) (v * c) := by
  obtain ⟨⟨x, hx, ex⟩, la⟩ := a
  exact ⟨⟨x, hx, by show h x * c = v * c; rw [ex]⟩, fun y hy => Int.mul_le_mul_of_nonneg_right (la y hy) hc⟩

/-! ### lists by a function of the place -/
def vec (n : Nat) (g : Nat → V) : List V := (List.range n).map g
def ivec (n : Nat) (g : Nat → Int) : List Int := (List.range n).map g
theorem vec_len (n : Nat) (g : Nat → V) : (vec n g).length = n := by unfold vec; rw [List.length_map, List.length_range]
theorem ivec_len (n : Nat) (g : Nat → Int) : (ivec n g).length = n := by unfold ivec; rw [List.length_map, List.length_range]
theorem vec_get {n i : Nat} (g : Nat → V) (h : i < n) : (vec n g)[i]? = some (g i) := by
  unfold vec
  rw [List.getElem?_map, List.getElem?_range h]
  rfl
theorem vec_at {n i : Nat} {g : Nat → V} {x : V} (h : (vec n g)[i]? = some x) : i < n ∧ x = g i := by
  have hl : i < (vec n g).length := (List.getElem?_eq_some_iff.mp h).1
  rw [vec_len] at hl
  rw [vec_get g hl] at h
  exact ⟨hl, (Option.some.inj h).symm⟩
theorem vec_succ (n : Nat) (g : Nat → V) : vec (n + 1) g = vec n g ++ [g n] := by
  unfold vec
  rw [List.range_succ, List.map_append]
  rfl
theorem vec_congr {n : Nat} {g g' : Nat → V} (h : ∀ i, i < n → g i = g' i) : vec n g = vec n g' := by
  unfold vec
  exact List.map_congr_left fun i hi => h i (List.mem_range.mp hi)
theorem vec_int (n : Nat) (g : Nat → Int) : vec n (fun j => .int (g j)) = (ivec n g).map V.int := by
  unfold vec ivec
  rw [List.map_map]
  rfl
theorem vec_bl : ∀ n : Nat, vec n (fun _ => .bl true) = (List.replicate n true).map V.bl
  | 0 => rfl
  | n + 1 => by
    rw [vec_succ, vec_bl n, List.replicate_succ', List.map_append]
    rfl
theorem all_rep (n : Nat) : (List.replicate n true).all id = true := by simp
theorem mem_ivec {n : Nat} {g : Nat → Int} {v : Int} (h : v ∈ ivec n g) : ∃ x, x < n ∧ g x = v := by
  unfold ivec at h
  obtain ⟨x, hx, e⟩ := List.mem_map.mp h
  exact ⟨x, List.mem_range.mp hx, e⟩
theorem ivec_mem {n x : Nat} (g : Nat → Int) (h : x < n) : g x ∈ ivec n g := by
  unfold ivec
  exact List.mem_map.mpr ⟨x, List.mem_range.mpr h, rfl⟩
theorem isMin_of {n : Nat} {g : Nat → Int} {v : Int} (h : v ∈ ivec n g) (l : ∀ y, y ∈ ivec n g → v ≤ y) : IsMin n g v :=
  ⟨mem_ivec h, fun x hx => l _ (ivec_mem g hx)⟩
/-- any list of ints by a function -/
theorem ints_vec (ns : List Int) : ns.map V.int = vec ns.length (fun j => .int (ns.getD j 0)) := by
  refine List.ext_getElem? fun i => ?_
  rw [List.getElem?_map]
  by_cases h : i < ns.length
  · rw [vec_get _ h, List.getElem?_eq_getElem h, List.getD_eq_getElem?_getD, List.getElem?_eq_getElem h]
    rfl
  · rw [List.getElem?_eq_none (by omega), List.getElem?_eq_none (by rw [vec_len]; omega)]
    rfl
theorem at_vec {n : Nat} {g : Nat → V} {i : Int} (h0 : 0 ≤ i) (h1 : i < (n : Int)) : atI (vec n g) i = some (g i.toNat) := by
  have e : i = ((i.toNat : Nat) : Int) := by omega
  have hl : i.toNat < n := by omega
  rw [e]
  exact atI_nat (vec_get g hl)
theorem small_size {n : Nat} (h : n ≤ 1000) : n ≤ sizeLine := Nat.le_of_lt (small1000 h)

/-! ### the heap: what stands -/
/-- all but the list at f stands -/
def SameX (f : Addr) (H H' : Hp) : Prop := ∀ b o, b ≠ f → H b = some o → H' b = some o
theorem SameX.refl (f : Addr) (H : Hp) : SameX f H H := fun _ _ _ h => h
theorem SameX.trans {f : Addr} {H H1 H2 : Hp} (a : SameX f H H1) (b : SameX f H1 H2) : SameX f H H2 := fun c o n h => b c o n (a c o n h)
theorem _root_.L2.Same.x {f : Addr} {H H' : Hp} (s : Same H H') : SameX f H H' := fun b o _ h => s b o h
theorem same_upd {H : Hp} {p : Addr} {o : HO} (h : H p = none) : Same H (upd H p o) := fun b x e => by
  rw [upd_ne (ne_of_none e h)]
  exact e
theorem sameX_upd {H : Hp} {f : Addr} {o : HO} : SameX f H (upd H f o) := fun b x n e => by
  rw [upd_ne n]
  exact e
/-- the tuples stand -/
def KT (H H' : Hp) : Prop := ∀ b xs, H b = some (.tup xs) → H' b = some (.tup xs)
theorem KT.refl (H : Hp) : KT H H := fun _ _ h => h
theorem KT.trans {H H1 H2 : Hp} (a : KT H H1) (b : KT H1 H2) : KT H H2 := fun c o h => b c o (a c o h)
theorem _root_.L2.Same.kt {H H' : Hp} (s : Same H H') : KT H H' := fun b xs h => s b _ h
theorem SameX.kt {f : Addr} {H H' : Hp} {ys : List V} (s : SameX f H H') (hf : H f = some (.lst ys)) : KT H H' := fun b xs h => s b _ (ne_of h hf (fun z => by cases z)) h
theorem kt_lst {H : Hp} {D : Addr} {xs ys : List V} (h : H D = some (.lst xs)) : KT H (upd H D (.lst ys)) := fun b zs e => by
  rw [upd_ne (ne_of e h (fun z => by cases z))]
  exact e
theorem kt_new {H : Hp} {p : Addr} {o : HO} (h : H p = none) : KT H (upd H p o) := L2.Same.kt (same_upd h)

/-- a tuple of ints -/
def TupI (H : Hp) (a : Addr) (n : Nat) (f : Nat → Int) : Prop := H a = some (.tup (vec n fun j => .int (f j)))
/-- a table of n rows and m columns -/
def TabAt (H : Hp) (a : Addr) (n m : Nat) (f : Nat → Nat → Int) : Prop :=
  ∃ rows : Nat → Addr, H a = some (.tup (vec n fun i => .ref (rows i))) ∧ ∀ i, i < n → TupI H (rows i) m (f i)
theorem TupI.kt {H H' : Hp} {a : Addr} {n : Nat} {f : Nat → Int} (h : TupI H a n f) (k : KT H H') : TupI H' a n f := k _ _ h
theorem TupI.congr {H : Hp} {a : Addr} {n : Nat} {f g : Nat → Int} (h : TupI H a n f) (e : ∀ i, i < n → f i = g i) : TupI H a n g := by
  have e2 : vec n (fun j => .int (f j)) = vec n (fun j => .int (g j)) := vec_congr fun i hi => by rw [e i hi]
  show H a = some (.tup (vec n fun j => .int (g j)))
  rw [← e2]
  exact h
theorem TabAt.kt {H H' : Hp} {a : Addr} {n m : Nat} {f : Nat → Nat → Int} (h : TabAt H a n m f) (k : KT H H') : TabAt H' a n m f := by
  obtain ⟨rows, h1, h2⟩ := h
  exact ⟨rows, k _ _ h1, fun i hi => (h2 i hi).kt k⟩
theorem TabAt.congr {H : Hp} {a : Addr} {n m : Nat} {f g : Nat → Nat → Int} (h : TabAt H a n m f) (e : ∀ i j, i < n → j < m → f i j = g i j) : TabAt H a n m g := by
  obtain ⟨rows, h1, h2⟩ := h
  exact ⟨rows, h1, fun i hi => (h2 i hi).congr fun j hj => e i j hi hj⟩
/-- a list of ints -/
def LstI (H : Hp) (a : Addr) (n : Nat) (f : Nat → Int) : Prop := H a = some (.lst (vec n fun j => .int (f j)))

/-! ### == of tables -/
def tabD (n m : Nat) (f : Nat → Nat → Int) : PyData := .tuple ((List.range n).map fun i => .tuple ((List.range m).map fun j => .int (f i j)))
section
variable {K : PySem.W.Frag} {H : Hp}
theorem dpAll_map {L : List Nat} {g : Nat → V} {d : Nat → PyData} (h : ∀ i, i ∈ L → Dp K H (g i) (d i)) : DpAll K H (L.map g) (L.map d) := by
  induction L with
  | nil => exact .nil
  | cons x r ih => exact .cons (h x List.mem_cons_self) (ih fun i hi => h i (List.mem_cons_of_mem _ hi))
theorem TupI.dp {a : Addr} {n : Nat} {f : Nat → Int} (h : TupI H a n f) : Dp K H (.ref a) (.tuple ((List.range n).map fun j => .int (f j))) :=
  .tup (SqT.of h) (dpAll_map fun i _ => .int _)
theorem LstI.dp {a : Addr} {n : Nat} {f : Nat → Int} (h : LstI H a n f) : Dp K H (.ref a) (.list ((List.range n).map fun j => .int (f j))) :=
  .lst (SqL.of h) (dpAll_map fun i _ => .int _)
theorem TabAt.dp {a : Addr} {n m : Nat} {f : Nat → Nat → Int} (h : TabAt H a n m f) : Dp K H (.ref a) (tabD n m f) := by
  obtain ⟨rows, h1, h2⟩ := h
  exact .tup (SqT.of h1) (dpAll_map fun i hi => (h2 i (List.mem_range.mp hi)).dp)
end
theorem canAll_map {L : List Nat} {d : Nat → PyData} (h : ∀ i, i ∈ L → (d i).canLay0 = true) : PyData.canLayAll0 (L.map d) = true := by
  induction L with
  | nil => rfl
  | cons x r ih =>
    rw [List.map_cons, PyData.canLayAll0, h x List.mem_cons_self, ih fun i hi => h i (List.mem_cons_of_mem _ hi)]
    rfl
theorem depthAll_map {L : List Nat} {d : Nat → PyData} {k : Nat} (h : ∀ i, i ∈ L → (d i).depth ≤ k) : PyData.depthAll (L.map d) ≤ k := by
  induction L with
  | nil => exact Nat.zero_le _
  | cons x r ih =>
    rw [List.map_cons, PyData.depthAll]
    exact Nat.max_le.mpr ⟨h x List.mem_cons_self, ih fun i hi => h i (List.mem_cons_of_mem _ hi)⟩
theorem row_can (m : Nat) (f : Nat → Int) : (PyData.tuple ((List.range m).map fun j => .int (f j))).canLay0 = true := by
  rw [PyData.canLay0]
  exact canAll_map fun i _ => by rw [PyData.canLay0]
theorem row_depth (m : Nat) (f : Nat → Int) : (PyData.tuple ((List.range m).map fun j => .int (f j))).depth ≤ 1 := by
  rw [PyData.depth]
  exact Nat.succ_le_succ (depthAll_map fun i _ => by rw [PyData.depth]; exact Nat.le_refl 0)
theorem lrow_can (m : Nat) (f : Nat → Int) : (PyData.list ((List.range m).map fun j => .int (f j))).canLay0 = true := by
  rw [PyData.canLay0]
  exact canAll_map fun i _ => by rw [PyData.canLay0]
theorem lrow_depth (m : Nat) (f : Nat → Int) : (PyData.list ((List.range m).map fun j => .int (f j))).depth ≤ 1 := by
  rw [PyData.depth]
  exact Nat.succ_le_succ (depthAll_map fun i _ => by rw [PyData.depth]; exact Nat.le_refl 0)
theorem lrow_shaped (m : Nat) (f : Nat → Int) : SeqAt.shaped (PyData.list ((List.range m).map fun j => .int (f j))) = true := by
  unfold SeqAt.shaped
  have h := lrow_depth m f
  rw [lrow_can, decide_eq_true (by omega)]
  rfl
theorem tab_can (n m : Nat) (f : Nat → Nat → Int) : (tabD n m f).canLay0 = true := by
  unfold tabD
  rw [PyData.canLay0]
  exact canAll_map fun i _ => row_can m (f i)
theorem tab_depth (n m : Nat) (f : Nat → Nat → Int) : (tabD n m f).depth ≤ 2 := by
  unfold tabD
  rw [PyData.depth]
  exact Nat.succ_le_succ (depthAll_map fun i _ => row_depth m (f i))
theorem tab_shaped (n m : Nat) (f : Nat → Nat → Int) : SeqAt.shaped (tabD n m f) = true := by
  unfold SeqAt.shaped
  have h := tab_depth n m f
  rw [tab_can, decide_eq_true (by omega)]
  rfl
theorem tab_congr {n m : Nat} {f g : Nat → Nat → Int} (e : ∀ i j, i < n → j < m → f i j = g i j) : tabD n m f = tabD n m g := by
  unfold tabD
  refine congrArg PyData.tuple (List.map_congr_left fun i hi => congrArg PyData.tuple (List.map_congr_left fun j hj => ?_))
  rw [e i j (List.mem_range.mp hi) (List.mem_range.mp hj)]
/-- two tables of the same entries: != is False -/
theorem ne_tabs {K : PySem.W.Frag} {H : Hp} {a b : Addr} {n m : Nat} {f g : Nat → Nat → Int} {Q : VK} (ha : TabAt H a n m f) (hb : TabAt H b n m g) (e : ∀ i j, i < n → j < m → f i j = g i j) (q : Q (.bl false) H) : rNeD K (.ref a) (.ref b) H Q := by
  refine ⟨tabD n m f, tabD n m g, ha.dp, hb.dp, tab_shaped n m f, tab_shaped n m g, ?_⟩
  rw [tab_congr e, SeqAt.eqv_refl _ (tab_can n m g)]
  exact q

/-! ### zip of two tuples as a walk -/
theorem walk_zipT {K : PySem.W.Frag} {a b : Addr} {xs ys : List V} {n : Nat} (hn : n = min xs.length ys.length) : Walk (RZ.ItzT K a b) n (fun H => SqT K H a xs ∧ SqT K H b ys) (YPair (fun i => xs[i]?) (fun i => ys[i]?)) where
  goes i _ hi both := by
    have hx : i < xs.length := by omega
    have hy : i < ys.length := by omega
    exact ⟨xs, ys, _, _, both.1, both.2, List.getElem?_eq_getElem hx, List.getElem?_eq_getElem hy⟩
  stops _ both := ⟨xs, ys, both.1, both.2, by omega⟩
  yields i _ _ _ _ both told := by
    obtain ⟨T, x, y, e1, e2, e3, gx, gy⟩ := told
    exact ⟨T, x, y, e1, e2, e3, gx xs both.1, gy ys both.2⟩

/-! ### comprehensions -/
section
variable {J : It} {n : Nat} {G : Hp → Prop} {Y : Nat → Hp → V → Hp → Prop} {g : TG} {tt : TT} {te : TE} {vs : List Nat} {σ : L2.St} {H1 : Hp} {D : Addr} {Qd : Hp → Prop}
/-- one turn of a comprehension: the item x is given at H'; it ends with the new list at D one longer (or as it was), and there Nx -/
abbrev LcTurn (g : TG) (tt : TT) (te : TE) (vs : List Nat) (σ : L2.St) (D : Addr) (Nx : Hp → Prop) (x : V) (Hx : Hp) : Prop :=
  g x (wipe σ vs) Hx fun τ Ha => wipe τ vs = wipe σ vs ∧ tt τ Ha fun keep Hb =>
    if keep = true then (te τ Hb fun y Hc => ∃ made, Hc D = some (.lst made) ∧ made.length < sizeLine ∧ Nx (upd Hc D (.lst (made ++ [y])))) else Nx Hb
/-- what a comprehension's reading asks once the new list stands at D -/
abbrev LcGoal (J : It) (g : TG) (tt : TT) (te : TE) (vs : List Nat) (σ : L2.St) (H1 : Hp) (D : Addr) (Qd : Hp → Prop) : Prop :=
  ∃ Word : Nat → Nat → Hp → Prop, (∃ size, Word 0 size (upd H1 D (.lst []))) ∧
    ∀ turn size Hn, Word turn size Hn → (J.stop turn Hn ∧ Qd Hn) ∨
      (J.go turn Hn ∧ ∃ Nx : Hp → Prop, (∀ Ha, Nx Ha → ∃ less, less < size ∧ Word (turn + 1) less Ha) ∧ ∀ x Hx, J.yld turn Hn x Hx → LcTurn g tt te vs σ D Nx x Hx)
/-- B: what holds of the turn, the items made so far, the heap (the new list at D holds them) -/
theorem lc_acc (w : Walk J n G Y) (hn : n ≤ 1000) (B : Nat → List V → Hp → Prop) (h0 : B 0 [] (upd H1 D (.lst []))) (hG : ∀ i acc H, i ≤ n → B i acc H → G H)
    (hs : ∀ i x acc H H' (R : VK) (R' : Hp → Prop), i < n → B i acc H → H D = some (.lst acc) → Y i H x H' → (∀ y H4, H4 D = some (.lst acc) → B (i + 1) (acc ++ [y]) (upd H4 D (.lst (acc ++ [y]))) → R y H4) → (∀ H3, H3 D = some (.lst acc) → B (i + 1) acc H3 → R' H3) →
      g x (wipe σ vs) H' fun σ2 H2 => wipe σ2 vs = wipe σ vs ∧ tt σ2 H2 fun b H3 => if b = true then te σ2 H3 R else R' H3)
    (hd : ∀ acc H, acc.length ≤ n → H D = some (.lst acc) → B n acc H → Qd H) : LcGoal J g tt te vs σ H1 D Qd := by
  refine lc_it w (fun i H => ∃ acc, acc.length ≤ i ∧ H D = some (.lst acc) ∧ B i acc H) ⟨[], Nat.le_refl _, upd_same, h0⟩ (fun i H hi ⟨acc, _, _, b⟩ => hG i acc H hi b) ?_ fun H ⟨acc, hl, hD, b⟩ => hd acc H hl hD b
  rintro i x H H' hi ⟨acc, hl, hD, b⟩ hy
  refine hs i x acc H H' _ _ hi b hD hy (fun y H4 h4 b4 => ?_) fun H3 h3 b3 => ?_
  · exact ⟨acc, h4, small1000 (by omega), acc ++ [y], by rw [List.length_append]; exact Nat.succ_le_succ hl, upd_same, b4⟩
  · exact ⟨acc, Nat.le_succ_of_le hl, h3, b3⟩
/-- items told by their place, all that stood stands -/
theorem lc_vec (w : Walk J n G Y) (hn : n ≤ 1000) (hD : H1 D = none) (e : Nat → V) (hG : ∀ H, Same H1 H → G H)
    (hs : ∀ i x H H' (R : VK) (R' : Hp → Prop), i < n → Same H1 H → Y i H x H' → (∀ H4, Same H' H4 → R (e i) H4) →
      (g x (wipe σ vs) H' fun σ2 H2 => wipe σ2 vs = wipe σ vs ∧ tt σ2 H2 fun b H3 => if b = true then te σ2 H3 R else R' H3) ∧ Same H H')
    (hd : ∀ H, Same H1 H → H D = some (.lst (vec n e)) → Qd H) : LcGoal J g tt te vs σ H1 D Qd := by
  refine lc_acc w hn (fun i acc H => acc = vec i e ∧ Same H1 H) ⟨rfl, same_upd hD⟩ (fun i acc H _ b => hG H b.2) ?_ fun acc H _ h b => hd H b.2 (by rw [← b.1]; exact h)
  rintro i x acc H H' R R' hi ⟨rfl, sm⟩ hDa hy hR hR'
  have key : ∀ H4, Same H H' → Same H' H4 → R (e i) H4 := fun H4 s1 s2 => by
    refine hR (e i) H4 (s2 _ _ (s1 _ _ hDa)) ⟨(vec_succ i e).symm, fun b o q => ?_⟩
    have hb : b ≠ D := ne_of_none q hD
    rw [upd_ne hb]
    exact s2 _ _ (s1 _ _ (sm _ _ q))
  have s0 : Same H H' := (hs i x H H' (fun _ _ => True) (fun _ => True) hi sm hy fun _ _ => trivial).2
  exact (hs i x H H' R R' hi sm hy fun H4 s => key H4 s0 s).1
/-- items that are new tuples of ints told by their place -/
theorem lc_tab (w : Walk J n G Y) (hn : n ≤ 1000) (hD : H1 D = none) (m : Nat) (f : Nat → Nat → Int) (hG : ∀ H, Same H1 H → G H)
    (hs : ∀ i x H H' (R : VK) (R' : Hp → Prop), i < n → Same H1 H → Y i H x H' → (∀ p H4, Same H' H4 → TupI H4 p m (f i) → R (.ref p) H4) →
      (g x (wipe σ vs) H' fun σ2 H2 => wipe σ2 vs = wipe σ vs ∧ tt σ2 H2 fun b H3 => if b = true then te σ2 H3 R else R' H3) ∧ Same H H')
    (hd : ∀ H (rows : Nat → Addr), Same H1 H → H D = some (.lst (vec n fun i => .ref (rows i))) → (∀ i, i < n → TupI H (rows i) m (f i)) → Qd H) : LcGoal J g tt te vs σ H1 D Qd := by
  refine lc_acc w hn (fun i acc H => ∃ rows : Nat → Addr, acc = vec i (fun j => .ref (rows j)) ∧ Same H1 H ∧ ∀ j, j < i → TupI H (rows j) m (f j)) ⟨fun _ => 0, rfl, same_upd hD, fun j hj => absurd hj (Nat.not_lt_zero j)⟩ (fun i acc H _ ⟨_, _, b, _⟩ => hG H b) ?_ fun acc H _ h ⟨rows, b1, b2, b3⟩ => hd H rows b2 (by rw [← b1]; exact h) b3
  rintro i x acc H H' R R' hi ⟨rows, rfl, sm, ht⟩ hDa hy hR hR'
  have s0 : Same H H' := (hs i x H H' (fun _ _ => True) (fun _ => True) hi sm hy fun _ _ _ _ => trivial).2
  refine (hs i x H H' R R' hi sm hy fun p H4 s2 tp => ?_).1
  have h4 := s2 _ _ (s0 _ _ hDa)
  refine hR (.ref p) H4 h4 ⟨fun j => if j = i then p else rows j, ?_, fun b o q => ?_, fun j hj => ?_⟩
  · rw [vec_succ]
    have e1 : vec i (fun j => V.ref (rows j)) = vec i (fun j => V.ref (if j = i then p else rows j)) := vec_congr fun j hj => by rw [if_neg (by omega)]
    rw [e1]
    show _ = _ ++ [V.ref (if i = i then p else rows i)]
    rw [if_pos rfl]
  · have hb : b ≠ D := ne_of_none q hD
    rw [upd_ne hb]
    exact s2 _ _ (s0 _ _ (sm _ _ q))
  · show TupI _ (if j = i then p else rows j) m (f j)
    by_cases hji : j = i
    · subst hji
      rw [if_pos rfl]
      exact tp.kt (kt_lst h4)
    · rw [if_neg hji]
      exact ((ht j (by omega)).kt (s0.kt.trans s2.kt)).kt (kt_lst h4)
end
end K30
set_option Elab.async false
set_option linter.all false
set_option maxRecDepth 100000
set_option maxHeartbeats 4000000
/-! The program's kinds: each def's promise. -/
namespace K30
open PySem PySem.Spec PyProof.Rows L2
open C8 (Cal pe_c)

/-! ### the text -/
def topS (i : Nat) : Stmt := PySem.Challenge.pw_straightleast_k30_whole_products_of_chan.main.body.getD i (.Pass ⟨0, 0, 0, 0⟩)
/-- a def of the top and where its name leads -/
structure Df (K : PySem.W.Frag) (mg : Str → Option Value) (x : Str) (st : Stmt) : Prop where
  ex : ∃ (f : Addr) (fd : FuncData), Fun K x x st f fd ∧ mg x = some (.ref f)
section
variable {P : Program} {w : World} {K : PySem.W.Frag} {mg : Str → Option Value} {base : Heap}
theorem Df.cal {x : Str} {st : Stmt} {N ps : List Str} {k : Nat} {sp : Sp} (D : Df K mg x st) (S : FnScope N ps (defScope st))
    (hb : ∀ (f : Addr) (fd : FuncData), Fun K x x st f fd → Binds K fd ps []) (len : ∀ vs H Q E, sp vs H Q E → vs.length = ps.length)
    (hbody : ∀ (f : Addr) (cdv : Value) (A : Around) (outer : List Env) (s : Shared) (H : Hp) (vs : List V) (Q : VK) (E : XK), Room k (A.deeper (envOfC x (defScope st) s.heap.objs.size f cdv)) → sp vs H Q E →
      ∃ t, PSs (cxOf CX0 P w K mg base N x (defScope st) f cdv A outer s H E).nox (defBody st) t ∧ t { nx := fun _ H' => Q .non H', rt := Q } (start N vs) H) : Cal P w K mg base (k + 1) x sp [] := by
  obtain ⟨f, fd, F, g⟩ := D.ex
  exact ⟨f, fd, ps, [], F.ok S len (hbody f), g, F.kp, hb f fd F, .nil⟩
end
theorem q_true {c : Prop} [Decidable c] {Q : VK} {H : Hp} (h : c) (q : Q (.bl true) H) : Q (.bl (decide c)) H := by
  rw [decide_eq_true h]
  exact q
theorem q_false {c : Prop} [Decidable c] {Q : VK} {H : Hp} (h : ¬ c) (q : Q (.bl false) H) : Q (.bl (decide c)) H := by
  rw [decide_eq_false h]
  exact q
/-- the built-ins stand -/
structure Bt (mg : Str → Option Value) : Prop where
  isi : mg "isinstance" = none
  int_ : mg "int" = none
  bool_ : mg "bool" = none
  tup : mg "tuple" = none
  len : mg "len" = none
  all : mg "all" = none
  zip : mg "zip" = none
  rng : mg "range" = none
  min : mg "min" = none
  max : mg "max" = none
  sum : mg "sum" = none
  enm : mg "enumerate" = none

abbrev sIsInteger : Stmt := topS 8
abbrev sIsWithin : Stmt := topS 9
abbrev sIsRowOf : Stmt := topS 10
abbrev sAreIntegers : Stmt := topS 11
abbrev sAreNumbers : Stmt := topS 12
abbrev sAreRising : Stmt := topS 13
abbrev sAreIndexes : Stmt := topS 14
abbrev sNeedNumber : Stmt := topS 15
theorem scIsInteger : FnScope ["thing"] ["thing"] (defScope sIsInteger) := ⟨rfl, rfl, rfl, by decide +kernel, rfl, by decide +kernel, by decide +kernel⟩
theorem scIsWithin : FnScope ["thing", "least", "most"] ["thing", "least", "most"] (defScope sIsWithin) := ⟨rfl, rfl, rfl, by decide +kernel, rfl, by decide +kernel, by decide +kernel⟩
theorem scIsRowOf : FnScope ["thing", "least", "most"] ["thing", "least", "most"] (defScope sIsRowOf) := ⟨rfl, rfl, rfl, by decide +kernel, rfl, by decide +kernel, by decide +kernel⟩
theorem scAreIntegers : FnScope ["thing", "many", "one"] ["thing", "many"] (defScope sAreIntegers) := ⟨rfl, rfl, rfl, by decide +kernel, rfl, by decide +kernel, by decide +kernel⟩
theorem scAreNumbers : FnScope ["thing", "many", "count", "one"] ["thing", "many", "count"] (defScope sAreNumbers) := ⟨rfl, rfl, rfl, by decide +kernel, rfl, by decide +kernel, by decide +kernel⟩
theorem scAreRising : FnScope ["numbers", "one", "other"] ["numbers"] (defScope sAreRising) := ⟨rfl, rfl, rfl, by decide +kernel, rfl, by decide +kernel, by decide +kernel⟩
theorem scAreIndexes : FnScope ["thing", "count"] ["thing", "count"] (defScope sAreIndexes) := ⟨rfl, rfl, rfl, by decide +kernel, rfl, by decide +kernel, by decide +kernel⟩
theorem scNeedNumber : FnScope ["number", "least", "most"] ["number", "least", "most"] (defScope sNeedNumber) := ⟨rfl, rfl, rfl, by decide +kernel, rfl, by decide +kernel, by decide +kernel⟩

/-! ### the promises -/
def spIsInteger : Sp := fun vs H Q _ => ∃ i : Int, vs = [.int i] ∧ Q (.bl true) H
def spIsWithin : Sp := fun vs H Q _ => ∃ i lo hi : Int, vs = [.int i, .int lo, .int hi] ∧ lo ≤ i ∧ i ≤ hi ∧ Q (.bl true) H
def spIsRowOf : Sp := fun vs H Q _ => ∃ (a : Addr) (xs : List V) (lo hi : Int), vs = [.ref a, .int lo, .int hi] ∧ H a = some (.tup xs) ∧ lo ≤ xs.length ∧ (xs.length : Int) ≤ hi ∧ Q (.bl true) H
/-- a tuple of n ints -/
def spAreIntegers : Sp := fun vs H Q _ => ∃ (a : Addr) (n : Nat) (f : Nat → Int), vs = [.ref a, .int n] ∧ TupI H a n f ∧ n ≤ 1000 ∧ ∀ H', Same H H' → Q (.bl true) H'
def spAreNumbers : Sp := fun vs H Q _ => ∃ (a : Addr) (n : Nat) (f : Nat → Int) (c : Int), vs = [.ref a, .int n, .int c] ∧ TupI H a n f ∧ n ≤ 1000 ∧ (∀ j, j < n → 0 ≤ f j ∧ f j < c) ∧ ∀ H', Same H H' → Q (.bl true) H'
def spAreRising : Sp := fun vs H Q _ => ∃ (a : Addr) (n : Nat) (f : Nat → Int), vs = [.ref a] ∧ TupI H a n f ∧ 1 ≤ n ∧ n ≤ 1000 ∧ (∀ j, j + 1 < n → f j < f (j + 1)) ∧ ∀ H', Same H H' → Q (.bl true) H'
/-- rising indexes below c -/
def Idx (n : Nat) (f : Nat → Int) (c : Int) : Prop := 1 ≤ n ∧ (n : Int) ≤ c ∧ (∀ j, j < n → 0 ≤ f j ∧ f j < c) ∧ ∀ j, j + 1 < n → f j < f (j + 1)
def spAreIndexes : Sp := fun vs H Q _ => ∃ (a : Addr) (n : Nat) (f : Nat → Int) (c : Int), vs = [.ref a, .int c] ∧ TupI H a n f ∧ n ≤ 1000 ∧ Idx n f c ∧ ∀ H', Same H H' → Q (.bl true) H'
def spNeedNumber : Sp := fun vs H Q _ => ∃ i lo hi : Int, vs = [.int i, .int lo, .int hi] ∧ lo ≤ i ∧ i ≤ hi ∧ Q .non H

section
variable {P : Program} {w : World} {K : PySem.W.Frag} {mg : Str → Option Value} {base : Heap}
theorem cal_is_integer (D : Df K mg "is_integer" sIsInteger) (B : Bt mg) : Cal P w K mg base 1 "is_integer" spIsInteger [] := by
  refine D.cal scIsInteger (fun f fd F => F.binds fun _ _ _ _ _ _ us hl => match us, hl with | [_], _ => rfl) (fun vs H Q E h => ?_) fun f cdv A outer s H vs Q E hr h => ?_
  · obtain ⟨i, rfl, _⟩ := h
    rfl
  · obtain ⟨i, rfl, q⟩ := h
    refine ⟨_, pss_one (ps_ret (pe_and (pe_callB call_isi (by rfl) B.isi (by decide +kernel) (pa_cons (pv 0) (pa_cons (pe_bltn (v := .ty "int") (by rfl) B.int_ (by decide +kernel) rfl) pa_nil)))
      (pe_one (pe_not (pe_callB call_isi (by rfl) B.isi (by decide +kernel) (pa_cons (pv 0) (pa_cons (pe_bltn (v := .ty "bool") (by rfl) B.bool_ (by decide +kernel) rfl) pa_nil))))))), ?_⟩
    refine ⟨_, rfl, .int i, .ty "int", .type "int", .type "int", true, rfl, .ty _, .base (.int i), kit_ty (by decide +kernel), true, rfl, iteT ?_⟩
    exact ⟨_, rfl, .int i, .ty "bool", .type "int", .type "bool", false, rfl, .ty _, .base (.int i), kit_ty (by decide +kernel), false, rfl, q⟩
theorem cal_is_within (D : Df K mg "is_within" sIsWithin) (B : Bt mg) (C : Cal P w K mg base 1 "is_integer" spIsInteger []) : Cal P w K mg base 2 "is_within" spIsWithin [] := by
  refine D.cal scIsWithin (fun f fd F => F.binds fun _ _ _ _ _ _ us hl => match us, hl with | [_, _, _], _ => rfl) (fun vs H Q E h => ?_) fun f cdv A outer s H vs Q E hr h => ?_
  · obtain ⟨i, lo, hi, rfl, _⟩ := h
    rfl
  · obtain ⟨i, lo, hi, rfl, h1, h2, q⟩ := h
    refine ⟨_, pss_one (ps_ret (pe_and (pe_c C hr (by decide) (by rfl) (pa_cons (pv 0) pa_nil)) (pe_one (pe_chain op_le op_le (pv 1) (pv 0) (pv 2))))), ?_⟩
    refine ⟨_, rfl, i, rfl, true, rfl, iteT ?_⟩
    refine ⟨_, rfl, _, rfl, lo, i, rfl, rfl, true, congrArg V.bl (decide_eq_true h1), iteT ⟨_, rfl, i, hi, rfl, rfl, q_true h2 q⟩⟩
theorem cal_is_row_of (D : Df K mg "is_row_of" sIsRowOf) (B : Bt mg) : Cal P w K mg base 1 "is_row_of" spIsRowOf [] := by
  refine D.cal scIsRowOf (fun f fd F => F.binds fun _ _ _ _ _ _ us hl => match us, hl with | [_, _, _], _ => rfl) (fun vs H Q E h => ?_) fun f cdv A outer s H vs Q E hr h => ?_
  · obtain ⟨a, xs, lo, hi, rfl, _⟩ := h
    rfl
  · obtain ⟨a, xs, lo, hi, rfl, ha, h1, h2, q⟩ := h
    refine ⟨_, pss_one (ps_ret (pe_and (pe_callB call_isi (by rfl) B.isi (by decide +kernel) (pa_cons (pv 0) (pa_cons (pe_bltn (v := .ty "tuple") (by rfl) B.tup (by decide +kernel) rfl) pa_nil)))
      (pe_one (pe_chain op_le op_le (pv 1) (pe_callB call_len_seq (by rfl) B.len PySem.boot_len (pa_cons (pv 0) pa_nil)) (pv 2))))), ?_⟩
    refine ⟨_, rfl, .ref a, .ty "tuple", .type "tuple", .type "tuple", true, rfl, .ty _, .base (.tup ha), kit_ty (by decide +kernel), true, rfl, iteT ?_⟩
    refine ⟨_, rfl, _, rfl, a, xs, rfl, .inr (SqT.of ha), lo, _, rfl, rfl, true, congrArg V.bl (decide_eq_true h1), iteT ⟨_, rfl, _, hi, rfl, rfl, q_true h2 q⟩⟩
theorem cal_are_integers (D : Df K mg "are_integers" sAreIntegers) (B : Bt mg) (C : Cal P w K mg base 1 "is_integer" spIsInteger []) (C2 : Cal P w K mg base 1 "is_row_of" spIsRowOf []) : Cal P w K mg base 2 "are_integers" spAreIntegers [] := by
  refine D.cal scAreIntegers (fun f fd F => F.binds fun _ _ _ _ _ _ us hl => match us, hl with | [_, _], _ => rfl) (fun vs H Q E h => ?_) fun f cdv A outer s H vs Q E hr h => ?_
  · obtain ⟨a, n, f, rfl, _⟩ := h
    rfl
  · obtain ⟨a, n, f, rfl, ha, hn, q⟩ := h
    refine ⟨_, pss_one (ps_ret (pe_and (pe_c C2 hr (by decide) (by rfl) (pa_cons (pv 0) (pa_cons (pv 1) (pa_cons (pv 1) pa_nil))))
      (pe_one (pe_callB (cr_all rfl) (by rfl) B.all (by decide +kernel) (pa_cons
        (pe_lc (own := [("one", 2)]) (g := gName 2) (tt := tYes) rfl scAreIntegers.nd (pi_tup (pv 0)) (blkOk_by (N := ["thing", "many", "one"]) (sc := defScope sAreIntegers) (by decide +kernel))
          (fun _ _ _ _ _ => pg_name (i := 2) scAreIntegers.nd rfl (Or.inl rfl)) (fun _ _ _ _ _ => pts_nil) (fun _ _ _ _ _ => pe_c C hr (by decide) (by rfl) (pa_cons (pv 2) pa_nil))) pa_nil))))), ?_⟩
    refine ⟨_, rfl, _, rfl, _, rfl, a, _, n, n, rfl, ha, by rw [vec_len]; exact Int.le_refl _, by rw [vec_len]; exact Int.le_refl _, true, rfl, iteT ?_⟩
    refine ⟨_, rfl, a, rfl, ⟨_, SqT.of ha⟩, fun L hL => ?_⟩
    refine lc_vec (n := n) (by have w := walk_tup (K := K) (a := a) (xs := vec n fun j => .int (f j)); rw [vec_len] at w; exact w) hn hL (fun _ => .bl true) (fun H1 s1 => SqT.of (s1 _ _ ha)) ?_ fun H1 s1 h1 => ?_
    · rintro i x H1 H2 R R' hi s1 ⟨rfl, hx⟩ k
      obtain ⟨_, rfl⟩ := vec_at hx
      exact ⟨⟨rfl, _, rfl, _, rfl, k _ (Same.refl _)⟩, Same.refl _⟩
    · rw [vec_bl] at h1
      refine ⟨L, List.replicate n true, rfl, SqL.of h1, ?_⟩
      rw [all_rep]
      exact q _ s1
end
end K30
set_option Elab.async false
set_option linter.all false
set_option maxRecDepth 100000
set_option maxHeartbeats 4000000
namespace K30
open PySem PySem.Spec PyProof.Rows L2
open C8 (Cal pe_c)
theorem drop1 (n : Nat) (g : Nat → V) : (vec n g).drop 1 = vec (n - 1) (fun j => g (j + 1)) := by
  refine List.ext_getElem? fun i => ?_
  rw [List.getElem?_drop]
  by_cases h : i < n - 1
  · rw [vec_get _ (show 1 + i < n by omega), vec_get _ h, Nat.add_comm]
  · rw [List.getElem?_eq_none (by rw [vec_len]; omega), List.getElem?_eq_none (by rw [vec_len]; omega)]
theorem cut1 (xs : List V) : cutV xs (some 1) none = xs.drop 1 := by
  unfold cutV
  rw [show HT.sIx xs.length 0 (some 1) = min 1 xs.length from HT.sIx_nat xs.length 0 1, HT.sIx_none]
  cases xs with
  | nil => rfl
  | cons x r =>
    rw [show min 1 (x :: r).length = 1 by
      rw [List.length_cons]
      omega]
    show (List.take ((x :: r).length - 1) r) = r
    rw [List.length_cons, Nat.add_sub_cancel]
    exact List.take_length
/-- the walk of a tuple by its places -/
theorem wtup {K : PySem.W.Frag} {a : Addr} {n : Nat} {g : Nat → V} : Walk (Itt K a) n (fun H => SqT K H a (vec n g)) (YAt (vec n g)) := by
  have w := walk_tup (K := K) (a := a) (xs := vec n g)
  rw [vec_len] at w
  exact w
theorem wlst {K : PySem.W.Frag} {a : Addr} {n : Nat} {g : Nat → V} : Walk (Itl K a) n (fun H => SqL K H a (vec n g)) (YAt (vec n g)) := by
  have w := walk_list (K := K) (a := a) (xs := vec n g)
  rw [vec_len] at w
  exact w
theorem wzip {K : PySem.W.Frag} {a b : Addr} {n : Nat} {g h : Nat → V} : Walk (RZ.ItzT K a b) n (fun H => SqT K H a (vec n g) ∧ SqT K H b (vec n h)) (YPair (fun i => (vec n g)[i]?) (fun i => (vec n h)[i]?)) :=
  walk_zipT (by rw [vec_len, vec_len, Nat.min_self])
section
variable {P : Program} {w : World} {K : PySem.W.Frag} {mg : Str → Option Value} {base : Heap}
theorem cal_are_numbers (D : Df K mg "are_numbers" sAreNumbers) (B : Bt mg) (C : Cal P w K mg base 2 "is_within" spIsWithin []) (C2 : Cal P w K mg base 1 "is_row_of" spIsRowOf []) : Cal P w K mg base 3 "are_numbers" spAreNumbers [] := by
  refine D.cal scAreNumbers (fun f fd F => F.binds fun _ _ _ _ _ _ us hl => match us, hl with | [_, _, _], _ => rfl) (fun vs H Q E h => ?_) fun f cdv A outer s H vs Q E hr h => ?_
  · obtain ⟨a, n, f, c, rfl, _⟩ := h
    rfl
  · obtain ⟨a, n, f, c, rfl, ha, hn, hb, q⟩ := h
    refine ⟨_, pss_one (ps_ret (pe_and (pe_c C2 hr (by decide) (by rfl) (pa_cons (pv 0) (pa_cons (pv 1) (pa_cons (pv 1) pa_nil))))
      (pe_one (pe_callB (cr_all rfl) (by rfl) B.all (by decide +kernel) (pa_cons
        (pe_lc (own := [("one", 3)]) (g := gName 3) (tt := tYes) rfl scAreNumbers.nd (pi_tup (pv 0)) (blkOk_by (N := ["thing", "many", "count", "one"]) (sc := defScope sAreNumbers) (by decide +kernel))
          (fun _ _ _ _ _ => pg_name (i := 3) scAreNumbers.nd rfl (Or.inl rfl)) (fun _ _ _ _ _ => pts_nil) (fun _ _ _ _ _ => pe_c C hr (by decide) (by rfl) (pa_cons (pv 3) (pa_cons pe_int (pa_cons (pe_op op_sub (pv 2) pe_int) pa_nil))))) pa_nil))))), ?_⟩
    refine ⟨_, rfl, _, rfl, _, rfl, a, _, n, n, rfl, ha, by rw [vec_len]; exact Int.le_refl _, by rw [vec_len]; exact Int.le_refl _, true, rfl, iteT ?_⟩
    refine ⟨_, rfl, a, rfl, ⟨_, SqT.of ha⟩, fun L hL => ?_⟩
    refine lc_vec wtup hn hL (fun _ => .bl true) (fun H1 s1 => SqT.of (s1 _ _ ha)) ?_ fun H1 s1 h1 => ?_
    · rintro i x H1 H2 R R' hi s1 ⟨rfl, hx⟩ k
      obtain ⟨_, rfl⟩ := vec_at hx
      have hbi := hb i hi
      exact ⟨⟨rfl, _, rfl, _, rfl, _, _, rfl, rfl, f i, 0, c - 1, rfl, hbi.1, by omega, k _ (Same.refl _)⟩, Same.refl _⟩
    · rw [vec_bl] at h1
      refine ⟨L, List.replicate n true, rfl, SqL.of h1, ?_⟩
      rw [all_rep]
      exact q _ s1
theorem cal_are_rising (D : Df K mg "are_rising" sAreRising) (B : Bt mg) : Cal P w K mg base 1 "are_rising" spAreRising [] := by
  refine D.cal scAreRising (fun f fd F => F.binds fun _ _ _ _ _ _ us hl => match us, hl with | [_], _ => rfl) (fun vs H Q E h => ?_) fun f cdv A outer s H vs Q E hr h => ?_
  · obtain ⟨a, n, f, rfl, _⟩ := h
    rfl
  · obtain ⟨a, n, f, rfl, ha, h1, hn, hb, q⟩ := h
    refine ⟨_, pss_one (ps_ret (pe_callB (cr_all rfl) (by rfl) B.all (by decide +kernel) (pa_cons
        (pe_lc (own := [("one", 1), ("other", 2)]) (g := gTup K 2 (gCons (gName 1) (gCons (gName 2) gNil))) (tt := tYes) rfl scAreRising.nd (RZ.pi_zipA (by rfl) B.zip (pa_cons (pv 0) (pa_cons (pe_slice sl_tup (pv 0) (po_some pe_int) po_none) pa_nil))) (blkOk_by (N := ["numbers", "one", "other"]) (sc := defScope sAreRising) (by decide +kernel))
          (fun _ _ _ _ _ => pg_tup rfl (pgs_cons (pg_name (i := 1) scAreRising.nd rfl (Or.inl rfl)) (pgs_cons (pg_name (i := 2) scAreRising.nd rfl (Or.inl rfl)) pgs_nil))) (fun _ _ _ _ _ => pts_nil) (fun _ _ _ _ _ => pe_cmpR op_lt (pv 1) (pv 2) (nomark _))) pa_nil))), ?_⟩
    refine ⟨_, rfl, _, rfl, 1, rfl, a, _, rfl, SqT.of ha, ?_, fun p hp => ?_⟩
    · rintro ⟨z, _⟩
      rw [show HT.sIx (vec n fun j => V.int (f j)).length 0 (some 1) = min 1 _ from HT.sIx_nat _ 0 1, vec_len] at z
      omega
    · have sp := same_upd (o := .tup (cutV (vec n fun j => V.int (f j)) (some 1) none)) hp
      refine ⟨a, p, _, _, rfl, .inr ⟨SqT.of (sp _ _ ha), SqT.of upd_same, fun L hL => ?_⟩⟩
      rw [cut1, drop1] at sp hL ⊢
      refine lc_vec (n := n - 1) (walk_zipT (xs := vec n fun j => .int (f j)) (ys := vec (n - 1) fun j => .int (f (j + 1))) (by rw [vec_len, vec_len]; omega)) (by omega) hL (fun _ => .bl true) (fun H1 s1 => ⟨SqT.of (s1 _ _ (sp _ _ ha)), SqT.of (s1 _ _ upd_same)⟩) ?_ fun H1 s1 h1 => ?_
      · rintro i v H1 H2 R R' hi s1 ⟨T, x, y, rfl, hT, rfl, hx, hy⟩ k
        obtain ⟨_, rfl⟩ := vec_at hx
        obtain ⟨_, rfl⟩ := vec_at hy
        refine ⟨⟨T, _, rfl, SqT.of upd_same, rfl, _, _, rfl, _, _, rfl, rfl, rfl, ?_⟩, same_upd hT⟩
        exact ⟨_, rfl, _, rfl, _, _, rfl, rfl, q_true (hb i (by omega)) (k _ (Same.refl _))⟩
      · rw [vec_bl] at h1
        refine ⟨L, List.replicate (n - 1) true, rfl, SqL.of h1, ?_⟩
        rw [all_rep]
        exact q _ (sp.trans s1)
theorem cal_are_indexes (D : Df K mg "are_indexes" sAreIndexes) (B : Bt mg) (C1 : Cal P w K mg base 1 "is_row_of" spIsRowOf []) (C2 : Cal P w K mg base 3 "are_numbers" spAreNumbers []) (C3 : Cal P w K mg base 1 "are_rising" spAreRising []) : Cal P w K mg base 4 "are_indexes" spAreIndexes [] := by
  refine D.cal scAreIndexes (fun f fd F => F.binds fun _ _ _ _ _ _ us hl => match us, hl with | [_, _], _ => rfl) (fun vs H Q E h => ?_) fun f cdv A outer s H vs Q E hr h => ?_
  · obtain ⟨a, n, f, c, rfl, _⟩ := h
    rfl
  · obtain ⟨a, n, f, c, rfl, ha, hn, ⟨h1, h2, h3, h4⟩, q⟩ := h
    refine ⟨_, pss_one (ps_ret (pe_and (pe_c C1 hr (by decide) (by rfl) (pa_cons (pv 0) (pa_cons pe_int (pa_cons (pv 1) pa_nil))))
      (pe_and (pe_c C2 hr (by decide) (by rfl) (pa_cons (pv 0) (pa_cons (pe_callB call_len_seq (by rfl) B.len PySem.boot_len (pa_cons (pv 0) pa_nil)) (pa_cons (pv 1) pa_nil))))
        (pe_one (pe_c C3 hr (by decide) (by rfl) (pa_cons (pv 0) pa_nil)))))), ?_⟩
    refine ⟨_, rfl, _, rfl, a, _, 1, c, rfl, ha, by rw [vec_len]; omega, by rw [vec_len]; exact h2, true, rfl, iteT ?_⟩
    refine ⟨_, rfl, _, rfl, a, _, rfl, .inr (SqT.of ha), _, rfl, a, n, f, c, by rw [vec_len]; rfl, ha, hn, h3, fun H1 s1 => ⟨true, rfl, iteT ?_⟩⟩
    exact ⟨_, rfl, a, n, f, rfl, s1 _ _ ha, h1, hn, h4, fun H2 s2 => q _ (s1.trans s2)⟩
theorem cal_need_number (D : Df K mg "need_number" sNeedNumber) (C : Cal P w K mg base 2 "is_within" spIsWithin []) : Cal P w K mg base 3 "need_number" spNeedNumber [] := by
  refine D.cal scNeedNumber (fun f fd F => F.binds fun _ _ _ _ _ _ us hl => match us, hl with | [_, _, _], _ => rfl) (fun vs H Q E h => ?_) fun f cdv A outer s H vs Q E hr h => ?_
  · obtain ⟨i, lo, hi, rfl, _⟩ := h
    rfl
  · obtain ⟨i, lo, hi, rfl, h1, h2, q⟩ := h
    refine ⟨_, pss_one (ps_if (pt_not (pt_val (pe_c C hr (by decide) (by rfl) (pa_cons (pv 0) (pa_cons (pv 1) (pa_cons (pv 2) pa_nil)))))) (pss_one ps_never) pss_nil), ?_⟩
    exact ⟨_, rfl, _, rfl, _, rfl, i, lo, hi, rfl, h1, h2, true, rfl, iteF q⟩
end
end K30
/-! ### rules with the written part told (within comprehensions) -/
namespace K30
open PySem PySem.Spec PyProof.Rows L2
section
variable {X : Cx} (K : PySem.W.Frag)
theorem kIxT (e : X.K = K := by rfl) : IxR X (rIxT K) := by
  subst e
  exact ix_tup
theorem kIxL (e : X.K = K := by rfl) : IxR X (rIxL K) := by
  subst e
  exact ix_list
def rTupOf : List V → Hp → VK → Prop := fun xs H Q => ∃ p ys, xs = [.ref p] ∧ ((SqL K H p ys ∧ ∀ l, H l = none → Q (.ref l) (upd H l (.tup ys))) ∨ (SqT K H p ys ∧ Q (.ref p) H))
theorem kTup (e : X.K = K := by rfl) : CallR X (.type "tuple") (rTupOf K) := by
  subst e
  exact call_tuple_of
def rLenSq : List V → Hp → VK → Prop := fun xs H Q => ∃ p ys, xs = [.ref p] ∧ (SqL K H p ys ∨ SqT K H p ys) ∧ Q (.int ys.length) H
theorem kLen (e : X.K = K := by rfl) : CallR X (.builtin "len") (rLenSq K) := by
  subst e
  exact call_len_seq
theorem kMin (hc : X.calm = true) (e : X.K = K := by rfl) : CallR X (.builtin "min") (rMin K) := by
  subst e
  exact cr_min hc
theorem kSum (hc : X.calm = true) (e : X.K = K := by rfl) : CallR X (.builtin "sum") (rSum K) := by
  subst e
  exact cr_sum hc
theorem kSlL (e : X.K = K := by rfl) : SlR X (rSlL K) := by
  subst e
  exact sl_list
theorem kTupI {tg l : Expr} {tl : TE} (hl : PE X l tl) (e : X.K = K := by rfl) : PI X tg l (iTup K tl) := by
  subst e
  exact pi_tup hl
theorem kLstI {tg l : Expr} {tl : TE} (hl : PE X l tl) (e : X.K = K := by rfl) : PI X tg l (iList K tl) := by
  subst e
  exact pi_list hl
theorem kZipI {e1 e2 : Expr} {ta : TA} {p pos tpos : Pos} {elts : List Expr} {kk : Nat} (hg : Gl X "zip") (hm : X.mg "zip" = none) (ha : PA X [e1, e2] ta) (e : X.K = K := by rfl)
    (hs : starEach [e1, e2] X.env = (false, eval e1 X.env) :: starEach [e2] X.env := by rfl) (hpl : (backTo pos (starEach [e2] X.env)).any (·.1) = false := by rfl) :
    PI X (.Tuple elts kk tpos) (.Call (.Name "zip" p) [e1, e2] [] pos) (RZ.iZipA K ta) := by
  subst e
  exact RZ.pi_zipA hg hm ha hs hpl
end
end K30
set_option Elab.async false
set_option linter.all false
set_option maxRecDepth 100000
set_option maxHeartbeats 4000000
/-! The program's tables: columns, sums, least sums, turned, lifted, scaled, thinned. -/
namespace K30
open PySem PySem.Spec PyProof.Rows L2
open C8 (Cal pe_c)
theorem wrng {j : Int} {m : Nat} (e : j.toNat = m) : Walk (Itr 0 j.toNat) m (fun _ => True) (YFn fun i => .int (i : Nat)) := by
  subst e
  refine Walk.mono walk_range (fun _ h => h) fun i H x H' _ _ y => ⟨y.1, ?_⟩
  rw [y.2]
  exact congrArg V.int (Int.zero_add _)
theorem exists_min : ∀ (m : Nat) (h : Nat → Int), 1 ≤ m → ∃ v, IsMin m h v
  | 0, _, e => absurd e (by decide)
  | 1, h, _ => ⟨h 0, ⟨0, by decide, rfl⟩, fun x hx => by
    have : x = 0 := by omega
    rw [this]
    exact Int.le_refl _⟩
  | m + 2, h, _ => by
    obtain ⟨v, ⟨x, hx, ex⟩, lv⟩ := exists_min (m + 1) h (by omega)
    by_cases c : v ≤ h (m + 1)
    · refine ⟨v, ⟨x, by omega, ex⟩, fun y hy => ?_⟩
      by_cases e : y = m + 1
      · rw [e]
        exact c
      · exact lv y (by omega)
    · refine ⟨h (m + 1), ⟨m + 1, by omega, rfl⟩, fun y hy => ?_⟩
      by_cases e : y = m + 1
      · rw [e]
        exact Int.le_refl _
      · have := lv y (by omega)
        omega
abbrev sColumnsOf : Stmt := topS 17
abbrev sSumsBy : Stmt := topS 18
abbrev sLeastSums : Stmt := topS 19
abbrev sWidth : Stmt := topS 21
abbrev sColumnOf : Stmt := topS 22
abbrev sTurnedTable : Stmt := topS 23
abbrev sLiftedTable : Stmt := topS 24
abbrev sScaledTable : Stmt := topS 25
abbrev sThinnedTable : Stmt := topS 26
theorem scColumnsOf : FnScope ["table", "column", "row"] ["table"] (defScope sColumnsOf) := ⟨rfl, rfl, rfl, by decide +kernel, rfl, by decide +kernel, by decide +kernel⟩
theorem scSumsBy : FnScope ["row", "line", "entry", "number"] ["row", "line"] (defScope sSumsBy) := ⟨rfl, rfl, rfl, by decide +kernel, rfl, by decide +kernel, by decide +kernel⟩
theorem scLeastSums : FnScope ["one", "other", "lines", "row", "line"] ["one", "other"] (defScope sLeastSums) := ⟨rfl, rfl, rfl, by decide +kernel, rfl, by decide +kernel, by decide +kernel⟩
theorem scWidth : FnScope ["table"] ["table"] (defScope sWidth) := ⟨rfl, rfl, rfl, by decide +kernel, rfl, by decide +kernel, by decide +kernel⟩
theorem scColumnOf : FnScope ["table", "column", "row"] ["table", "column"] (defScope sColumnOf) := ⟨rfl, rfl, rfl, by decide +kernel, rfl, by decide +kernel, by decide +kernel⟩
theorem scTurnedTable : FnScope ["table", "column"] ["table"] (defScope sTurnedTable) := ⟨rfl, rfl, rfl, by decide +kernel, rfl, by decide +kernel, by decide +kernel⟩
theorem scLiftedTable : FnScope ["table", "rows", "columns", "found", "row", "more", "entry", "above"] ["table", "rows", "columns"] (defScope sLiftedTable) := ⟨rfl, rfl, rfl, by decide +kernel, rfl, by decide +kernel, by decide +kernel⟩
theorem scScaledTable : FnScope ["table", "times", "row", "entry"] ["table", "times"] (defScope sScaledTable) := ⟨rfl, rfl, rfl, by decide +kernel, rfl, by decide +kernel, by decide +kernel⟩
theorem scThinnedTable : FnScope ["table", "rows", "columns", "row", "column"] ["table", "rows", "columns"] (defScope sThinnedTable) := ⟨rfl, rfl, rfl, by decide +kernel, rfl, by decide +kernel, by decide +kernel⟩

/-! ### the promises -/
def spColumnsOf : Sp := fun vs H Q _ => ∃ (a : Addr) (n m : Nat) (f : Nat → Nat → Int), vs = [.ref a] ∧ TabAt H a n m f ∧ 1 ≤ n ∧ n ≤ 1000 ∧ m ≤ 1000 ∧
  ∀ H' (p : Addr) (cols : Nat → Addr), Same H H' → H' p = some (.lst (vec m fun j => .ref (cols j))) → (∀ j, j < m → TupI H' (cols j) n fun i => f i j) → Q (.ref p) H'
def spSumsBy : Sp := fun vs H Q _ => ∃ (a b : Addr) (n : Nat) (f g : Nat → Int), vs = [.ref a, .ref b] ∧ TupI H a n f ∧ TupI H b n g ∧ n ≤ 1000 ∧ ∀ H' p, Same H H' → LstI H' p n (fun j => f j + g j) → Q (.ref p) H'
def spLeastSums : Sp := fun vs H Q _ => ∃ (a b : Addr) (n m k : Nat) (f g : Nat → Nat → Int), vs = [.ref a, .ref b] ∧ TabAt H a n m f ∧ TabAt H b m k g ∧ 1 ≤ m ∧ n ≤ 1000 ∧ m ≤ 1000 ∧ k ≤ 1000 ∧
  ∀ H' (p : Addr) (G : Nat → Nat → Int), Same H H' → TabAt H' p n k G → (∀ i j, IsMin m (fun x => f i x + g x j) (G i j)) → Q (.ref p) H'
def spWidth : Sp := fun vs H Q _ => ∃ (a : Addr) (n m : Nat) (f : Nat → Nat → Int), vs = [.ref a] ∧ TabAt H a n m f ∧ 1 ≤ n ∧ Q (.int m) H
def spColumnOf : Sp := fun vs H Q _ => ∃ (a : Addr) (n m : Nat) (f : Nat → Nat → Int) (j : Nat), vs = [.ref a, .int j] ∧ TabAt H a n m f ∧ n ≤ 1000 ∧ j < m ∧ ∀ H' p, Same H H' → TupI H' p n (fun i => f i j) → Q (.ref p) H'
def spTurnedTable : Sp := fun vs H Q _ => ∃ (a : Addr) (n m : Nat) (f : Nat → Nat → Int), vs = [.ref a] ∧ TabAt H a n m f ∧ 1 ≤ n ∧ n ≤ 1000 ∧ m ≤ 1000 ∧ ∀ H' p, Same H H' → TabAt H' p m n (fun j i => f i j) → Q (.ref p) H'
def spLiftedTable : Sp := fun vs H Q _ => ∃ (a b c : Addr) (n m : Nat) (f : Nat → Nat → Int) (u v : Nat → Int), vs = [.ref a, .ref b, .ref c] ∧ TabAt H a n m f ∧ TupI H b n u ∧ TupI H c m v ∧ n ≤ 1000 ∧ m ≤ 1000 ∧
  ∀ H' p, Same H H' → TabAt H' p n m (fun i j => f i j + u i + v j) → Q (.ref p) H'
def spScaledTable : Sp := fun vs H Q _ => ∃ (a : Addr) (n m : Nat) (f : Nat → Nat → Int) (t : Int), vs = [.ref a, .int t] ∧ TabAt H a n m f ∧ n ≤ 1000 ∧ m ≤ 1000 ∧ 0 ≤ t ∧ t ≤ 1000000000 ∧
  ∀ H' p, Same H H' → TabAt H' p n m (fun i j => f i j * t) → Q (.ref p) H'
def spThinnedTable : Sp := fun vs H Q _ => ∃ (a b c : Addr) (n m s t : Nat) (f : Nat → Nat → Int) (u v : Nat → Int), vs = [.ref a, .ref b, .ref c] ∧ TabAt H a n m f ∧ TupI H b s u ∧ TupI H c t v ∧ s ≤ 1000 ∧ t ≤ 1000 ∧
  (∀ i, i < s → 0 ≤ u i ∧ u i < n) ∧ (∀ j, j < t → 0 ≤ v j ∧ v j < m) ∧ ∀ H' p, Same H H' → TabAt H' p s t (fun i j => f (u i).toNat (v j).toNat) → Q (.ref p) H'

section
variable {P : Program} {w : World} {K : PySem.W.Frag} {mg : Str → Option Value} {base : Heap}
theorem cal_columns_of (D : Df K mg "columns_of" sColumnsOf) (B : Bt mg) : Cal P w K mg base 1 "columns_of" spColumnsOf [] := by
  refine D.cal scColumnsOf (fun f fd F => F.binds fun _ _ _ _ _ _ us hl => match us, hl with | [_], _ => rfl) (fun vs H Q E h => ?_) fun f cdv A outer s H vs Q E hr h => ?_
  · obtain ⟨a, n, m, f, rfl, _⟩ := h
    rfl
  · obtain ⟨a, n, m, f, rfl, ta, h1, hn, hm, q⟩ := h
    refine ⟨_, pss_one (ps_ret
        (pe_lc (own := [("column", 1)]) (g := gName 1) (tt := tYes) rfl scColumnsOf.nd (pi_range1 (by rfl) B.rng (pa_cons (pe_callB (kLen K) (by rfl) B.len PySem.boot_len (pa_cons (pe_ix (kIxT K) (pv 0) pe_int (fun _ _ => rfl)) pa_nil)) pa_nil)) (blkOk_by (by kernel_rfl))
          (fun _ _ _ _ _ => pg_name (i := 1) scColumnsOf.nd rfl (Or.inr rfl)) (fun _ _ _ _ _ => pts_nil)
          (fun _ _ _ _ _ => pe_callTy (kTup K) (by rfl) B.tup (by decide +kernel) (pa_cons
            (pe_lc (own := [("row", 2)]) (g := gName 2) (tt := tYes) rfl scColumnsOf.nd (kTupI K (pv 0)) (blkOk_by (by kernel_rfl))
              (fun _ _ _ _ _ => pg_name (i := 2) scColumnsOf.nd rfl (Or.inl rfl)) (fun _ _ _ _ _ => pts_nil)
              (fun _ _ _ _ _ => pe_ix (kIxT K) (pv 2) (pv 1) (fun _ _ => rfl))) pa_nil)))), ?_⟩
    obtain ⟨rows, hr1, hr2⟩ := id ta
    refine ⟨_, rfl, a, _, 0, _, rfl, rfl, SqT.of hr1, at_vec (by omega) (by omega), rows 0, _, rfl, .inr (SqT.of (hr2 0 (by omega))), _, rfl, by rw [vec_len]; omega, by rw [vec_len]; omega, fun L hL => ?_⟩
    refine lc_tab (wrng (m := m) (by rw [vec_len]; omega)) hm hL n (fun j i => f i j) (fun _ _ => trivial) ?_ fun H1 cols s1 h1 h2 => q H1 L cols s1 h1 h2
    rintro j x H1 H2 R R' hj s1 ⟨rfl, rfl⟩ k
    refine ⟨⟨rfl, _, rfl, a, rfl, ⟨_, SqT.of (s1 _ _ hr1)⟩, fun D hD => ?_⟩, Same.refl _⟩
    refine lc_vec wtup hn hD (fun i => .int (f i j)) (fun H3 s3 => SqT.of (s3 _ _ (s1 _ _ hr1))) ?_ fun H3 s3 h3 => ?_
    · rintro i x H3 H4 R2 R2' hi s3 ⟨rfl, hx⟩ k2
      obtain ⟨_, rfl⟩ := vec_at hx
      refine ⟨⟨rfl, _, rfl, _, rfl, rows i, _, j, _, rfl, rfl, SqT.of (s3 _ _ (s1 _ _ (hr2 i hi))), at_vec (by omega) (by omega), k2 _ (Same.refl _)⟩, Same.refl _⟩
    · exact ⟨D, _, rfl, .inl ⟨SqL.of h3, fun l hl => k l _ (s3.trans (same_upd hl)) upd_same⟩⟩
theorem cal_sums_by (D : Df K mg "sums_by" sSumsBy) (B : Bt mg) : Cal P w K mg base 1 "sums_by" spSumsBy [] := by
  refine D.cal scSumsBy (fun f fd F => F.binds fun _ _ _ _ _ _ us hl => match us, hl with | [_, _], _ => rfl) (fun vs H Q E h => ?_) fun f cdv A outer s H vs Q E hr h => ?_
  · obtain ⟨a, b, n, f, g, rfl, _⟩ := h
    rfl
  · obtain ⟨a, b, n, f, g, rfl, ta, tb, hn, q⟩ := h
    refine ⟨_, pss_one (ps_ret
        (pe_lc (own := [("entry", 2), ("number", 3)]) (g := gTup K 2 (gCons (gName 2) (gCons (gName 3) gNil))) (tt := tYes) rfl scSumsBy.nd (kZipI K (by rfl) B.zip (pa_cons (pv 0) (pa_cons (pv 1) pa_nil))) (blkOk_by (by kernel_rfl))
          (fun _ _ _ _ _ => pg_tup rfl (pgs_cons (pg_name (i := 2) scSumsBy.nd rfl (Or.inl rfl)) (pgs_cons (pg_name (i := 3) scSumsBy.nd rfl (Or.inl rfl)) pgs_nil))) (fun _ _ _ _ _ => pts_nil)
          (fun _ _ _ _ _ => pe_op op_add (pv 2) (pv 3)))), ?_⟩
    refine ⟨_, rfl, _, rfl, a, b, _, _, rfl, .inr ⟨SqT.of ta, SqT.of tb, fun L hL => ?_⟩⟩
    refine lc_vec wzip hn hL (fun j => .int (f j + g j)) (fun H1 s1 => ⟨SqT.of (s1 _ _ ta), SqT.of (s1 _ _ tb)⟩) ?_ fun H1 s1 h1 => q H1 L s1 h1
    rintro i v H1 H2 R R' hi s1 ⟨T, x, y, rfl, hT, rfl, hx, hy⟩ k
    obtain ⟨_, rfl⟩ := vec_at hx
    obtain ⟨_, rfl⟩ := vec_at hy
    exact ⟨⟨T, _, rfl, SqT.of upd_same, rfl, _, _, rfl, _, _, rfl, rfl, rfl, _, rfl, _, rfl, _, _, rfl, rfl, k _ (Same.refl _)⟩, same_upd hT⟩
theorem cal_least_sums (D : Df K mg "least_sums" sLeastSums) (B : Bt mg) (C1 : Cal P w K mg base 1 "columns_of" spColumnsOf []) (C2 : Cal P w K mg base 1 "sums_by" spSumsBy []) : Cal P w K mg base 2 "least_sums" spLeastSums [] := by
  refine D.cal scLeastSums (fun f fd F => F.binds fun _ _ _ _ _ _ us hl => match us, hl with | [_, _], _ => rfl) (fun vs H Q E h => ?_) fun f cdv A outer s H vs Q E hr h => ?_
  · obtain ⟨a, b, n, m, k, f, g, rfl, _⟩ := h
    rfl
  · obtain ⟨a, b, n, m, k, f, g, rfl, ta, tb, h1, hn, hm, hk, q⟩ := h
    refine ⟨_, pss_cons (ps_set (i := 2) scLeastSums.nd rfl (.inr rfl) (pe_c C1 hr (by decide) (by rfl) (pa_cons (pv 1) pa_nil)))
      (pss_one (ps_ret (pe_callTy (kTup K) (by rfl) B.tup (by decide +kernel) (pa_cons
        (pe_lc (own := [("row", 3)]) (g := gName 3) (tt := tYes) rfl scLeastSums.nd (kTupI K (pv 0)) (blkOk_by (by kernel_rfl))
          (fun _ _ _ _ _ => pg_name (i := 3) scLeastSums.nd rfl (Or.inr rfl)) (fun _ _ _ _ _ => pts_nil)
          (fun _ _ _ _ _ => pe_callTy (kTup K) (by rfl) B.tup (by decide +kernel) (pa_cons
            (pe_lc (own := [("line", 4)]) (g := gName 4) (tt := tYes) rfl scLeastSums.nd (kLstI K (pv 2)) (blkOk_by (by kernel_rfl))
              (fun _ _ _ _ _ => pg_name (i := 4) scLeastSums.nd rfl (Or.inl rfl)) (fun _ _ _ _ _ => pts_nil)
              (fun _ _ _ _ _ => pe_callB (kMin K rfl) (by rfl) B.min (by decide +kernel) (pa_cons (pe_c C2 hr (by decide) (by rfl) (pa_cons (pv 3) (pa_cons (pv 4) pa_nil))) pa_nil))) pa_nil))) pa_nil)))), ?_⟩
    have ex : ∀ i j, ∃ v, IsMin m (fun x => f i x + g x j) v := fun i j => exists_min m _ h1
    obtain ⟨G, hG⟩ : ∃ G : Nat → Nat → Int, ∀ i j, IsMin m (fun x => f i x + g x j) (G i j) := ⟨fun i j => Classical.choose (ex i j), fun i j => Classical.choose_spec (ex i j)⟩
    obtain ⟨rows, ha1, ha2⟩ := id ta
    refine ⟨_, rfl, b, m, k, g, rfl, tb, h1, hm, hk, fun H1 p cols s1 hp hc => ?_⟩
    refine ⟨_, rfl, a, rfl, ⟨_, SqT.of (s1 _ _ ha1)⟩, fun L hL => ?_⟩
    refine lc_tab wtup hn hL k G (fun H2 s2 => SqT.of (s2 _ _ (s1 _ _ ha1))) ?_ fun H2 rs s2 e1 e2 => ?_
    · rintro i x H2 H3 R R' hi s2 ⟨rfl, hx⟩ kk
      obtain ⟨_, rfl⟩ := vec_at hx
      refine ⟨⟨rfl, _, rfl, p, rfl, ⟨_, SqL.of (s2 _ _ hp)⟩, fun D hD => ?_⟩, Same.refl _⟩
      refine lc_vec wlst hk hD (fun j => .int (G i j)) (fun H4 s4 => SqL.of (s4 _ _ (s2 _ _ hp))) ?_ fun H4 s4 h4 => ?_
      · rintro j x H4 H5 R2 R2' hj s4 ⟨rfl, hx⟩ k2
        obtain ⟨_, rfl⟩ := vec_at hx
        refine ⟨⟨rfl, _, rfl, _, rfl, rows i, cols j, m, f i, (fun x => g x j), rfl, s4 _ _ (s2 _ _ (s1 _ _ (ha2 i hi))), s4 _ _ (s2 _ _ (hc j hj)), hm, fun H6 l s6 h6 => ?_⟩, Same.refl _⟩
        refine ⟨l, ivec m (fun x => f i x + g x j), rfl, SqL.of (by rw [← vec_int]; exact h6), by rw [ivec_len]; omega, fun v hv lv => ?_⟩
        rw [(isMin_of hv lv).uniq (hG i j)]
        exact k2 _ s6
      · exact ⟨D, _, rfl, .inl ⟨SqL.of h4, fun l hl => kk l _ (s4.trans (same_upd hl)) upd_same⟩⟩
    · exact ⟨L, _, rfl, .inl ⟨SqL.of e1, fun l hl => q _ l G (s1.trans (s2.trans (same_upd hl))) ⟨rs, upd_same, fun i hi => (e2 i hi).kt (kt_new hl)⟩ hG⟩⟩
theorem cal_width (D : Df K mg "width" sWidth) (B : Bt mg) : Cal P w K mg base 1 "width" spWidth [] := by
  refine D.cal scWidth (fun f fd F => F.binds fun _ _ _ _ _ _ us hl => match us, hl with | [_], _ => rfl) (fun vs H Q E h => ?_) fun f cdv A outer s H vs Q E hr h => ?_
  · obtain ⟨a, n, m, f, rfl, _⟩ := h
    rfl
  · obtain ⟨a, n, m, f, rfl, ta, h1, q⟩ := h
    refine ⟨_, pss_one (ps_ret (pe_callB (kLen K) (by rfl) B.len PySem.boot_len (pa_cons (pe_ix (kIxT K) (pv 0) pe_int (fun _ _ => rfl)) pa_nil))), ?_⟩
    obtain ⟨rows, hr1, hr2⟩ := id ta
    refine ⟨_, rfl, a, _, 0, _, rfl, rfl, SqT.of hr1, at_vec (by omega) (by omega), rows 0, _, rfl, .inr (SqT.of (hr2 0 (by omega))), ?_⟩
    rw [vec_len]
    exact q
theorem cal_column_of (D : Df K mg "column_of" sColumnOf) (B : Bt mg) : Cal P w K mg base 1 "column_of" spColumnOf [] := by
  refine D.cal scColumnOf (fun f fd F => F.binds fun _ _ _ _ _ _ us hl => match us, hl with | [_, _], _ => rfl) (fun vs H Q E h => ?_) fun f cdv A outer s H vs Q E hr h => ?_
  · obtain ⟨a, n, m, f, j, rfl, _⟩ := h
    rfl
  · obtain ⟨a, n, m, f, j, rfl, ta, hn, hj, q⟩ := h
    refine ⟨_, pss_one (ps_ret (pe_callTy (kTup K) (by rfl) B.tup (by decide +kernel) (pa_cons
            (pe_lc (own := [("row", 2)]) (g := gName 2) (tt := tYes) rfl scColumnOf.nd (kTupI K (pv 0)) (blkOk_by (by kernel_rfl))
              (fun _ _ _ _ _ => pg_name (i := 2) scColumnOf.nd rfl (Or.inl rfl)) (fun _ _ _ _ _ => pts_nil)
              (fun _ _ _ _ _ => pe_ix (kIxT K) (pv 2) (pv 1) (fun _ _ => rfl))) pa_nil))), ?_⟩
    obtain ⟨rows, hr1, hr2⟩ := id ta
    refine ⟨_, rfl, a, rfl, ⟨_, SqT.of hr1⟩, fun D hD => ?_⟩
    refine lc_vec wtup hn hD (fun i => .int (f i j)) (fun H3 s3 => SqT.of (s3 _ _ hr1)) ?_ fun H3 s3 h3 => ?_
    · rintro i x H3 H4 R2 R2' hi s3 ⟨rfl, hx⟩ k2
      obtain ⟨_, rfl⟩ := vec_at hx
      exact ⟨⟨rfl, _, rfl, _, rfl, rows i, _, j, _, rfl, rfl, SqT.of (s3 _ _ (hr2 i hi)), at_vec (by omega) (by omega), k2 _ (Same.refl _)⟩, Same.refl _⟩
    · exact ⟨D, _, rfl, .inl ⟨SqL.of h3, fun l hl => q _ l (s3.trans (same_upd hl)) upd_same⟩⟩
theorem cal_turned_table (D : Df K mg "turned_table" sTurnedTable) (B : Bt mg) (C1 : Cal P w K mg base 1 "width" spWidth []) (C2 : Cal P w K mg base 1 "column_of" spColumnOf []) : Cal P w K mg base 2 "turned_table" spTurnedTable [] := by
  refine D.cal scTurnedTable (fun f fd F => F.binds fun _ _ _ _ _ _ us hl => match us, hl with | [_], _ => rfl) (fun vs H Q E h => ?_) fun f cdv A outer s H vs Q E hr h => ?_
  · obtain ⟨a, n, m, f, rfl, _⟩ := h
    rfl
  · obtain ⟨a, n, m, f, rfl, ta, h1, hn, hm, q⟩ := h
    refine ⟨_, pss_one (ps_ret (pe_callTy (kTup K) (by rfl) B.tup (by decide +kernel) (pa_cons
        (pe_lc (own := [("column", 1)]) (g := gName 1) (tt := tYes) rfl scTurnedTable.nd (pi_range1 (by rfl) B.rng (pa_cons (pe_c C1 hr (by decide) (by rfl) (pa_cons (pv 0) pa_nil)) pa_nil)) (blkOk_by (by kernel_rfl))
          (fun _ _ _ _ _ => pg_name (i := 1) scTurnedTable.nd rfl (Or.inl rfl)) (fun _ _ _ _ _ => pts_nil)
          (fun _ _ _ _ _ => pe_c C2 hr (by decide) (by rfl) (pa_cons (pv 0) (pa_cons (pv 1) pa_nil)))) pa_nil))), ?_⟩
    refine ⟨_, rfl, a, n, m, f, rfl, ta, h1, _, rfl, by omega, by omega, fun L hL => ?_⟩
    refine lc_tab (wrng (m := m) (by omega)) hm hL n (fun j i => f i j) (fun _ _ => trivial) ?_ fun H1 cols s1 e1 e2 => ?_
    · rintro j x H1 H2 R R' hj s1 ⟨rfl, rfl⟩ k
      exact ⟨⟨rfl, _, rfl, _, rfl, a, n, m, f, j, rfl, ta.kt s1.kt, hn, hj, fun H3 p s3 h3 => k p H3 s3 h3⟩, Same.refl _⟩
    · exact ⟨L, _, rfl, .inl ⟨SqL.of e1, fun l hl => q _ l (s1.trans (same_upd hl)) ⟨cols, upd_same, fun i hi => (e2 i hi).kt (kt_new hl)⟩⟩⟩
theorem cal_scaled_table (D : Df K mg "scaled_table" sScaledTable) (B : Bt mg) : Cal P w K mg base 1 "scaled_table" spScaledTable [] := by
  refine D.cal scScaledTable (fun f fd F => F.binds fun _ _ _ _ _ _ us hl => match us, hl with | [_, _], _ => rfl) (fun vs H Q E h => ?_) fun f cdv A outer s H vs Q E hr h => ?_
  · obtain ⟨a, n, m, f, t, rfl, _⟩ := h
    rfl
  · obtain ⟨a, n, m, f, t, rfl, ta, hn, hm, h0, h1, q⟩ := h
    refine ⟨_, pss_one (ps_ret (pe_callTy (kTup K) (by rfl) B.tup (by decide +kernel) (pa_cons
        (pe_lc (own := [("row", 2)]) (g := gName 2) (tt := tYes) rfl scScaledTable.nd (kTupI K (pv 0)) (blkOk_by (by kernel_rfl))
          (fun _ _ _ _ _ => pg_name (i := 2) scScaledTable.nd rfl (Or.inl rfl)) (fun _ _ _ _ _ => pts_nil)
          (fun _ _ _ _ _ => pe_callTy (kTup K) (by rfl) B.tup (by decide +kernel) (pa_cons
            (pe_lc (own := [("entry", 3)]) (g := gName 3) (tt := tYes) rfl scScaledTable.nd (kTupI K (pv 2)) (blkOk_by (by kernel_rfl))
              (fun _ _ _ _ _ => pg_name (i := 3) scScaledTable.nd rfl (Or.inl rfl)) (fun _ _ _ _ _ => pts_nil)
              (fun _ _ _ _ _ => pe_op op_mul (pv 3) (pv 1))) pa_nil))) pa_nil))), ?_⟩
    obtain ⟨rows, hr1, hr2⟩ := id ta
    refine ⟨_, rfl, a, rfl, ⟨_, SqT.of hr1⟩, fun L hL => ?_⟩
    refine lc_tab wtup hn hL m (fun i j => f i j * t) (fun H1 s1 => SqT.of (s1 _ _ hr1)) ?_ fun H1 rs s1 e1 e2 => ?_
    · rintro i x H1 H2 R R' hi s1 ⟨rfl, hx⟩ k
      obtain ⟨_, rfl⟩ := vec_at hx
      refine ⟨⟨rfl, _, rfl, rows i, rfl, ⟨_, SqT.of (s1 _ _ (hr2 i hi))⟩, fun D hD => ?_⟩, Same.refl _⟩
      refine lc_vec wtup hm hD (fun j => .int (f i j * t)) (fun H3 s3 => SqT.of (s3 _ _ (s1 _ _ (hr2 i hi)))) ?_ fun H3 s3 h3 => ?_
      · rintro j x H3 H4 R2 R2' hj s3 ⟨rfl, hx⟩ k2
        obtain ⟨_, rfl⟩ := vec_at hx
        exact ⟨⟨rfl, _, rfl, _, rfl, _, _, rfl, rfl, .inr ⟨by omega, by omega⟩, k2 _ (Same.refl _)⟩, Same.refl _⟩
      · exact ⟨D, _, rfl, .inl ⟨SqL.of h3, fun l hl => k l _ (s3.trans (same_upd hl)) upd_same⟩⟩
    · exact ⟨L, _, rfl, .inl ⟨SqL.of e1, fun l hl => q _ l (s1.trans (same_upd hl)) ⟨rs, upd_same, fun i hi => (e2 i hi).kt (kt_new hl)⟩⟩⟩
theorem cal_thinned_table (D : Df K mg "thinned_table" sThinnedTable) (B : Bt mg) : Cal P w K mg base 1 "thinned_table" spThinnedTable [] := by
  refine D.cal scThinnedTable (fun f fd F => F.binds fun _ _ _ _ _ _ us hl => match us, hl with | [_, _, _], _ => rfl) (fun vs H Q E h => ?_) fun f cdv A outer s H vs Q E hr h => ?_
  · obtain ⟨a, b, c, n, m, s, t, f, u, v, rfl, _⟩ := h
    rfl
  · obtain ⟨a, b, c, n, m, s, t, f, u, v, rfl, ta, tb, tc, hs, ht, hu, hv, q⟩ := h
    refine ⟨_, pss_one (ps_ret (pe_callTy (kTup K) (by rfl) B.tup (by decide +kernel) (pa_cons
        (pe_lc (own := [("row", 3)]) (g := gName 3) (tt := tYes) rfl scThinnedTable.nd (kTupI K (pv 1)) (blkOk_by (by kernel_rfl))
          (fun _ _ _ _ _ => pg_name (i := 3) scThinnedTable.nd rfl (Or.inr rfl)) (fun _ _ _ _ _ => pts_nil)
          (fun _ _ _ _ _ => pe_callTy (kTup K) (by rfl) B.tup (by decide +kernel) (pa_cons
            (pe_lc (own := [("column", 4)]) (g := gName 4) (tt := tYes) rfl scThinnedTable.nd (kTupI K (pv 2)) (blkOk_by (by kernel_rfl))
              (fun _ _ _ _ _ => pg_name (i := 4) scThinnedTable.nd rfl (Or.inl rfl)) (fun _ _ _ _ _ => pts_nil)
              (fun _ _ _ _ _ => pe_ix (kIxT K) (pe_ix (kIxT K) (pv 0) (pv 3) (fun _ _ => rfl)) (pv 4) (fun _ _ => rfl))) pa_nil))) pa_nil))), ?_⟩
    obtain ⟨rows, hr1, hr2⟩ := id ta
    refine ⟨_, rfl, b, rfl, ⟨_, SqT.of tb⟩, fun L hL => ?_⟩
    refine lc_tab wtup hs hL t (fun i j => f (u i).toNat (v j).toNat) (fun H1 s1 => SqT.of (s1 _ _ tb)) ?_ fun H1 rs s1 e1 e2 => ?_
    · rintro i x H1 H2 R R' hi s1 ⟨rfl, hx⟩ k
      obtain ⟨_, rfl⟩ := vec_at hx
      refine ⟨⟨rfl, _, rfl, c, rfl, ⟨_, SqT.of (s1 _ _ tc)⟩, fun D hD => ?_⟩, Same.refl _⟩
      refine lc_vec wtup ht hD (fun j => .int (f (u i).toNat (v j).toNat)) (fun H3 s3 => SqT.of (s3 _ _ (s1 _ _ tc))) ?_ fun H3 s3 h3 => ?_
      · rintro j x H3 H4 R2 R2' hj s3 ⟨rfl, hx⟩ k2
        obtain ⟨_, rfl⟩ := vec_at hx
        have hui := hu i hi
        have hvj := hv j hj
        exact ⟨⟨rfl, _, rfl, _, rfl, a, _, u i, _, rfl, rfl, SqT.of (s3 _ _ (s1 _ _ hr1)), at_vec hui.1 hui.2, _, rfl, rows (u i).toNat, _, v j, _, rfl, rfl, SqT.of (s3 _ _ (s1 _ _ (hr2 _ (by omega)))), at_vec hvj.1 hvj.2, k2 _ (Same.refl _)⟩, Same.refl _⟩
      · exact ⟨D, _, rfl, .inl ⟨SqL.of h3, fun l hl => k l _ (s3.trans (same_upd hl)) upd_same⟩⟩
    · exact ⟨L, _, rfl, .inl ⟨SqL.of e1, fun l hl => q _ l (s1.trans (same_upd hl)) ⟨rs, upd_same, fun i hi => (e2 i hi).kt (kt_new hl)⟩⟩⟩
theorem cal_lifted_table (D : Df K mg "lifted_table" sLiftedTable) (B : Bt mg) : Cal P w K mg base 1 "lifted_table" spLiftedTable [] := by
  refine D.cal scLiftedTable (fun f fd F => F.binds fun _ _ _ _ _ _ us hl => match us, hl with | [_, _, _], _ => rfl) (fun vs H Q E h => ?_) fun f cdv A outer s H vs Q E hr h => ?_
  · obtain ⟨a, b, c, n, m, f, u, v, rfl, _⟩ := h
    rfl
  · obtain ⟨a, b, c, n, m, f, u, v, rfl, ta, tb, tc, hn, hm, q⟩ := h
    refine ⟨_, pss_cons (ps_set (i := 3) scLiftedTable.nd rfl (.inl rfl) (pe_lst pa_nil))
      (pss_cons (ps_for PassesOwn.never rfl (kZipI K (by rfl) B.zip (pa_cons (pv 0) (pa_cons (pv 1) pa_nil)))
          (pg_tup rfl (pgs_cons (pg_name (i := 4) scLiftedTable.nd rfl (.inl rfl)) (pgs_cons (pg_name (i := 5) scLiftedTable.nd rfl (.inr rfl)) pgs_nil)))
        (pss_one (ps_expr (pe_bm PySem.F.plainAttrs_list PySem.F.slot_list_append PySem.F.type_list_append mt_append (pv 3) (pa_cons
          (pe_callTy (kTup K) (by rfl) B.tup (by decide +kernel) (pa_cons
            (pe_lc (own := [("entry", 6), ("above", 7)]) (g := gTup K 2 (gCons (gName 6) (gCons (gName 7) gNil))) (tt := tYes) rfl scLiftedTable.nd (kZipI K (by rfl) B.zip (pa_cons (pv 4) (pa_cons (pv 2) pa_nil))) (blkOk_by (by kernel_rfl))
              (fun _ _ _ _ _ => pg_tup rfl (pgs_cons (pg_name (i := 6) scLiftedTable.nd rfl (Or.inl rfl)) (pgs_cons (pg_name (i := 7) scLiftedTable.nd rfl (Or.inl rfl)) pgs_nil))) (fun _ _ _ _ _ => pts_nil)
              (fun _ _ _ _ _ => pe_op op_add (pe_op op_add (pv 6) (pv 5)) (pv 7))) pa_nil)) pa_nil)))))
      (pss_one (ps_ret (pe_callTy (kTup K) (by rfl) B.tup (by decide +kernel) (pa_cons (pv 3) pa_nil))))), ?_⟩
    obtain ⟨rows, hr1, hr2⟩ := id ta
    refine ⟨Nat.zero_le _, fun o ho => ?_⟩
    have s0 : Same H (upd H o (.lst [])) := same_upd ho
    refine ⟨_, rfl, _, rfl, a, b, _, _, rfl, .inr ⟨SqT.of (s0 _ _ hr1), SqT.of (s0 _ _ tb), ?_⟩⟩
    refine for_it wzip (fun i σ H1 => ∃ (y4 y5 : Option V) (rs : Nat → Addr), σ = [some (.ref a), some (.ref b), some (.ref c), some (.ref o), y4, y5, none, none] ∧ Same H H1 ∧ H1 o = some (.lst (vec i fun j => .ref (rs j))) ∧ ∀ j, j < i → TupI H1 (rs j) m (fun x => f j x + u j + v x))
      ⟨none, none, fun _ => 0, rfl, s0, upd_same, fun j hj => absurd hj (Nat.not_lt_zero j)⟩ (fun i σ H1 _ ⟨_, _, _, _, s1, _⟩ => ⟨SqT.of (s1 _ _ hr1), SqT.of (s1 _ _ tb)⟩) ?_ ?_
    · rintro i z σ H1 H2 hi ⟨y4, y5, rs, rfl, s1, h1, h2⟩ ⟨T, x, y, rfl, hT, rfl, hx, hy⟩
      obtain ⟨_, rfl⟩ := vec_at hx
      obtain ⟨_, rfl⟩ := vec_at hy
      have sT := same_upd (o := .tup [V.ref (rows i), V.int (u i)]) hT
      refine ⟨T, _, rfl, SqT.of upd_same, rfl, _, _, rfl, _, _, rfl, rfl, ?_⟩
      have h1' := sT _ _ h1
      refine ⟨_, rfl, .inl ⟨rfl, _, SqL.of h1'⟩, _, rfl, _, rfl, rows i, c, _, _, rfl, .inr ⟨SqT.of (sT _ _ (s1 _ _ (hr2 i hi))), SqT.of (sT _ _ (s1 _ _ tc)), fun L hL => ?_⟩⟩
      refine lc_vec wzip hm hL (fun x => .int (f i x + u i + v x)) (fun H3 s3 => ⟨SqT.of (s3 _ _ (sT _ _ (s1 _ _ (hr2 i hi)))), SqT.of (s3 _ _ (sT _ _ (s1 _ _ tc)))⟩) ?_ fun H3 s3 h3 => ?_
      · rintro j z H3 H4 R R' hj s3 ⟨T2, x, y, rfl, hT2, rfl, hx, hy⟩ k
        obtain ⟨_, rfl⟩ := vec_at hx
        obtain ⟨_, rfl⟩ := vec_at hy
        exact ⟨⟨T2, _, rfl, SqT.of upd_same, rfl, _, _, rfl, _, _, rfl, rfl, rfl, _, rfl, _, rfl, _, _, rfl, rfl, _, rfl, _, _, rfl, rfl, k _ (Same.refl _)⟩, same_upd hT2⟩
      · refine ⟨L, _, rfl, .inl ⟨SqL.of h3, fun l hl => ?_⟩⟩
        have sl := s3.trans (same_upd (o := .tup (vec m fun x => V.int (f i x + u i + v x))) hl)
        have ho4 := sl _ _ h1'
        refine ⟨o, _, _, rfl, rfl, ho4, small1000 (by rw [vec_len]; omega), _, _, fun j => if j = i then l else rs j, rfl, fun b' z e => ?_, ?_, fun j hj => ?_⟩
        · rw [upd_ne (ne_of_none e ho)]
          exact sl _ _ (sT _ _ (s1 _ _ e))
        · rw [upd_same, vec_succ]
          have e1 : vec i (fun j => V.ref (rs j)) = vec i (fun j => V.ref (if j = i then l else rs j)) := vec_congr fun j hj => by rw [if_neg (by omega)]
          rw [e1]
          show _ = some (HO.lst (_ ++ [V.ref (if i = i then l else rs i)]))
          rw [if_pos rfl]
        · show TupI _ (if j = i then l else rs j) m _
          by_cases hji : j = i
          · subst hji
            rw [if_pos rfl]
            exact TupI.kt (show TupI _ l m _ from upd_same) (kt_lst ho4)
          · rw [if_neg hji]
            exact ((h2 j (by omega)).kt (sT.kt.trans sl.kt)).kt (kt_lst ho4)
    · rintro σ H1 ⟨y4, y5, rs, rfl, s1, h1, h2⟩
      exact ⟨_, rfl, o, _, rfl, .inl ⟨SqL.of h1, fun l hl => q _ l (s1.trans (same_upd hl)) ⟨rs, upd_same, fun i hi => (h2 i hi).kt (kt_new hl)⟩⟩⟩
end
end K30
set_option Elab.async false
set_option linter.all false
set_option maxRecDepth 100000
set_option maxHeartbeats 4000000
/-! The program's front: what is asked of tables, products, lifted, scaled, turned, thinned. -/
namespace K30
open PySem PySem.Spec PyProof.Rows L2
open C8 (Cal pe_c)
abbrev sIsTableForm : Stmt := topS 29
abbrev sNeedTable : Stmt := topS 30
abbrev sNeedIndexes : Stmt := topS 31
abbrev sNeedTwo : Stmt := topS 33
abbrev sProduct : Stmt := topS 34
abbrev sNeedNumbers : Stmt := topS 37
abbrev sLifted : Stmt := topS 38
abbrev sScaled : Stmt := topS 39
abbrev sTurned : Stmt := topS 40
abbrev sThinned : Stmt := topS 41
theorem scIsTableForm : FnScope ["thing", "row"] ["thing"] (defScope sIsTableForm) := ⟨rfl, rfl, rfl, by decide +kernel, rfl, by decide +kernel, by decide +kernel⟩
theorem scNeedTable : FnScope ["table"] ["table"] (defScope sNeedTable) := ⟨rfl, rfl, rfl, by decide +kernel, rfl, by decide +kernel, by decide +kernel⟩
theorem scNeedIndexes : FnScope ["indexes", "count"] ["indexes", "count"] (defScope sNeedIndexes) := ⟨rfl, rfl, rfl, by decide +kernel, rfl, by decide +kernel, by decide +kernel⟩
theorem scNeedTwo : FnScope ["table", "other"] ["table", "other"] (defScope sNeedTwo) := ⟨rfl, rfl, rfl, by decide +kernel, rfl, by decide +kernel, by decide +kernel⟩
theorem scProduct : FnScope ["table", "other"] ["table", "other"] (defScope sProduct) := ⟨rfl, rfl, rfl, by decide +kernel, rfl, by decide +kernel, by decide +kernel⟩
theorem scNeedNumbers : FnScope ["numbers", "many"] ["numbers", "many"] (defScope sNeedNumbers) := ⟨rfl, rfl, rfl, by decide +kernel, rfl, by decide +kernel, by decide +kernel⟩
theorem scLifted : FnScope ["table", "rows", "columns"] ["table", "rows", "columns"] (defScope sLifted) := ⟨rfl, rfl, rfl, by decide +kernel, rfl, by decide +kernel, by decide +kernel⟩
theorem scScaled : FnScope ["table", "times"] ["table", "times"] (defScope sScaled) := ⟨rfl, rfl, rfl, by decide +kernel, rfl, by decide +kernel, by decide +kernel⟩
theorem scTurned : FnScope ["table"] ["table"] (defScope sTurned) := ⟨rfl, rfl, rfl, by decide +kernel, rfl, by decide +kernel, by decide +kernel⟩
theorem scThinned : FnScope ["table", "rows", "columns"] ["table", "rows", "columns"] (defScope sThinned) := ⟨rfl, rfl, rfl, by decide +kernel, rfl, by decide +kernel, by decide +kernel⟩
/-- one to eight -/
def Sz (n : Nat) : Prop := 1 ≤ n ∧ n ≤ 8
def spIsTableForm : Sp := fun vs H Q _ => ∃ (a : Addr) (n m : Nat) (f : Nat → Nat → Int), vs = [.ref a] ∧ TabAt H a n m f ∧ Sz n ∧ Sz m ∧ ∀ H', Same H H' → Q (.bl true) H'
def spNeedTable : Sp := fun vs H Q _ => ∃ (a : Addr) (n m : Nat) (f : Nat → Nat → Int), vs = [.ref a] ∧ TabAt H a n m f ∧ Sz n ∧ Sz m ∧ ∀ H', Same H H' → Q .non H'
def spNeedIndexes : Sp := fun vs H Q _ => ∃ (a : Addr) (n : Nat) (f : Nat → Int) (c : Int), vs = [.ref a, .int c] ∧ TupI H a n f ∧ n ≤ 1000 ∧ Idx n f c ∧ ∀ H', Same H H' → Q .non H'
def spNeedTwo : Sp := fun vs H Q _ => ∃ (a b : Addr) (n m k : Nat) (f g : Nat → Nat → Int), vs = [.ref a, .ref b] ∧ TabAt H a n m f ∧ TabAt H b m k g ∧ Sz n ∧ Sz m ∧ Sz k ∧ ∀ H', Same H H' → Q .non H'
def spProduct : Sp := fun vs H Q _ => ∃ (a b : Addr) (n m k : Nat) (f g : Nat → Nat → Int), vs = [.ref a, .ref b] ∧ TabAt H a n m f ∧ TabAt H b m k g ∧ Sz n ∧ Sz m ∧ Sz k ∧
  ∀ H' (p : Addr) (G : Nat → Nat → Int), Same H H' → TabAt H' p n k G → (∀ i j, IsMin m (fun x => f i x + g x j) (G i j)) → Q (.ref p) H'
def spNeedNumbers : Sp := fun vs H Q _ => ∃ (a : Addr) (n : Nat) (f : Nat → Int), vs = [.ref a, .int n] ∧ TupI H a n f ∧ n ≤ 1000 ∧ ∀ H', Same H H' → Q .non H'
def spLifted : Sp := fun vs H Q _ => ∃ (a b c : Addr) (n m : Nat) (f : Nat → Nat → Int) (u v : Nat → Int), vs = [.ref a, .ref b, .ref c] ∧ TabAt H a n m f ∧ TupI H b n u ∧ TupI H c m v ∧ Sz n ∧ Sz m ∧
  ∀ H' p, Same H H' → TabAt H' p n m (fun i j => f i j + u i + v j) → Q (.ref p) H'
def spScaled : Sp := fun vs H Q _ => ∃ (a : Addr) (n m : Nat) (f : Nat → Nat → Int) (t : Int), vs = [.ref a, .int t] ∧ TabAt H a n m f ∧ Sz n ∧ Sz m ∧ 0 ≤ t ∧ t ≤ 1000000000 ∧
  ∀ H' p, Same H H' → TabAt H' p n m (fun i j => f i j * t) → Q (.ref p) H'
def spTurned : Sp := fun vs H Q _ => ∃ (a : Addr) (n m : Nat) (f : Nat → Nat → Int), vs = [.ref a] ∧ TabAt H a n m f ∧ Sz n ∧ Sz m ∧ ∀ H' p, Same H H' → TabAt H' p m n (fun j i => f i j) → Q (.ref p) H'
def spThinned : Sp := fun vs H Q _ => ∃ (a b c : Addr) (n m s t : Nat) (f : Nat → Nat → Int) (u v : Nat → Int), vs = [.ref a, .ref b, .ref c] ∧ TabAt H a n m f ∧ TupI H b s u ∧ TupI H c t v ∧ Sz n ∧ Sz m ∧ Idx s u n ∧ Idx t v m ∧
  ∀ H' p, Same H H' → TabAt H' p s t (fun i j => f (u i).toNat (v j).toNat) → Q (.ref p) H'
section
variable {P : Program} {w : World} {K : PySem.W.Frag} {mg : Str → Option Value} {base : Heap}
theorem cal_is_table_form (D : Df K mg "is_table_form" sIsTableForm) (B : Bt mg) (mR : ∃ t, mg "MOST_ROWS" = some (.int 8 t)) (C1 : Cal P w K mg base 1 "is_row_of" spIsRowOf []) (C2 : Cal P w K mg base 2 "are_integers" spAreIntegers []) : Cal P w K mg base 3 "is_table_form" spIsTableForm [] := by
  obtain ⟨tR, mR⟩ := mR
  refine D.cal scIsTableForm (fun f fd F => F.binds fun _ _ _ _ _ _ us hl => match us, hl with | [_], _ => rfl) (fun vs H Q E h => ?_) fun f cdv A outer s H vs Q E hr h => ?_
  · obtain ⟨a, n, m, f, rfl, _⟩ := h
    rfl
  · obtain ⟨a, n, m, f, rfl, ta, ⟨n1, n8⟩, ⟨m1, m8⟩, q⟩ := h
    refine ⟨_, pss_cons (ps_if (PW.pt (pw_or (pt_not (pt_val (pe_c C1 hr (by decide) (by rfl) (pa_cons (pv 0) (pa_cons pe_int (pa_cons (pe_glob (v := .int 8) (by rfl) mR ⟨_, rfl⟩) pa_nil))))))
        (pw_or1 (pt_not (pt_val (pe_c C1 hr (by decide) (by rfl) (pa_cons (pe_ix (kIxT K) (pv 0) pe_int (fun _ _ => rfl)) (pa_cons pe_int (pa_cons (pe_glob (v := .int 8) (by rfl) mR ⟨_, rfl⟩) pa_nil)))))))))
        (pss_one (ps_ret pe_bl)) pss_nil)
      (pss_one (ps_ret (pe_callB (cr_all rfl) (by rfl) B.all (by decide +kernel) (pa_cons
        (pe_lc (own := [("row", 1)]) (g := gName 1) (tt := tYes) rfl scIsTableForm.nd (kTupI K (pv 0)) (blkOk_by (by kernel_rfl))
          (fun _ _ _ _ _ => pg_name (i := 1) scIsTableForm.nd rfl (Or.inl rfl)) (fun _ _ _ _ _ => pts_nil)
          (fun _ _ _ _ _ => pe_c C2 hr (by decide) (by rfl) (pa_cons (pv 1) (pa_cons (pe_callB (kLen K) (by rfl) B.len PySem.boot_len (pa_cons (pe_ix (kIxT K) (pv 0) pe_int (fun _ _ => rfl)) pa_nil)) pa_nil)))) pa_nil)))), ?_⟩
    obtain ⟨rows, hr1, hr2⟩ := id ta
    refine ⟨_, rfl, a, _, 1, 8, rfl, hr1, by rw [vec_len]; omega, by rw [vec_len]; omega, true, rfl, iteF ?_⟩
    refine ⟨_, rfl, a, _, 0, _, rfl, rfl, SqT.of hr1, at_vec (by omega) (by omega), rows 0, _, 1, 8, rfl, hr2 0 (by omega), by rw [vec_len]; omega, by rw [vec_len]; omega, true, rfl, iteF ?_⟩
    refine ⟨_, rfl, a, rfl, ⟨_, SqT.of hr1⟩, fun L hL => ?_⟩
    refine lc_vec wtup (by omega) hL (fun _ => .bl true) (fun H1 s1 => SqT.of (s1 _ _ hr1)) ?_ fun H1 s1 h1 => ?_
    · rintro i x H1 H2 R R' hi s1 ⟨rfl, hx⟩ k
      obtain ⟨_, rfl⟩ := vec_at hx
      exact ⟨⟨rfl, _, rfl, _, rfl, a, _, 0, _, rfl, rfl, SqT.of (s1 _ _ hr1), at_vec (by omega) (by omega), rows 0, _, rfl, .inr (SqT.of (s1 _ _ (hr2 0 (by omega)))), rows i, m, f i, by rw [vec_len]; rfl, s1 _ _ (hr2 i hi), by omega, fun H3 s3 => k _ s3⟩, Same.refl _⟩
    · rw [vec_bl] at h1
      refine ⟨L, List.replicate n true, rfl, SqL.of h1, ?_⟩
      rw [all_rep]
      exact q _ s1
theorem cal_need_table (D : Df K mg "need_table" sNeedTable) (C : Cal P w K mg base 3 "is_table_form" spIsTableForm []) : Cal P w K mg base 4 "need_table" spNeedTable [] := by
  refine D.cal scNeedTable (fun f fd F => F.binds fun _ _ _ _ _ _ us hl => match us, hl with | [_], _ => rfl) (fun vs H Q E h => ?_) fun f cdv A outer s H vs Q E hr h => ?_
  · obtain ⟨a, n, m, f, rfl, _⟩ := h
    rfl
  · obtain ⟨a, n, m, f, rfl, ta, hn, hm, q⟩ := h
    refine ⟨_, pss_one (ps_if (pt_not (pt_val (pe_c C hr (by decide) (by rfl) (pa_cons (pv 0) pa_nil)))) (pss_one ps_never) pss_nil), ?_⟩
    exact ⟨_, rfl, a, n, m, f, rfl, ta, hn, hm, fun H' s' => ⟨true, rfl, iteF (q H' s')⟩⟩
theorem cal_need_indexes (D : Df K mg "need_indexes" sNeedIndexes) (C : Cal P w K mg base 4 "are_indexes" spAreIndexes []) : Cal P w K mg base 5 "need_indexes" spNeedIndexes [] := by
  refine D.cal scNeedIndexes (fun f fd F => F.binds fun _ _ _ _ _ _ us hl => match us, hl with | [_, _], _ => rfl) (fun vs H Q E h => ?_) fun f cdv A outer s H vs Q E hr h => ?_
  · obtain ⟨a, n, f, c, rfl, _⟩ := h
    rfl
  · obtain ⟨a, n, f, c, rfl, ta, hn, hi, q⟩ := h
    refine ⟨_, pss_one (ps_if (pt_not (pt_val (pe_c C hr (by decide) (by rfl) (pa_cons (pv 0) (pa_cons (pv 1) pa_nil))))) (pss_one ps_never) pss_nil), ?_⟩
    exact ⟨_, rfl, _, rfl, a, n, f, c, rfl, ta, hn, hi, fun H' s' => ⟨true, rfl, iteF (q H' s')⟩⟩
theorem cal_need_numbers (D : Df K mg "need_numbers" sNeedNumbers) (C : Cal P w K mg base 2 "are_integers" spAreIntegers []) : Cal P w K mg base 3 "need_numbers" spNeedNumbers [] := by
  refine D.cal scNeedNumbers (fun f fd F => F.binds fun _ _ _ _ _ _ us hl => match us, hl with | [_, _], _ => rfl) (fun vs H Q E h => ?_) fun f cdv A outer s H vs Q E hr h => ?_
  · obtain ⟨a, n, f, rfl, _⟩ := h
    rfl
  · obtain ⟨a, n, f, rfl, ta, hn, q⟩ := h
    refine ⟨_, pss_one (ps_if (pt_not (pt_val (pe_c C hr (by decide) (by rfl) (pa_cons (pv 0) (pa_cons (pv 1) pa_nil))))) (pss_one ps_never) pss_nil), ?_⟩
    exact ⟨_, rfl, _, rfl, a, n, f, rfl, ta, hn, fun H' s' => ⟨true, rfl, iteF (q H' s')⟩⟩
theorem cal_need_two (D : Df K mg "need_two" sNeedTwo) (B : Bt mg) (C : Cal P w K mg base 4 "need_table" spNeedTable []) : Cal P w K mg base 5 "need_two" spNeedTwo [] := by
  refine D.cal scNeedTwo (fun f fd F => F.binds fun _ _ _ _ _ _ us hl => match us, hl with | [_, _], _ => rfl) (fun vs H Q E h => ?_) fun f cdv A outer s H vs Q E hr h => ?_
  · obtain ⟨a, b, n, m, k, f, g, rfl, _⟩ := h
    rfl
  · obtain ⟨a, b, n, m, k, f, g, rfl, ta, tb, hn, hm, hk, q⟩ := h
    refine ⟨_, pss_cons (ps_expr (pe_c C hr (by decide) (by rfl) (pa_cons (pv 0) pa_nil))) (pss_cons (ps_expr (pe_c C hr (by decide) (by rfl) (pa_cons (pv 1) pa_nil)))
      (pss_one (ps_if (pt_cmpR op_ne (pe_callB (kLen K) (by rfl) B.len PySem.boot_len (pa_cons (pe_ix (kIxT K) (pv 0) pe_int (fun _ _ => rfl)) pa_nil)) (pe_callB (kLen K) (by rfl) B.len PySem.boot_len (pa_cons (pv 1) pa_nil)) (nomark _)) (pss_one ps_never) pss_nil))), ?_⟩
    refine ⟨_, rfl, a, n, m, f, rfl, ta, hn, hm, fun H1 s1 => ⟨_, rfl, b, m, k, g, rfl, tb.kt s1.kt, hm, hk, fun H2 s2 => ?_⟩⟩
    have s12 := s1.trans s2
    obtain ⟨rows, hr1, hr2⟩ := ta.kt s12.kt
    obtain ⟨rws, hb1, hb2⟩ := tb.kt s12.kt
    have hn1 := hn.1
    refine ⟨_, rfl, a, _, 0, _, rfl, rfl, SqT.of hr1, at_vec (by omega) (by omega), rows 0, _, rfl, .inr (SqT.of (hr2 0 (by omega))), _, rfl, b, _, rfl, .inr (SqT.of hb1), rfl, _, rfl, iteNS ?_ (q _ s12)⟩
    rw [vec_len, vec_len]
theorem cal_product (D : Df K mg "product" sProduct) (C1 : Cal P w K mg base 5 "need_two" spNeedTwo []) (C2 : Cal P w K mg base 2 "least_sums" spLeastSums []) : Cal P w K mg base 6 "product" spProduct [] := by
  refine D.cal scProduct (fun f fd F => F.binds fun _ _ _ _ _ _ us hl => match us, hl with | [_, _], _ => rfl) (fun vs H Q E h => ?_) fun f cdv A outer s H vs Q E hr h => ?_
  · obtain ⟨a, b, n, m, k, f, g, rfl, _⟩ := h
    rfl
  · obtain ⟨a, b, n, m, k, f, g, rfl, ta, tb, hn, hm, hk, q⟩ := h
    refine ⟨_, pss_cons (ps_expr (pe_c C1 hr (by decide) (by rfl) (pa_cons (pv 0) (pa_cons (pv 1) pa_nil)))) (pss_one (ps_ret (pe_c C2 hr (by decide) (by rfl) (pa_cons (pv 0) (pa_cons (pv 1) pa_nil))))), ?_⟩
    have n8 := hn.2
    have m8 := hm.2
    have k8 := hk.2
    exact ⟨_, rfl, _, rfl, a, b, n, m, k, f, g, rfl, ta, tb, hn, hm, hk, fun H1 s1 => ⟨_, rfl, _, rfl, a, b, n, m, k, f, g, rfl, ta.kt s1.kt, tb.kt s1.kt, hm.1, by omega, by omega, by omega, fun H2 p G s2 tp hG => q H2 p G (s1.trans s2) tp hG⟩⟩
theorem cal_lifted (D : Df K mg "lifted" sLifted) (B : Bt mg) (C1 : Cal P w K mg base 4 "need_table" spNeedTable []) (C2 : Cal P w K mg base 3 "need_numbers" spNeedNumbers []) (C3 : Cal P w K mg base 1 "width" spWidth []) (C4 : Cal P w K mg base 1 "lifted_table" spLiftedTable []) : Cal P w K mg base 5 "lifted" spLifted [] := by
  refine D.cal scLifted (fun f fd F => F.binds fun _ _ _ _ _ _ us hl => match us, hl with | [_, _, _], _ => rfl) (fun vs H Q E h => ?_) fun f cdv A outer s H vs Q E hr h => ?_
  · obtain ⟨a, b, c, n, m, f, u, v, rfl, _⟩ := h
    rfl
  · obtain ⟨a, b, c, n, m, f, u, v, rfl, ta, tb, tc, hn, hm, q⟩ := h
    refine ⟨_, pss_cons (ps_expr (pe_c C1 hr (by decide) (by rfl) (pa_cons (pv 0) pa_nil)))
      (pss_cons (ps_expr (pe_c C2 hr (by decide) (by rfl) (pa_cons (pv 1) (pa_cons (pe_callB (kLen K) (by rfl) B.len PySem.boot_len (pa_cons (pv 0) pa_nil)) pa_nil))))
      (pss_cons (ps_expr (pe_c C2 hr (by decide) (by rfl) (pa_cons (pv 2) (pa_cons (pe_c C3 hr (by decide) (by rfl) (pa_cons (pv 0) pa_nil)) pa_nil))))
      (pss_one (ps_ret (pe_c C4 hr (by decide) (by rfl) (pa_cons (pv 0) (pa_cons (pv 1) (pa_cons (pv 2) pa_nil)))))))), ?_⟩
    have n8 := hn.2
    have m8 := hm.2
    refine ⟨_, rfl, a, n, m, f, rfl, ta, hn, hm, fun H1 s1 => ?_⟩
    obtain ⟨rows, hr1, hr2⟩ := ta.kt s1.kt
    refine ⟨_, rfl, _, rfl, a, _, rfl, .inr (SqT.of hr1), b, n, u, by rw [vec_len]; rfl, tb.kt s1.kt, by omega, fun H2 s2 => ?_⟩
    have s12 := s1.trans s2
    refine ⟨_, rfl, _, rfl, a, n, m, f, rfl, ta.kt s12.kt, hn.1, c, m, v, rfl, tc.kt s12.kt, by omega, fun H3 s3 => ?_⟩
    have s13 := s12.trans s3
    exact ⟨_, rfl, _, rfl, _, rfl, a, b, c, n, m, f, u, v, rfl, ta.kt s13.kt, tb.kt s13.kt, tc.kt s13.kt, by omega, by omega, fun H4 p s4 tp => q H4 p (s13.trans s4) tp⟩
theorem cal_scaled (D : Df K mg "scaled" sScaled) (mT : ∃ t, mg "MOST_TIMES" = some (.int 1000000000 t)) (C1 : Cal P w K mg base 4 "need_table" spNeedTable []) (C2 : Cal P w K mg base 3 "need_number" spNeedNumber []) (C3 : Cal P w K mg base 1 "scaled_table" spScaledTable []) : Cal P w K mg base 5 "scaled" spScaled [] := by
  obtain ⟨tT, mT⟩ := mT
  refine D.cal scScaled (fun f fd F => F.binds fun _ _ _ _ _ _ us hl => match us, hl with | [_, _], _ => rfl) (fun vs H Q E h => ?_) fun f cdv A outer s H vs Q E hr h => ?_
  · obtain ⟨a, n, m, f, t, rfl, _⟩ := h
    rfl
  · obtain ⟨a, n, m, f, t, rfl, ta, hn, hm, h0, h1, q⟩ := h
    refine ⟨_, pss_cons (ps_expr (pe_c C1 hr (by decide) (by rfl) (pa_cons (pv 0) pa_nil)))
      (pss_cons (ps_expr (pe_c C2 hr (by decide) (by rfl) (pa_cons (pv 1) (pa_cons pe_int (pa_cons (pe_glob (v := .int 1000000000) (by rfl) mT ⟨_, rfl⟩) pa_nil)))))
      (pss_one (ps_ret (pe_c C3 hr (by decide) (by rfl) (pa_cons (pv 0) (pa_cons (pv 1) pa_nil)))))), ?_⟩
    have n8 := hn.2
    have m8 := hm.2
    exact ⟨_, rfl, a, n, m, f, rfl, ta, hn, hm, fun H1 s1 => ⟨_, rfl, t, 0, 1000000000, rfl, h0, h1, _, rfl, _, rfl, a, n, m, f, t, rfl, ta.kt s1.kt, by omega, by omega, h0, h1, fun H2 p s2 tp => q H2 p (s1.trans s2) tp⟩⟩
theorem cal_turned (D : Df K mg "turned" sTurned) (C1 : Cal P w K mg base 4 "need_table" spNeedTable []) (C2 : Cal P w K mg base 2 "turned_table" spTurnedTable []) : Cal P w K mg base 5 "turned" spTurned [] := by
  refine D.cal scTurned (fun f fd F => F.binds fun _ _ _ _ _ _ us hl => match us, hl with | [_], _ => rfl) (fun vs H Q E h => ?_) fun f cdv A outer s H vs Q E hr h => ?_
  · obtain ⟨a, n, m, f, rfl, _⟩ := h
    rfl
  · obtain ⟨a, n, m, f, rfl, ta, hn, hm, q⟩ := h
    refine ⟨_, pss_cons (ps_expr (pe_c C1 hr (by decide) (by rfl) (pa_cons (pv 0) pa_nil))) (pss_one (ps_ret (pe_c C2 hr (by decide) (by rfl) (pa_cons (pv 0) pa_nil)))), ?_⟩
    have n8 := hn.2
    have m8 := hm.2
    exact ⟨_, rfl, a, n, m, f, rfl, ta, hn, hm, fun H1 s1 => ⟨_, rfl, a, n, m, f, rfl, ta.kt s1.kt, hn.1, by omega, by omega, fun H2 p s2 tp => q H2 p (s1.trans s2) tp⟩⟩
theorem cal_thinned (D : Df K mg "thinned" sThinned) (B : Bt mg) (C1 : Cal P w K mg base 4 "need_table" spNeedTable []) (C2 : Cal P w K mg base 5 "need_indexes" spNeedIndexes []) (C3 : Cal P w K mg base 1 "width" spWidth []) (C4 : Cal P w K mg base 1 "thinned_table" spThinnedTable []) : Cal P w K mg base 6 "thinned" spThinned [] := by
  refine D.cal scThinned (fun f fd F => F.binds fun _ _ _ _ _ _ us hl => match us, hl with | [_, _, _], _ => rfl) (fun vs H Q E h => ?_) fun f cdv A outer s H vs Q E hr h => ?_
  · obtain ⟨a, b, c, n, m, s, t, f, u, v, rfl, _⟩ := h
    rfl
  · obtain ⟨a, b, c, n, m, s, t, f, u, v, rfl, ta, tb, tc, hn, hm, hu, hv, q⟩ := h
    refine ⟨_, pss_cons (ps_expr (pe_c C1 hr (by decide) (by rfl) (pa_cons (pv 0) pa_nil)))
      (pss_cons (ps_expr (pe_c C2 hr (by decide) (by rfl) (pa_cons (pv 1) (pa_cons (pe_callB (kLen K) (by rfl) B.len PySem.boot_len (pa_cons (pv 0) pa_nil)) pa_nil))))
      (pss_cons (ps_expr (pe_c C2 hr (by decide) (by rfl) (pa_cons (pv 2) (pa_cons (pe_c C3 hr (by decide) (by rfl) (pa_cons (pv 0) pa_nil)) pa_nil))))
      (pss_one (ps_ret (pe_c C4 hr (by decide) (by rfl) (pa_cons (pv 0) (pa_cons (pv 1) (pa_cons (pv 2) pa_nil)))))))), ?_⟩
    have n8 := hn.2
    have m8 := hm.2
    have u8 := hu.2.1
    have v8 := hv.2.1
    refine ⟨_, rfl, a, n, m, f, rfl, ta, hn, hm, fun H1 s1 => ?_⟩
    obtain ⟨rows, hr1, hr2⟩ := ta.kt s1.kt
    refine ⟨_, rfl, _, rfl, a, _, rfl, .inr (SqT.of hr1), b, s, u, n, by rw [vec_len]; rfl, tb.kt s1.kt, by omega, hu, fun H2 s2 => ?_⟩
    have s12 := s1.trans s2
    refine ⟨_, rfl, _, rfl, a, n, m, f, rfl, ta.kt s12.kt, hn.1, c, t, v, m, rfl, tc.kt s12.kt, by omega, hv, fun H3 s3 => ?_⟩
    have s13 := s12.trans s3
    exact ⟨_, rfl, _, rfl, _, rfl, a, b, c, n, m, s, t, f, u, v, rfl, ta.kt s13.kt, tb.kt s13.kt, tc.kt s13.kt, by omega, by omega, hu.2.2.1, hv.2.2.1, fun H4 p s4 tp => q H4 p (s13.trans s4) tp⟩
end
end K30
set_option Elab.async false
set_option linter.all false
set_option maxRecDepth 100000
set_option maxHeartbeats 4000000
/-! The law's draws: the feed, one draw, one thing. -/
namespace K30
open PySem PySem.Spec PyProof.Rows L2
open C8 (Cal pe_c)
/-! ### constants by powers, products of great ints -/
section
variable {X : Cx}
theorem pe_pow {i j v : Int} {k1 k2 : Nat} {p1 p2 pos : Pos} (h : CPow i j) (e : i ^ j.toNat = v) : PE X (.BinOp (.Constant (.int i) k1 p1) .Pow (.Constant (.int j) k2 p2) pos) (tC (.int v)) := by
  refine ⟨fun pins s σ H Q I q => (pe_op op_pow pe_int pe_int).run pins s σ H Q I ⟨_, _, rfl, rfl, h, ?_⟩⟩
  show Q (.int (i ^ j.toNat)) H
  rw [e]
  exact q
/-- * of two factors of together less than a hundred million bits -/
def CMulB (i j : Int) : Prop := i.natAbs.log2 + j.natAbs.log2 < 100000000
theorem bits_log (x : Int) : Builtin.Int.intBits x ≤ x.natAbs.log2 + 1 := by
  rw [Builtin.Int.intBits]
  split
  · exact Nat.zero_le _
  · exact Nat.le_refl _
theorem CMulB.ok {i j : Int} (h : CMulB i j) : IntMulOk i j := fun z => by
  have big : Builtin.Int.intTooBig (Builtin.Int.intBits i + Builtin.Int.intBits j) = true := (Bool.and_eq_true_iff.mp z).2
  have over : ((Builtin.Int.intBits i + Builtin.Int.intBits j : Nat) : Int) > ((2 ^ 27 : Nat) : Int) := of_decide_eq_true big
  have bi := bits_log i
  have bj := bits_log j
  have sum : i.natAbs.log2 + j.natAbs.log2 < 100000000 := h
  omega
theorem op_mulB : OpR X (binaryOp .Mult) (rI CMulB fun i j => .int (i * j)) := opI fun _ _ _ _ _ _ _ hc q => mul_int q hc.ok
end
theorem mulB_of {i j : Int} {a b : Nat} (ha : i.natAbs < 2 ^ a) (hb : j.natAbs < 2 ^ b) (h0 : 0 < a) (h1 : 0 < b) (h : a + b ≤ 10000000) : CMulB i j := by
  have la : i.natAbs.log2 < a := PySem.Flt.log2_lt_of h0 ha
  have lb : j.natAbs.log2 < b := PySem.Flt.log2_lt_of h1 hb
  show i.natAbs.log2 + j.natAbs.log2 < 100000000
  omega
theorem bits_lt {z : Int} {b : Nat} (h : Builtin.Int.intBits z ≤ b) : z.natAbs < 2 ^ b := by
  by_cases h0 : z = 0
  · rw [h0]
    exact Nat.two_pow_pos b
  · have e : Builtin.Int.intBits z = z.natAbs.log2 + 1 := if_neg (by simpa using h0)
    rw [e] at h
    exact Nat.lt_of_lt_of_le Nat.lt_log2_self (Nat.pow_le_pow_right (by decide) h)

/-! ### the feed -/
/-- the feed at f: digits left, the cell's stir, how many stirs so far (at most N) -/
def FeedAt (H : Hp) (f : Addr) (N : Nat) : Prop :=
  ∃ (x y z : Int) (B : Nat), H f = some (.lst [.int x, .int y, .int z]) ∧ 0 ≤ x ∧ x.natAbs < 2 ^ B ∧ 1 ≤ B ∧ B ≤ 1100000 ∧ 0 ≤ y ∧ y < 1000000000000000000000000000000000000023 ∧ 0 ≤ z ∧ z ≤ (N : Int)
theorem FeedAt.mono {H : Hp} {f : Addr} {N M : Nat} (h : FeedAt H f N) (e : N ≤ M) : FeedAt H f M := by
  obtain ⟨x, y, z, B, h1, h2, h3, h4, h5, h6, h7, h8, h9⟩ := h
  exact ⟨x, y, z, B, h1, h2, h3, h4, h5, h6, h7, h8, by omega⟩
theorem FeedAt.same {H H' : Hp} {f : Addr} {N : Nat} (h : FeedAt H f N) (s : Same H H') : FeedAt H' f N := by
  obtain ⟨x, y, z, B, h1, hr⟩ := h
  exact ⟨x, y, z, B, s _ _ h1, hr⟩
theorem FeedAt.lst {H : Hp} {f : Addr} {N : Nat} (h : FeedAt H f N) : ∃ xs, H f = some (.lst xs) := by
  obtain ⟨x, y, z, B, h1, _⟩ := h
  exact ⟨_, h1⟩
theorem FeedAt.upd {H : Hp} {f D : Addr} {N : Nat} {o : HO} (h : FeedAt H f N) (n : f ≠ D) : FeedAt (upd H D o) f N := by
  obtain ⟨x, y, z, B, h1, hr⟩ := h
  exact ⟨x, y, z, B, by rw [upd_ne n]; exact h1, hr⟩
theorem FeedAt.ne {H : Hp} {f D : Addr} {N : Nat} (h : FeedAt H f N) (n : H D = none) : f ≠ D := by
  obtain ⟨xs, e⟩ := h.lst
  exact ne_of_none e n
theorem FeedAt.kt {H H' : Hp} {f : Addr} {N : Nat} (h : FeedAt H f N) (s : SameX f H H') : KT H H' := by
  obtain ⟨xs, e⟩ := h.lst
  exact s.kt e

abbrev sFeed : Stmt := topS 43
abbrev sDraw : Stmt := topS 44
abbrev sOne : Stmt := topS 45
theorem scFeed : FnScope ["_law_script", "_law_k", "_law_cell"] ["_law_script", "_law_k"] (defScope sFeed) := ⟨rfl, rfl, rfl, by decide +kernel, rfl, by decide +kernel, by decide +kernel⟩
theorem scDraw : FnScope ["_law_feed_here", "_law_many", "_law_rest", "_law_got", "_law_stir"] ["_law_feed_here", "_law_many"] (defScope sDraw) := ⟨rfl, rfl, rfl, by decide +kernel, rfl, by decide +kernel, by decide +kernel⟩
theorem scOne : FnScope ["_law_feed_here", "_law_things"] ["_law_feed_here", "_law_things"] (defScope sOne) := ⟨rfl, rfl, rfl, by decide +kernel, rfl, by decide +kernel, by decide +kernel⟩
/-- a script whose ints are of at most so many bits -/
def Bits (ns : List Int) : Prop := ∃ b : Nat, b ≤ 1048576 ∧ ∀ z, z ∈ ns → z.natAbs < 2 ^ b
def spFeed (K : PySem.W.Frag) : Sp := fun vs H Q _ => ∃ (a : Addr) (ns : List Int) (k : Nat), vs = [.ref a, .int k] ∧ SqL K H a (ns.map V.int) ∧ Bits ns ∧ k < 4 ∧ ∀ H' p, Same H H' → H p = none → FeedAt H' p 0 → Q (.ref p) H'
def spDraw : Sp := fun vs H Q _ => ∃ (f : Addr) (m : Int) (N : Nat), vs = [.ref f, .int m] ∧ FeedAt H f N ∧ N ≤ 100000 ∧ 1 ≤ m ∧ m ≤ 100000000000000000000000000000 ∧ ∀ v H', 0 ≤ v → v < m → SameX f H H' → FeedAt H' f (N + 1) → Q (.int v) H'
def spOne : Sp := fun vs H Q _ => ∃ (f l : Addr) (N : Nat) (ns : List Int), vs = [.ref f, .ref l] ∧ FeedAt H f N ∧ N ≤ 100000 ∧ H l = some (.lst (ns.map V.int)) ∧ l ≠ f ∧ 1 ≤ ns.length ∧ ns.length ≤ 1000 ∧ ∀ v H', v ∈ ns → SameX f H H' → FeedAt H' f (N + 1) → Q (.int v) H'
theorem cutTo (xs : List V) (k : Nat) : cutV xs none (some (k : Int)) = xs.take k := by
  unfold cutV
  rw [show HT.sIx xs.length xs.length (some (k : Int)) = min k xs.length from HT.sIx_nat xs.length xs.length k, HT.sIx_none, Nat.sub_zero, List.drop_zero]
  by_cases h : k ≤ xs.length
  · rw [Nat.min_eq_left h]
  · rw [Nat.min_eq_right (by omega), List.take_length, List.take_of_length_le (by omega)]
theorem lt_pow_more {x : Nat} {b : Nat} (c : Nat) (h : x < 2 ^ b) (hc : c ≤ 4000) : c + x < 2 ^ (b + 12) := by
  have h1 : 2 ^ (b + 12) = 2 ^ b * 4096 := by rw [Nat.pow_add]
  have h2 : 1 ≤ 2 ^ b := Nat.two_pow_pos b
  omega
section
variable {P : Program} {w : World} {K : PySem.W.Frag} {mg : Str → Option Value} {base : Heap}
theorem cal_feed (D : Df K mg "_law_feed" sFeed) (B : Bt mg) : Cal P w K mg base 1 "_law_feed" (spFeed K) [] := by
  refine D.cal scFeed (fun f fd F => F.binds fun _ _ _ _ _ _ us hl => match us, hl with | [_, _], _ => rfl) (fun vs H Q E h => ?_) fun f cdv A outer s H vs Q E hr h => ?_
  · obtain ⟨a, ns, k, rfl, _⟩ := h
    rfl
  · obtain ⟨a, ns, k, rfl, hS, ⟨b, hb, hz⟩, hk, q⟩ := h
    refine ⟨_, pss_cons (ps_set (i := 2) scFeed.nd rfl (.inl rfl) (pe_op op_add (pe_op op_mul pe_int (pv 1)) (pe_callB (cr_sum rfl) (by rfl) B.sum (by decide +kernel) (pa_cons (pe_slice sl_list (pv 0) po_none (po_some pe_int)) pa_nil))))
      (pss_cons (ps_if (pt_cmpR op_lt (pv 1) (pe_callB call_len_seq (by rfl) B.len PySem.boot_len (pa_cons (pv 0) pa_nil)) (nomark _))
        (pss_one (ps_set (i := 2) scFeed.nd rfl (.inl rfl) (pe_ix ix_list (pv 0) (pv 1) (fun _ _ => rfl)))) pss_nil)
      (pss_one (ps_ret (pe_lst (pa_cons (pe_callB (call_max2 rfl) (by rfl) B.max (by decide +kernel) (pa_cons pe_int (pa_cons (pe_op op_sub (pv 2) (pe_pow (v := 1000000000000000000) ⟨by decide, by decide, by decide⟩ (by decide +kernel))) pa_nil)))
        (pa_cons (pe_op op_mod (pe_callTy call_int1 (by rfl) B.int_ (by decide +kernel) (pa_cons (pe_op op_add (pe_op op_mul (pv 2) pe_int) (pe_op op_mul pe_int (pv 1))) pa_nil))
          (pe_op op_add (pe_pow (v := 1000000000000000000000000000000000000000) ⟨by decide, by decide, by decide⟩ (by decide +kernel)) pe_int)) (pa_cons pe_int pa_nil))))))), ?_⟩
    -- 977 * k + sum(script[:1])
    refine ⟨_, rfl, _, _, rfl, rfl, .inl ⟨by decide, by decide⟩, _, rfl, 1, rfl, a, _, rfl, hS, fun p hp => ?_⟩
    have e1 : cutV (ns.map V.int) none (some ((1 : Nat) : Int)) = (ns.take 1).map V.int := by rw [cutTo, List.map_take]
    have sp := same_upd (o := .lst (cutV (ns.map V.int) none (some 1))) hp
    refine ⟨p, ns.take 1, rfl, SqL.of (by rw [upd_same]; exact congrArg some (congrArg HO.lst e1)), _, _, rfl, rfl, ?_⟩
    generalize hH1 : upd H p (.lst (cutV (ns.map V.int) none (some 1))) = H1 at sp
    have hS1 : SqL K H1 a (ns.map V.int) := sp.seq hS
    -- the end, for any cell
    have fin : ∀ c : Int, c.natAbs < 2 ^ (b + 12) → (∀ D : Ends, D = { nx := fun (_ : L2.St) H' => Q .non H', rt := Q } → tRet (tLst (tCons (tCB (fun xs H Q => ∃ i j, xs = [.int i, .int j] ∧ Q (.int (if j > i then j else i)) H) (tCons (tC (.int 0)) (tCons (tOp (rI0 fun i j => .int (i - j)) (tVar 2) (tC (.int 1000000000000000000))) tNil)))
        (tCons (tOp (rI (fun _ j => 0 < j) fun i j => .int (i % j)) (tCB (fun xs H Q => (∃ i, xs = [.int i] ∧ Q (.int i) H) ∨ ∃ k, xs = [.bl k] ∧ Q (.int (if k then 1 else 0)) H) (tCons (tOp (rI0 fun i j => .int (i + j)) (tOp (rI CMul fun i j => .int (i * j)) (tVar 2) (tC (.int 19))) (tOp (rI CMul fun i j => .int (i * j)) (tC (.int 7)) (tVar 1))) tNil))
          (tOp (rI0 fun i j => .int (i + j)) (tC (.int 1000000000000000000000000000000000000000)) (tC (.int 23)))) (tCons (tC (.int 0)) tNil)))) D [some (.ref a), some (.int k), some (.int c)] H1) := by
      rintro c hc D rfl
      refine ⟨_, rfl, _, _, rfl, rfl, _, _, rfl, _, rfl, _, _, rfl, rfl, .inr ⟨by decide, by decide⟩, _, rfl, _, _, rfl, rfl, .inl ⟨by decide, by decide⟩, _, _, rfl, rfl, .inl ⟨_, rfl, _, _, rfl, rfl, _, _, rfl, rfl, (by show (0 : Int) < 1000000000000000000000000000000000000000 + 23; decide), by show 3 ≤ sizeLine; decide, fun l hl => ?_⟩⟩
      refine q _ l (sp.trans (same_upd hl)) (sp.free hl) ⟨_, _, _, b + 12, upd_same, ?_, ?_, by omega, by omega, ?_, ?_, Int.le_refl _, Int.le_refl _⟩
      · split <;> omega
      · refine Nat.lt_of_le_of_lt ?_ hc
        split <;> omega
      · exact Int.emod_nonneg _ (by decide)
      · exact Int.emod_lt_of_pos _ (by decide)
    have hsum : ((977 : Int) * (k : Int) + (ns.take 1).sum).natAbs < 2 ^ (b + 12) := by
      have h2 : (ns.take 1).sum.natAbs < 2 ^ b := by
        cases ns with
        | nil => exact Nat.two_pow_pos b
        | cons z r =>
          have e : ((z :: r).take 1).sum = z := by
            show (([z] : List Int)).sum = z
            rw [List.sum_cons, List.sum_nil, Int.add_zero]
          rw [e]
          exact hz z List.mem_cons_self
      have h3 := lt_pow_more (977 * 3) h2 (by decide)
      omega
    refine ⟨_, rfl, _, rfl, a, _, rfl, .inl hS1, _, _, rfl, rfl, _, rfl, ite2 (fun e => ?_) (fun e => fin _ hsum _ rfl)⟩
    have hl : (k : Int) < ((ns.map V.int).length : Int) := of_decide_eq_true e
    rw [List.length_map] at hl
    have hk2 : k < ns.length := by omega
    refine ⟨_, rfl, _, rfl, a, _, _, .int (ns[k]), rfl, rfl, hS1, atI_nat (j := k) (by rw [List.getElem?_map, List.getElem?_eq_getElem hk2]; rfl), ?_⟩
    refine fin (ns[k]) ?_ _ rfl
    have h2 := lt_pow_more 0 (hz _ (List.getElem_mem hk2)) (by decide)
    omega
theorem cal_draw (D : Df K mg "_law_draw" sDraw) (B : Bt mg) : Cal P w K mg base 1 "_law_draw" spDraw [] := by
  refine D.cal scDraw (fun f fd F => F.binds fun _ _ _ _ _ _ us hl => match us, hl with | [_, _], _ => rfl) (fun vs H Q E h => ?_) fun f cdv A outer s H vs Q E hr h => ?_
  · obtain ⟨f, m, N, rfl, _⟩ := h
    rfl
  · obtain ⟨f, m, N, rfl, ⟨x, y, z, b, hf, x0, xb, b1, b2, y0, y1, z0, z1⟩, hN, m1, m2, q⟩ := h
    refine ⟨_, pss_cons (ps_if (pt_cmpR op_gt (pe_ix ix_list (pv 0) pe_int (fun _ _ => rfl)) pe_int (nomark _))
        (pss_cons (ps_set (i := 2) scDraw.nd rfl (.inl rfl) (pe_op op_fdivW (pe_ix ix_list (pv 0) pe_int (fun _ _ => rfl)) (pv 1)))
        (pss_cons (ps_set (i := 3) scDraw.nd rfl (.inl rfl) (pe_op op_sub (pe_ix ix_list (pv 0) pe_int (fun _ _ => rfl)) (pe_op op_mulB (pv 2) (pv 1))))
        (pss_cons (ps_asg (pv 2) (pg_sub (pv 0) pe_int set_list))
        (pss_one (ps_ret (pv 3)))))) pss_nil)
      (pss_cons (ps_asg (pe_op op_add (pe_ix ix_list (pv 0) pe_int (fun _ _ => rfl)) pe_int) (pg_sub (pv 0) pe_int set_list))
      (pss_cons (ps_set (i := 4) scDraw.nd rfl (.inl rfl) (pe_op op_add (pe_ix ix_list (pv 0) pe_int (fun _ _ => rfl)) (pe_op op_mul pe_int (pe_ix ix_list (pv 0) pe_int (fun _ _ => rfl)))))
      (pss_cons (ps_set (i := 4) scDraw.nd rfl (.inl rfl) (pe_op op_mod (pe_callTy call_int1 (by rfl) B.int_ (by decide +kernel) (pa_cons (pe_op op_add (pe_op op_mulB (pe_op op_mulB (pv 4) (pv 4)) (pv 4)) (pe_op op_mul pe_int (pe_ix ix_list (pv 0) pe_int (fun _ _ => rfl)))) pa_nil))
        (pe_op op_add (pe_pow (v := 10000000000000000000000000000000000000000000) ⟨by decide, by decide, by decide⟩ (by decide +kernel)) pe_int)))
      (pss_cons (ps_set (i := 4) scDraw.nd rfl (.inl rfl) (pe_op op_mod (pe_callTy call_int1 (by rfl) B.int_ (by decide +kernel) (pa_cons (pe_op op_add (pe_op op_mulB (pv 4) (pv 4)) pe_int) pa_nil))
        (pe_op op_add (pe_pow (v := 100000000000000000000000000000000000000) ⟨by decide, by decide, by decide⟩ (by decide +kernel)) pe_int)))
      (pss_one (ps_ret (pe_op op_mod (pe_callTy call_int1 (by rfl) B.int_ (by decide +kernel) (pa_cons (pe_op op_fdiv (pv 4) (pe_pow (v := 1000000000) ⟨by decide, by decide, by decide⟩ (by decide +kernel))) pa_nil)) (pv 1)))))))), ?_⟩
    have hS := SqL.of (K := K) hf
    have m100 : m.natAbs < 2 ^ 100 := by omega
    refine ⟨_, rfl, f, _, 0, .int x, rfl, rfl, hS, rfl, _, _, rfl, rfl, _, rfl, ite2 (fun e => ?_) (fun e => ?_)⟩
    · have hx : 0 < x := of_decide_eq_true e
      have d0 : 0 ≤ x / m := Int.ediv_nonneg x0 (by omega)
      have d1 : x / m ≤ x := Int.ediv_le_self m x0
      have db : (x / m).natAbs < 2 ^ b := Nat.lt_of_le_of_lt (by omega) xb
      have em : x - x / m * m = x % m := by rw [Int.emod_def, Int.mul_comm]
      refine ⟨_, rfl, f, _, 0, .int x, rfl, rfl, hS, rfl, _, rfl, _, _, rfl, rfl, wide_div (by omega) m100 (by decide) (by decide), ?_⟩
      refine ⟨_, rfl, f, _, 0, .int x, rfl, rfl, hS, rfl, _, rfl, _, rfl, _, _, rfl, rfl, mulB_of db m100 (by omega) (by decide) (by omega), _, _, rfl, rfl, ?_⟩
      refine ⟨_, rfl, _, rfl, f, _, 0, 0, rfl, rfl, hf, rfl, _, rfl, ?_⟩
      show Q (.int (x - x / m * m)) _
      rw [em]
      exact q _ _ (Int.emod_nonneg _ (by omega)) (Int.emod_lt_of_pos _ (by omega)) sameX_upd ⟨_, y, z, b, upd_same, d0, db, b1, b2, y0, y1, z0, by omega⟩
    · -- feed[2] = feed[2] + 1
      refine ⟨_, rfl, f, _, 2, .int z, rfl, rfl, hS, rfl, _, _, rfl, rfl, _, rfl, f, _, 2, 2, rfl, rfl, hf, rfl, ?_⟩
      generalize hH1 : upd H f _ = H1
      have hf1 : H1 f = some (.lst [.int x, .int y, .int (z + 1)]) := by
        rw [← hH1, upd_same]
        rfl
      have sx : SameX f H H1 := by
        rw [← hH1]
        exact sameX_upd
      have hS1 := SqL.of (K := K) hf1
      generalize hz' : z + 1 = z' at hf1 hS1
      -- feed[1] + 6700417 * feed[2]
      refine ⟨_, rfl, f, _, 1, .int y, rfl, rfl, hS1, rfl, _, rfl, f, _, 2, .int z', rfl, rfl, hS1, rfl, _, _, rfl, rfl, .inl ⟨by decide, by decide⟩, _, _, rfl, rfl, ?_⟩
      have g1 : (y + 6700417 * z').natAbs < 2 ^ 131 := by omega
      have g2 := wide_lt g1 g1
      refine ⟨_, rfl, _, rfl, _, _, rfl, rfl, mulB_of (a := 131) (b := 131) g1 g1 (by decide) (by decide) (by decide), _, rfl, _, _, rfl, rfl, mulB_of (a := 131 + 131) (b := 131) g2 g1 (by decide) (by decide) (by decide), _, rfl, f, _, 2, .int z', rfl, rfl, hS1, rfl, _, _, rfl, rfl, .inl ⟨by decide, by decide⟩, _, _, rfl, rfl, .inl ⟨_, rfl, _, _, rfl, rfl, _, _, rfl, rfl, (by show (0 : Int) < 10000000000000000000000000000000000000000000 + 57; decide), ?_⟩⟩
      have h0 := Int.emod_nonneg ((y + 6700417 * z') * (y + 6700417 * z') * (y + 6700417 * z') + 15485863 * z') (show (10000000000000000000000000000000000000000000 + 57 : Int) ≠ 0 by decide)
      have h1 := Int.emod_lt_of_pos ((y + 6700417 * z') * (y + 6700417 * z') * (y + 6700417 * z') + 15485863 * z') (show (0 : Int) < 10000000000000000000000000000000000000000000 + 57 by decide)
      have g3 : (((y + 6700417 * z') * (y + 6700417 * z') * (y + 6700417 * z') + 15485863 * z') % (10000000000000000000000000000000000000000000 + 57)).natAbs < 2 ^ 144 := by
        generalize ((y + 6700417 * z') * (y + 6700417 * z') * (y + 6700417 * z') + 15485863 * z') % (10000000000000000000000000000000000000000000 + 57) = t2 at h0 h1 ⊢
        omega
      refine ⟨_, rfl, _, rfl, _, _, rfl, rfl, mulB_of (a := 144) (b := 144) g3 g3 (by decide) (by decide) (by decide), _, _, rfl, rfl, .inl ⟨_, rfl, _, _, rfl, rfl, _, _, rfl, rfl, (by show (0 : Int) < 100000000000000000000000000000000000000 + 133; decide), ?_⟩⟩
      refine ⟨_, rfl, _, _, rfl, rfl, ⟨by decide, by decide⟩, .inl ⟨_, rfl, _, rfl, _, _, rfl, rfl, (by show (0 : Int) < m; omega), ?_⟩⟩
      exact q _ _ (Int.emod_nonneg _ (by omega)) (Int.emod_lt_of_pos _ (by omega)) sx ⟨x, y, z', b, hf1, x0, xb, b1, b2, y0, y1, by omega, by omega⟩
theorem cal_one (D : Df K mg "_law_one" sOne) (B : Bt mg) (C : Cal P w K mg base 1 "_law_draw" spDraw []) : Cal P w K mg base 2 "_law_one" spOne [] := by
  refine D.cal scOne (fun f fd F => F.binds fun _ _ _ _ _ _ us hl => match us, hl with | [_, _], _ => rfl) (fun vs H Q E h => ?_) fun f cdv A outer s H vs Q E hr h => ?_
  · obtain ⟨f, l, N, ns, rfl, _⟩ := h
    rfl
  · obtain ⟨f, l, N, ns, rfl, hf, hN, hl, hlf, n1, n2, q⟩ := h
    refine ⟨_, pss_one (ps_ret (pe_ix ix_list (pv 1) (pe_c C hr (by decide) (by rfl) (pa_cons (pv 0) (pa_cons (pe_callB call_len_seq (by rfl) B.len PySem.boot_len (pa_cons (pv 1) pa_nil)) pa_nil))) (fun _ _ => rfl))), ?_⟩
    refine ⟨_, rfl, _, rfl, _, rfl, l, _, rfl, .inl (SqL.of hl), f, ns.length, N, by rw [List.length_map]; rfl, hf, hN, by omega, by omega, fun v H1 v0 v1 sx hf1 => ?_⟩
    have hv : v.toNat < ns.length := by omega
    have ev : v = ((v.toNat : Nat) : Int) := by omega
    refine ⟨l, _, v, .int ns[v.toNat], rfl, rfl, SqL.of (sx _ _ hlf hl), ?_, q _ _ (List.getElem_mem hv) sx hf1⟩
    have e2 : atI (ns.map V.int) ((v.toNat : Nat) : Int) = some (V.int ns[v.toNat]) := atI_nat (j := v.toNat) (by rw [List.getElem?_map, List.getElem?_eq_getElem hv]; rfl)
    rw [← ev] at e2
    exact e2
end
end K30
set_option Elab.async false
set_option linter.all false
set_option maxRecDepth 100000
set_option maxHeartbeats 4000000
/-! The law's makers: tables, numbers, indexes out of draws. -/
namespace K30
open PySem PySem.Spec PyProof.Rows L2
open C8 (Cal pe_c)
/-! ### comprehensions that draw -/
section
variable {J : It} {n : Nat} {Y : Nat → Hp → V → Hp → Prop} {g : TG} {tt : TT} {te : TE} {vs : List Nat} {σ : L2.St} {H1 : Hp} {D : Addr} {Qd : Hp → Prop}
theorem SameX.upd_new {f D : Addr} {H1 H4 : Hp} {o : HO} (s : SameX f H1 H4) (hD : H1 D = none) : SameX f H1 (upd H4 D o) := fun b z n e => by
  rw [upd_ne (ne_of_none e hD)]
  exact s b z n e
theorem lc_draw (w : Walk J n (fun _ => True) Y) (hn : n ≤ 1000) (hD : H1 D = none) {f : Addr} {N : Nat} (c : Nat) (hf : FeedAt H1 f N) (p : Int → Prop)
    (hs : ∀ i x H H' (R : VK) (R' : Hp → Prop), i < n → SameX f H1 H → FeedAt H f (N + c * i) → Y i H x H' → (∀ v H4, p v → SameX f H H4 → FeedAt H4 f (N + c * i + c) → R (.int v) H4) →
      g x (wipe σ vs) H' fun σ2 H2 => wipe σ2 vs = wipe σ vs ∧ tt σ2 H2 fun b H3 => if b = true then te σ2 H3 R else R' H3)
    (hd : ∀ H (ns : List Int), ns.length = n → (∀ v, v ∈ ns → p v) → SameX f H1 H → FeedAt H f (N + c * n) → H D = some (.lst (ns.map V.int)) → Qd H) : LcGoal J g tt te vs σ H1 D Qd := by
  have fD := hf.ne hD
  refine lc_acc w hn (fun i acc H => ∃ ns : List Int, acc = ns.map V.int ∧ ns.length = i ∧ (∀ v, v ∈ ns → p v) ∧ SameX f H1 H ∧ FeedAt H f (N + c * i)) ⟨[], rfl, rfl, fun v hv => (by cases hv), (SameX.refl f H1).upd_new hD, hf.upd fD⟩
    (fun _ _ _ _ _ => trivial) ?_ fun acc H _ h ⟨ns, b1, b2, b3, b4, b5⟩ => hd H ns b2 b3 b4 b5 (by rw [← b1]; exact h)
  rintro i x acc H H' R R' hi ⟨ns, rfl, hl, hp, sx, hF⟩ hDa hy hR hR'
  refine hs i x H H' R R' hi sx hF hy fun v H4 pv s4 f4 => ?_
  refine hR (.int v) H4 (s4 _ _ (Ne.symm fD) hDa) ⟨ns ++ [v], ?_, ?_, fun z hz => ?_, (sx.trans s4).upd_new hD, (f4.upd fD).mono ?_⟩
  · rw [List.map_append]
    rfl
  · rw [List.length_append, hl]
    rfl
  · rcases List.mem_append.mp hz with e | e
    · exact hp z e
    · rw [List.mem_singleton.mp e]
      exact pv
  · rw [Nat.mul_succ]
    omega
end
theorem pick {α : Type} {n : Nat} {p : Nat → α → Prop} (d : α) (h : ∀ j, j < n → ∃ g, p j g) : ∃ G : Nat → α, ∀ j, j < n → p j (G j) :=
  ⟨fun j => if e : j < n then Classical.choose (h j e) else d, fun j hj => by
    show p j (if e : j < n then Classical.choose (h j e) else d)
    rw [dif_pos hj]
    exact Classical.choose_spec (h j hj)⟩
theorem walk_en {K : PySem.W.Frag} {a : Addr} {n : Nat} {g : Nat → V} : Walk (Ite K a) n (fun H => SqL K H a (vec n g)) (YPair (fun i => some (.int (i : Nat))) (fun i => (vec n g)[i]?)) := by
  have w := walk_enum (K := K) (a := a) (xs := vec n g)
  rw [vec_len] at w
  exact w
abbrev sBuilt : Stmt := topS 46
abbrev sSized : Stmt := topS 47
abbrev sNumbers : Stmt := topS 48
abbrev sAny : Stmt := topS 49
abbrev sSome : Stmt := topS 50
abbrev sMore : Stmt := topS 51
theorem scBuilt : FnScope ["_law_left", "_law_top", "_law_gains", "_law_rows", "_law_at", "_law_first", "_law_row", "_law_to", "_law_more_here", "_law_below", "_law_line"] ["_law_left", "_law_top", "_law_gains"] (defScope sBuilt) := ⟨rfl, rfl, rfl, by decide +kernel, rfl, by decide +kernel, by decide +kernel⟩
theorem scSized : FnScope ["_law_feed_here", "_law_rows", "_law_columns", "_law_size", "_law_steep", "_law_left", "_law_top", "_law_gains", "_law_at", "_law_turn"] ["_law_feed_here", "_law_rows", "_law_columns"] (defScope sSized) := ⟨rfl, rfl, rfl, by decide +kernel, rfl, by decide +kernel, by decide +kernel⟩
theorem scNumbers : FnScope ["_law_feed_here", "_law_rows", "_law_columns", "_law_sizes", "_law_size", "_law_got", "_law_at", "_law_to"] ["_law_feed_here", "_law_rows", "_law_columns", "_law_sizes"] (defScope sNumbers) := ⟨rfl, rfl, rfl, by decide +kernel, rfl, by decide +kernel, by decide +kernel⟩
theorem scAny : FnScope ["_law_feed_here", "_law_rows", "_law_columns"] ["_law_feed_here", "_law_rows", "_law_columns"] (defScope sAny) := ⟨rfl, rfl, rfl, by decide +kernel, rfl, by decide +kernel, by decide +kernel⟩
theorem scSome : FnScope ["_law_feed_here", "_law_many", "_law_some_here", "_law_index"] ["_law_feed_here", "_law_many"] (defScope sSome) := ⟨rfl, rfl, rfl, by decide +kernel, rfl, by decide +kernel, by decide +kernel⟩
theorem scMore : FnScope ["_law_feed_here", "_law_many", "_law_size", "_law_turn"] ["_law_feed_here", "_law_many"] (defScope sMore) := ⟨rfl, rfl, rfl, by decide +kernel, rfl, by decide +kernel, by decide +kernel⟩
/-! ### the promises -/
def spMore : Sp := fun vs H Q _ => ∃ (f : Addr) (n N : Nat), vs = [.ref f, .int n] ∧ FeedAt H f N ∧ N ≤ 50000 ∧ n ≤ 8 ∧ ∀ H' (p : Addr) (u : Nat → Int), SameX f H H' → FeedAt H' f (N + 400) → TupI H' p n u → Q (.ref p) H'
def spSome : Sp := fun vs H Q _ => ∃ (f : Addr) (n N : Nat), vs = [.ref f, .int n] ∧ FeedAt H f N ∧ N ≤ 50000 ∧ Sz n ∧ ∀ H' (p : Addr) (s : Nat) (u : Nat → Int), SameX f H H' → FeedAt H' f (N + 400) → TupI H' p s u → Idx s u n → Q (.ref p) H'
def spNumbers : Sp := fun vs H Q _ => ∃ (f l : Addr) (n m N : Nat) (ns : List Int), vs = [.ref f, .int n, .int m, .ref l] ∧ FeedAt H f N ∧ N ≤ 50000 ∧ Sz n ∧ Sz m ∧ H l = some (.lst (ns.map V.int)) ∧ l ≠ f ∧ 1 ≤ ns.length ∧ ns.length ≤ 1000 ∧ (∀ v, v ∈ ns → 1 ≤ v ∧ v ≤ 10000000000000000000000000000) ∧
  ∀ H' (p : Addr) (G : Nat → Nat → Int), SameX f H H' → FeedAt H' f (N + 400) → TabAt H' p n m G → Q (.ref p) H'
def spSized : Sp := fun vs H Q _ => ∃ (f : Addr) (n m N : Nat), vs = [.ref f, .int n, .int m] ∧ FeedAt H f N ∧ N ≤ 50000 ∧ Sz n ∧ Sz m ∧ ∀ H' (p : Addr) (G : Nat → Nat → Int), SameX f H H' → FeedAt H' f (N + 400) → TabAt H' p n m G → Q (.ref p) H'
def spAny : Sp := fun vs H Q _ => ∃ (f : Addr) (n m N : Nat), vs = [.ref f, .int n, .int m] ∧ FeedAt H f N ∧ N ≤ 40000 ∧ Sz n ∧ Sz m ∧ ∀ H' (p : Addr) (G : Nat → Nat → Int), SameX f H H' → FeedAt H' f (N + 500) → TabAt H' p n m G → Q (.ref p) H'
def spBuilt : Sp := fun vs H Q _ => ∃ (a b c : Addr) (us ts : List Int) (k : Nat) (gr : Nat → Addr), vs = [.ref a, .ref b, .ref c] ∧ H a = some (.lst (us.map V.int)) ∧ H b = some (.lst (ts.map V.int)) ∧ H c = some (.lst (vec k fun i => .ref (gr i))) ∧
  (∀ i, i < k → ∃ ns : List Int, H (gr i) = some (.lst (ns.map V.int))) ∧ us.length ≤ 8 ∧ ts.length ≤ 8 ∧ k ≤ 8 ∧ ∀ H' (p : Addr) (G : Nat → Nat → Int), Same H H' → TabAt H' p us.length (ts.length + 1) G → Q (.ref p) H'
section
variable {P : Program} {w : World} {K : PySem.W.Frag} {mg : Str → Option Value} {base : Heap}
theorem cal_more (D : Df K mg "_law_more" sMore) (B : Bt mg) (C1 : Cal P w K mg base 1 "_law_draw" spDraw []) (C2 : Cal P w K mg base 2 "_law_one" spOne []) : Cal P w K mg base 3 "_law_more" spMore [] := by
  refine D.cal scMore (fun f fd F => F.binds fun _ _ _ _ _ _ us hl => match us, hl with | [_, _], _ => rfl) (fun vs H Q E h => ?_) fun f cdv A outer s H vs Q E hr h => ?_
  · obtain ⟨f, n, N, rfl, _⟩ := h
    rfl
  · obtain ⟨f, n, N, rfl, hf, hN, hn, q⟩ := h
    refine ⟨_, pss_cons (ps_set (i := 2) scMore.nd rfl (.inr rfl) (pe_c C2 hr (by decide) (by rfl) (pa_cons (pv 0) (pa_cons (pe_lst (pa_cons pe_int (pa_cons pe_int (pa_cons (pe_pow (v := 1000000000000000) ⟨by decide, by decide, by decide⟩ (by decide +kernel)) pa_nil)))) pa_nil))))
      (pss_one (ps_ret (pe_callTy (kTup K) (by rfl) B.tup (by decide +kernel) (pa_cons
        (pe_lc (own := [("_law_turn", 3)]) (g := gName 3) (tt := tYes) rfl scMore.nd (pi_range1 (by rfl) B.rng (pa_cons (pv 1) pa_nil)) (blkOk_by (by kernel_rfl))
          (fun _ _ _ _ _ => pg_name (i := 3) scMore.nd rfl (Or.inl rfl)) (fun _ _ _ _ _ => pts_nil)
          (fun _ _ _ _ _ => pe_op op_sub (pe_c C1 hr (by decide) (by rfl) (pa_cons (pv 0) (pa_cons (pe_op op_add (pe_op op_mul pe_int (pv 2)) pe_int) pa_nil))) (pv 2))) pa_nil)))), ?_⟩
    refine ⟨_, rfl, (by show 3 ≤ sizeLine; decide), fun l hl => ⟨f, l, N, [1, 5, 1000000000000000], rfl, hf.upd (hf.ne hl), by omega, upd_same, (hf.ne hl).symm, by decide, by decide, fun z H1 hz s1 f1 => ?_⟩⟩
    have hz' : 1 ≤ z ∧ z ≤ 1000000000000000 := by
      have : z = 1 ∨ z = 5 ∨ z = 1000000000000000 := by simpa using hz
      omega
    have s01 : SameX f H H1 := ((same_upd hl).x (f := f)).trans s1
    refine ⟨_, rfl, _, rfl, by omega, by omega, fun L hL => ?_⟩
    refine lc_draw (wrng (m := n) (by omega)) (by omega) hL 1 f1 (fun _ => True) ?_ fun H2 ns e1 _ s2 f2 e2 => ?_
    · rintro i x H2 H3 R R' hi s2 f2 ⟨rfl, rfl⟩ k
      exact ⟨rfl, _, rfl, _, rfl, _, _, rfl, rfl, .inl ⟨by decide, by decide⟩, _, _, rfl, rfl, f, _, _, rfl, f2, by omega, (by show (1 : Int) ≤ 2 * z + 1; omega), (by show 2 * z + 1 ≤ _; omega), fun v H4 _ _ s4 f4 => ⟨_, rfl, _, _, rfl, rfl, k _ H4 trivial s4 f4⟩⟩
    · refine ⟨L, _, rfl, .inl ⟨SqL.of e2, fun p hp => ?_⟩⟩
      refine q _ p (fun j => ns.getD j 0) ((s01.trans s2).trans ((same_upd hp).x)) ((f2.mono (by omega)).upd (f2.ne hp)) ?_
      rw [ints_vec, e1]
      exact upd_same
theorem pw_len : ∀ (n : Nat) (ns : List Int), (∀ v, v ∈ ns → 0 ≤ v ∧ v < n) → ns.Pairwise (· < ·) → ns.length ≤ n := by
  intro n ns h hp
  have key : ∀ (ns : List Int) (c : Int), (∀ v, v ∈ ns → c ≤ v) → ns.Pairwise (· < ·) → ∀ v, v ∈ ns.getLast? → c + (ns.length : Int) ≤ v + 1 := by
    intro ns
    induction ns with
    | nil => intro c _ _ v hv; cases hv
    | cons x r ih =>
      intro c hc hp v hv
      cases r with
      | nil =>
        have e : x = v := by simpa using hv
        have := hc x List.mem_cons_self
        show c + (1 : Int) ≤ v + 1
        omega
      | cons y r =>
        have hp' := List.pairwise_cons.mp hp
        have := ih (c + 1) (fun z hz => by
          have h1 := hp'.1 z hz
          have h2 := hc x List.mem_cons_self
          omega) hp'.2 v (by rw [List.getLast?_cons_cons] at hv; exact hv)
        rw [List.length_cons]
        omega
  cases hl : ns.getLast? with
  | none =>
    have e : ns = [] := List.getLast?_eq_none_iff.mp hl
    rw [e]
    exact Nat.zero_le _
  | some v =>
    have h1 := key ns 0 (fun v hv => (h v hv).1) hp v (by rw [hl]; rfl)
    have h2 := h v (List.mem_of_getLast? hl)
    omega
theorem idx_of {n : Nat} {ns : List Int} (h0 : 1 ≤ ns.length) (h : ∀ v, v ∈ ns → 0 ≤ v ∧ v < n) (hp : ns.Pairwise (· < ·)) : Idx ns.length (fun j => ns.getD j 0) n := by
  have hl := pw_len n ns h hp
  refine ⟨h0, by omega, fun j hj => ?_, fun j hj => ?_⟩
  · show 0 ≤ ns.getD j 0 ∧ ns.getD j 0 < n
    rw [List.getD_eq_getElem?_getD, List.getElem?_eq_getElem hj]
    exact h _ (List.getElem_mem hj)
  · show ns.getD j 0 < ns.getD (j + 1) 0
    rw [List.getD_eq_getElem?_getD, List.getElem?_eq_getElem (show j < ns.length by omega), List.getD_eq_getElem?_getD, List.getElem?_eq_getElem hj]
    exact List.pairwise_iff_getElem.mp hp j (j + 1) (by omega) hj (Nat.lt_succ_self j)
theorem cal_some (D : Df K mg "_law_some" sSome) (B : Bt mg) (C1 : Cal P w K mg base 1 "_law_draw" spDraw []) : Cal P w K mg base 2 "_law_some" spSome [] := by
  refine D.cal scSome (fun f fd F => F.binds fun _ _ _ _ _ _ us hl => match us, hl with | [_, _], _ => rfl) (fun vs H Q E h => ?_) fun f cdv A outer s H vs Q E hr h => ?_
  · obtain ⟨f, n, N, rfl, _⟩ := h
    rfl
  · obtain ⟨f, n, N, rfl, hf, hN, ⟨n1, n8⟩, q⟩ := h
    refine ⟨_, pss_cons (ps_setLc (i := 2) (own := [("_law_index", 3)]) (g := gName 3) (tt := tTest (tOp rEq (tCall spDraw [] E0 (tCons (tVar 0) (tCons (tC (.int 2)) tNil))) (tC (.int 0)))) rfl scSome.nd rfl rfl (sw_true rfl rfl rfl (by decide +kernel)) (pi_range1 (by rfl) B.rng (pa_cons (pv 1) pa_nil)) (blkOk_by (by kernel_rfl))
          (fun _ _ _ _ _ => pg_name (i := 3) scSome.nd rfl (Or.inl rfl)) (fun _ _ _ _ _ => pts_one (pt_cmpR op_eq (pe_c C1 hr (by decide) (by rfl) (pa_cons (pv 0) (pa_cons pe_int pa_nil))) pe_int (nomark _)))
          (fun _ _ _ _ _ => pv 3))
      (pss_one (ps_ret (pe_callTy (kTup K) (by rfl) B.tup (by decide +kernel) (pa_cons
        (pe_ifExp (pt_cmpR (op_neD hr.units) (pv 2) (pe_lst pa_nil) (nomark _)) (pv 2) (pe_lst (pa_cons (pe_c C1 hr (by decide) (by rfl) (pa_cons (pv 0) (pa_cons (pv 1) pa_nil))) pa_nil))) pa_nil)))), ?_⟩
    refine ⟨_, rfl, _, rfl, by omega, by omega, fun L hL => ?_⟩
    have fL := hf.ne hL
    refine lc_acc (wrng (m := n) (by omega)) (by omega) (fun i acc H2 => ∃ ns : List Int, acc = ns.map V.int ∧ (∀ v, v ∈ ns → 0 ≤ v ∧ v < (i : Int)) ∧ ns.Pairwise (· < ·) ∧ SameX f H H2 ∧ FeedAt H2 f (N + i))
      ⟨[], rfl, fun v hv => (by cases hv), List.Pairwise.nil, (SameX.refl f H).upd_new hL, hf.upd fL⟩ (fun _ _ _ _ _ => trivial) ?_ ?_
    · rintro i x acc H2 H3 R R' hi ⟨ns, rfl, hb, hp, s2, f2⟩ hDa ⟨rfl, rfl⟩ hR hR'
      refine ⟨rfl, _, rfl, f, _, _, rfl, f2, by omega, by decide, by decide, fun v H4 _ _ s4 f4 => ⟨rfl, _, rfl, ?_⟩⟩
      have h4 := s4 _ _ fL.symm hDa
      by_cases hv : V.int v = V.int 0
      · rw [decide_eq_true hv]
        refine iteT ⟨_, rfl, hR _ H4 h4 ⟨ns ++ [(i : Int)], ?_, fun z hz => ?_, ?_, (s2.trans s4).upd_new hL, (f4.upd fL).mono (by omega)⟩⟩
        · rw [List.map_append]
          rfl
        · rcases List.mem_append.mp hz with e | e
          · have := hb z e
            omega
          · rw [List.mem_singleton.mp e]
            omega
        · rw [List.pairwise_append]
          refine ⟨hp, List.pairwise_singleton _ _, fun a ha b hb' => ?_⟩
          rw [List.mem_singleton.mp hb']
          exact (hb a ha).2
      · rw [decide_eq_false hv]
        exact iteF (hR' H4 h4 ⟨ns, rfl, fun z hz => by have := hb z hz; omega, hp, s2.trans s4, f4.mono (by omega)⟩)
    · rintro acc H2 hal h2 ⟨ns, rfl, hb, hp, s2, f2⟩
      rw [List.length_map] at hal
      -- some if some != [] else [draw]
      refine ⟨_, rfl, Nat.zero_le _, fun e he => ?_⟩
      have se := same_upd (o := .lst []) he
      have hL2 := se _ _ h2
      have iv : ns.map V.int = vec ns.length (fun j => .int (ns.getD j 0)) := ints_vec ns
      have hL3 : LstI (upd H2 e (.lst [])) L ns.length (fun j => ns.getD j 0) := by rw [iv] at hL2; exact hL2
      refine ⟨_, PyData.list [], hL3.dp, .lst (SqL.of upd_same) .nil, lrow_shaped _ _, by decide, ?_⟩
      have f3 := f2.upd (o := .lst []) (f2.ne he)
      cases ns with
      | nil =>
        refine ⟨false, rfl, iteF ?_⟩
        refine ⟨_, rfl, _, rfl, f, n, _, rfl, f3, by omega, by omega, by omega, fun v H4 v0 v1 s4 f4 => ⟨(by show 1 ≤ sizeLine; decide), fun d hd => ?_⟩⟩
        refine ⟨d, _, rfl, .inl ⟨SqL.of upd_same, fun p hp2 => ?_⟩⟩
        have f5 := f4.upd (o := .lst [V.int v]) (f4.ne hd)
        refine q _ p 1 (fun _ => v) ((((s2.trans se.x).trans s4).trans (same_upd hd).x).trans (same_upd hp2).x) ((f5.upd (f5.ne hp2)).mono (by omega)) upd_same ⟨by decide, by omega, fun j _ => ⟨v0, v1⟩, fun j hj => by omega⟩
      | cons x r =>
        refine ⟨true, congrArg V.bl ?_, iteT ⟨_, rfl, L, _, rfl, .inl ⟨SqL.of hL2, fun p hp2 => ?_⟩⟩⟩
        · rw [List.length_cons, List.range_succ_eq_map, List.map_cons]
          rfl
        refine q _ p (x :: r).length (fun j => (x :: r).getD j 0) ((s2.trans se.x).trans (same_upd hp2).x) ((f3.upd (f3.ne hp2)).mono (by omega)) ?_ (idx_of (Nat.succ_le_succ (Nat.zero_le _)) hb hp)
        rw [iv]
        exact upd_same
end
end K30
set_option Elab.async false
set_option linter.all false
set_option maxRecDepth 100000
set_option maxHeartbeats 4000000
namespace K30
open PySem PySem.Spec PyProof.Rows L2
open C8 (Cal pe_c)
section
variable {P : Program} {w : World} {K : PySem.W.Frag} {mg : Str → Option Value} {base : Heap}
theorem cal_numbers (D : Df K mg "_law_numbers" sNumbers) (B : Bt mg) (C1 : Cal P w K mg base 1 "_law_draw" spDraw []) (C2 : Cal P w K mg base 2 "_law_one" spOne []) : Cal P w K mg base 3 "_law_numbers" spNumbers [] := by
  refine D.cal scNumbers (fun f fd F => F.binds fun _ _ _ _ _ _ us hl => match us, hl with | [_, _, _, _], _ => rfl) (fun vs H Q E h => ?_) fun f cdv A outer s H vs Q E hr h => ?_
  · obtain ⟨f, l, n, m, N, ns, rfl, _⟩ := h
    rfl
  · obtain ⟨f, l, n, m, N, ns, rfl, hf, hN, ⟨n1, n8⟩, ⟨m1, m8⟩, hl, hlf, l1, l2, hv, q⟩ := h
    refine ⟨_, pss_cons (ps_asg (pe_tup (pa_cons (pe_c C2 hr (by decide) (by rfl) (pa_cons (pv 0) (pa_cons (pv 3) pa_nil))) (pa_cons (pe_lst pa_nil) pa_nil)))
        (pg_tup rfl (pgs_cons (pg_name (i := 4) scNumbers.nd rfl (.inr rfl)) (pgs_cons (pg_name (i := 5) scNumbers.nd rfl (.inl rfl)) pgs_nil))))
      (pss_cons (ps_for PassesOwn.never rfl (pi_range1 (by rfl) B.rng (pa_cons (pv 1) pa_nil)) (pg_name (i := 6) scNumbers.nd rfl (.inl rfl))
        (pss_one (ps_expr (pe_bm PySem.F.plainAttrs_list PySem.F.slot_list_append PySem.F.type_list_append mt_append (pv 5) (pa_cons
          (pe_callTy (kTup K) (by rfl) B.tup (by decide +kernel) (pa_cons
            (pe_lc (own := [("_law_to", 7)]) (g := gName 7) (tt := tYes) rfl scNumbers.nd (pi_range1 (by rfl) B.rng (pa_cons (pv 2) pa_nil)) (blkOk_by (by kernel_rfl))
              (fun _ _ _ _ _ => pg_name (i := 7) scNumbers.nd rfl (Or.inl rfl)) (fun _ _ _ _ _ => pts_nil)
              (fun _ _ _ _ _ => pe_op op_mul (pe_op op_sub pe_int (pe_op op_mul pe_int (pe_c C1 hr (by decide) (by rfl) (pa_cons (pv 0) (pa_cons pe_int pa_nil)))))
                (pe_c C1 hr (by decide) (by rfl) (pa_cons (pv 0) (pa_cons (pe_op op_add (pv 4) pe_int) pa_nil))))) pa_nil)) pa_nil)))))
      (pss_one (ps_ret (pe_callTy (kTup K) (by rfl) B.tup (by decide +kernel) (pa_cons (pv 5) pa_nil))))), ?_⟩
    refine ⟨_, rfl, _, rfl, f, l, N, ns, rfl, hf, by omega, hl, hlf, l1, l2, fun z H1 hz s1 f1 => ⟨Nat.zero_le _, fun o ho => ⟨(by show 2 ≤ sizeLine; decide), fun p hp => ⟨p, _, rfl, SqT.of upd_same, rfl, _, _, rfl, _, _, rfl, rfl, ?_⟩⟩⟩⟩
    have hzz := hv z hz
    have fo := f1.ne ho
    have s2 : SameX f H (upd (upd H1 o (.lst [])) p (.tup [V.int z, V.ref o])) := (s1.trans (same_upd ho).x).trans (same_upd hp).x
    have ho2 := (same_upd (o := .tup [V.int z, V.ref o]) hp) _ _ (upd_same (H := H1) (a := o) (o := .lst []))
    have f2 := (f1.upd (o := .lst []) fo)
    have f2 := f2.upd (o := .tup [V.int z, V.ref o]) (f2.ne hp)
    generalize upd (upd H1 o (.lst [])) p (.tup [V.int z, V.ref o]) = H2 at s2 ho2 f2 ⊢
    refine ⟨_, rfl, _, rfl, by omega, by omega, ?_⟩
    refine for_it (wrng (m := n) (by omega)) (fun i σ H3 => ∃ (y6 : Option V) (rs : Nat → Addr), σ = [some (.ref f), some (.int n), some (.int m), some (.ref l), some (.int z), some (.ref o), y6, none] ∧ SameX f H H3 ∧ FeedAt H3 f (N + 1 + 16 * i) ∧ H3 o = some (.lst (vec i fun j => .ref (rs j))) ∧ ∀ j, j < i → ∃ g, TupI H3 (rs j) m g)
      ⟨none, fun _ => 0, rfl, s2, f2, ho2, fun j hj => absurd hj (Nat.not_lt_zero j)⟩ (fun _ _ _ _ _ => trivial) ?_ ?_
    · rintro i x σ H3 H4 hi ⟨y6, rs, rfl, s3, f3, h3, hrs⟩ ⟨rfl, rfl⟩
      refine ⟨_, rfl, .inl ⟨rfl, _, SqL.of h3⟩, _, rfl, _, rfl, by omega, by omega, fun L hL => ?_⟩
      refine lc_draw (wrng (m := m) (by omega)) (by omega) hL 2 f3 (fun _ => True) ?_ fun H4 ms e1 _ s4 f4 e4 => ?_
      · rintro j x H4 H5 R R' hj s4 f4 ⟨rfl, rfl⟩ k
        refine ⟨rfl, _, rfl, f, _, _, rfl, f4, by omega, by decide, by decide, fun v1 H5 a1 a2 s5 f5 => ⟨_, _, rfl, rfl, .inl ⟨by decide, by decide⟩, _, _, rfl, rfl, _, rfl, _, rfl, _, _, rfl, rfl, f, _, _, rfl, f5, by omega, (by show (1 : Int) ≤ z + 1; omega), (by show z + 1 ≤ _; omega), fun v2 H6 _ _ s6 f6 => ⟨_, _, rfl, rfl, .inl ⟨by omega, by omega⟩, k _ H6 trivial (s5.trans s6) (f6.mono (by omega))⟩⟩⟩
      · refine ⟨L, _, rfl, .inl ⟨SqL.of e4, fun t ht => ?_⟩⟩
        have st := same_upd (o := .tup (ms.map V.int)) ht
        have ho4 := st _ _ (s4 _ _ fo.symm h3)
        have f5 := f4.upd (o := .tup (ms.map V.int)) (f4.ne ht)
        refine ⟨o, _, _, rfl, rfl, ho4, small1000 (by rw [vec_len]; omega), _, fun j => if j = i then t else rs j, rfl, fun b y nb e => ?_, (f5.upd fo).mono (by omega), ?_, fun j hj => ?_⟩
        · by_cases hb : b = o
          · subst hb
            exact absurd (s1 _ _ nb e) (by rw [ho]; intro z; cases z)
          · rw [upd_ne hb]
            exact st _ _ (s4 _ _ nb (s3 _ _ nb e))
        · rw [upd_same, vec_succ]
          have e1 : vec i (fun j => V.ref (rs j)) = vec i (fun j => V.ref (if j = i then t else rs j)) := vec_congr fun j hj => by rw [if_neg (by omega)]
          rw [e1]
          show _ = some (HO.lst (_ ++ [V.ref (if i = i then t else rs i)]))
          rw [if_pos rfl]
        · show ∃ g, TupI _ (if j = i then t else rs j) m g
          by_cases hji : j = i
          · subst hji
            rw [if_pos rfl]
            refine ⟨fun j => ms.getD j 0, TupI.kt (?_ : TupI _ t m _) (kt_lst ho4)⟩
            have e5 : vec m (fun j => V.int (ms.getD j 0)) = ms.map V.int := by rw [ints_vec, e1]
            show _ = some (HO.tup (vec m fun j => V.int (ms.getD j 0)))
            rw [e5]
            exact upd_same
          · rw [if_neg hji]
            obtain ⟨g, hg⟩ := hrs j (by omega)
            exact ⟨g, ((hg.kt (f3.kt s4)).kt st.kt).kt (kt_lst ho4)⟩
    · rintro σ H3 ⟨y6, rs, rfl, s3, f3, h3, hrs⟩
      obtain ⟨G, hG⟩ := pick (fun _ => 0) hrs
      exact ⟨_, rfl, o, _, rfl, .inl ⟨SqL.of h3, fun t ht => q _ t G (s3.trans (same_upd ht).x) ((f3.upd (f3.ne ht)).mono (by omega)) ⟨rs, upd_same, fun i hi => (hG i hi).kt (kt_new ht)⟩⟩⟩
theorem cal_any (D : Df K mg "_law_any" sAny) (C1 : Cal P w K mg base 1 "_law_draw" spDraw []) (C2 : Cal P w K mg base 3 "_law_sized" spSized []) (C3 : Cal P w K mg base 3 "_law_numbers" spNumbers []) : Cal P w K mg base 4 "_law_any" spAny [] := by
  refine D.cal scAny (fun f fd F => F.binds fun _ _ _ _ _ _ us hl => match us, hl with | [_, _, _], _ => rfl) (fun vs H Q E h => ?_) fun f cdv A outer s H vs Q E hr h => ?_
  · obtain ⟨f, n, m, N, rfl, _⟩ := h
    rfl
  · obtain ⟨f, n, m, N, rfl, hf, hN, hn, hm, q⟩ := h
    refine ⟨_, pss_cons (ps_if (pt_cmpR op_eq (pe_c C1 hr (by decide) (by rfl) (pa_cons (pv 0) (pa_cons pe_int pa_nil))) pe_int (nomark _))
        (pss_one (ps_ret (pe_c C2 hr (by decide) (by rfl) (pa_cons (pv 0) (pa_cons (pv 1) (pa_cons (pv 2) pa_nil)))))) pss_nil)
      (pss_one (ps_ret (pe_c C3 hr (by decide) (by rfl) (pa_cons (pv 0) (pa_cons (pv 1) (pa_cons (pv 2) (pa_cons (pe_lst (pa_cons pe_int (pa_cons pe_int (pa_cons pe_int (pa_cons pe_int
        (pa_cons (pe_pow (v := 1000000000000) ⟨by decide, by decide, by decide⟩ (by decide +kernel)) (pa_cons (pe_pow (v := 10000000000000000000000000000) ⟨by decide, by decide, by decide⟩ (by decide +kernel)) pa_nil))))))) pa_nil))))))), ?_⟩
    refine ⟨_, rfl, f, _, N, rfl, hf, by omega, by decide, by decide, fun v H1 _ _ s1 f1 => ⟨rfl, _, rfl, ite2 (fun _ => ?_) fun _ => ?_⟩⟩
    · exact ⟨_, rfl, _, rfl, _, rfl, f, n, m, N + 1, rfl, f1, by omega, hn, hm, fun H2 p G s2 f2 tp => q H2 p G (s1.trans s2) (f2.mono (by omega)) tp⟩
    · refine ⟨_, rfl, _, rfl, _, rfl, (by show 6 ≤ sizeLine; decide), fun l hl => ?_⟩
      refine ⟨f, l, n, m, N + 1, [1, 2, 4, 100, 1000000000000, 10000000000000000000000000000], rfl, f1.upd (f1.ne hl), by omega, hn, hm, upd_same, (f1.ne hl).symm, by decide, by decide, fun v hv => ?_, fun H2 p G s2 f2 tp => q H2 p G ((s1.trans (same_upd hl).x).trans s2) (f2.mono (by omega)) tp⟩
      have : v = 1 ∨ v = 2 ∨ v = 4 ∨ v = 100 ∨ v = 1000000000000 ∨ v = 10000000000000000000000000000 := by simpa using hv
      omega
end
end K30
set_option Elab.async false
set_option linter.all false
set_option maxRecDepth 100000
set_option maxHeartbeats 4000000
namespace K30
open PySem PySem.Spec PyProof.Rows L2
open C8 (Cal pe_c)
section
variable {P : Program} {w : World} {K : PySem.W.Frag} {mg : Str → Option Value} {base : Heap}
/-- a list of lists of ints of a loop that draws: the new one behind the others -/
theorem cal_sized (D : Df K mg "_law_sized" sSized) (B : Bt mg) (C1 : Cal P w K mg base 1 "_law_draw" spDraw []) (C2 : Cal P w K mg base 2 "_law_one" spOne []) (C3 : Cal P w K mg base 1 "_law_built" spBuilt []) : Cal P w K mg base 3 "_law_sized" spSized [] := by
  refine D.cal scSized (fun f fd F => F.binds fun _ _ _ _ _ _ us hl => match us, hl with | [_, _, _], _ => rfl) (fun vs H Q E h => ?_) fun f cdv A outer s H vs Q E hr h => ?_
  · obtain ⟨f, n, m, N, rfl, _⟩ := h
    rfl
  · obtain ⟨f, n, m, N, rfl, hf, hN, ⟨n1, n8⟩, ⟨m1, m8⟩, q⟩ := h
    refine ⟨_, pss_cons (ps_asg (pe_tup (pa_cons (pe_c C2 hr (by decide) (by rfl) (pa_cons (pv 0) (pa_cons (pe_lst (pa_cons pe_int (pa_cons pe_int (pa_cons pe_int (pa_cons (pe_pow (v := 1000000) ⟨by decide, by decide, by decide⟩ (by decide +kernel)) (pa_cons (pe_pow (v := 1000000000000000) ⟨by decide, by decide, by decide⟩ (by decide +kernel)) pa_nil)))))) pa_nil)))
          (pa_cons (pe_c C2 hr (by decide) (by rfl) (pa_cons (pv 0) (pa_cons (pe_lst (pa_cons pe_int (pa_cons pe_int (pa_cons pe_int (pa_cons pe_int (pa_cons (pe_pow (v := 1000000000) ⟨by decide, by decide, by decide⟩ (by decide +kernel)) pa_nil)))))) pa_nil))) pa_nil)))
        (pg_tup rfl (pgs_cons (pg_name (i := 3) scSized.nd rfl (.inr rfl)) (pgs_cons (pg_name (i := 4) scSized.nd rfl (.inr rfl)) pgs_nil))))
      (pss_cons (ps_setLc (i := 5) (own := [("_law_turn", 9)]) (g := gName 9) (tt := tYes) rfl scSized.nd rfl rfl (sw_true rfl rfl rfl (by decide +kernel)) (pi_range1 (by rfl) B.rng (pa_cons (pv 1) pa_nil)) (blkOk_by (by kernel_rfl))
          (fun _ _ _ _ _ => pg_name (i := 9) scSized.nd rfl (Or.inl rfl)) (fun _ _ _ _ _ => pts_nil)
          (fun _ _ _ _ _ => pe_op op_sub (pe_c C1 hr (by decide) (by rfl) (pa_cons (pv 0) (pa_cons (pe_op op_add (pe_op op_mul pe_int (pv 3)) pe_int) pa_nil))) (pv 3)))
      (pss_cons (ps_setLc (i := 6) (own := [("_law_turn", 9)]) (g := gName 9) (tt := tYes) rfl scSized.nd rfl rfl (sw_true rfl rfl rfl (by decide +kernel)) (pi_range1 (by rfl) B.rng (pa_cons (pe_op op_sub (pv 2) pe_int) pa_nil)) (blkOk_by (by kernel_rfl))
          (fun _ _ _ _ _ => pg_name (i := 9) scSized.nd rfl (Or.inl rfl)) (fun _ _ _ _ _ => pts_nil)
          (fun _ _ _ _ _ => pe_op op_sub (pe_c C1 hr (by decide) (by rfl) (pa_cons (pv 0) (pa_cons (pe_op op_add (pe_op op_mul pe_int (pv 3)) pe_int) pa_nil))) (pv 3)))
      (pss_cons (ps_set (i := 7) scSized.nd rfl (.inl rfl) (pe_lst pa_nil))
      (pss_cons (ps_for PassesOwn.never rfl (pi_range1 (by rfl) B.rng (pa_cons (pe_op op_sub (pv 1) pe_int) pa_nil)) (pg_name (i := 8) scSized.nd rfl (.inl rfl))
        (pss_one (ps_expr (pe_bm PySem.F.plainAttrs_list PySem.F.slot_list_append PySem.F.type_list_append mt_append (pv 7) (pa_cons
            (pe_lc (own := [("_law_turn", 9)]) (g := gName 9) (tt := tYes) rfl scSized.nd (pi_range1 (by rfl) B.rng (pa_cons (pe_op op_sub (pv 2) pe_int) pa_nil)) (blkOk_by (by kernel_rfl))
              (fun _ _ _ _ _ => pg_name (i := 9) scSized.nd rfl (Or.inl rfl)) (fun _ _ _ _ _ => pts_nil)
              (fun _ _ _ _ _ => pe_ifExp (pt_cmpR op_gt (pe_c C1 hr (by decide) (by rfl) (pa_cons (pv 0) (pa_cons pe_int pa_nil))) pe_int (nomark _))
                (pe_c C1 hr (by decide) (by rfl) (pa_cons (pv 0) (pa_cons (pe_op op_add (pv 4) pe_int) pa_nil))) pe_int)) pa_nil)))))
      (pss_one (ps_ret (pe_c C3 hr (by decide) (by rfl) (pa_cons (pv 5) (pa_cons (pv 6) (pa_cons (pv 7) pa_nil)))))))))), ?_⟩
    -- size, steep
    refine ⟨_, rfl, (by show 5 ≤ sizeLine; decide), fun l hl => ⟨f, l, N, [3, 3, 10, 1000000, 1000000000000000], rfl, hf.upd (hf.ne hl), by omega, upd_same, (hf.ne hl).symm, by decide, by decide, fun z H1 hz s1 f1 => ?_⟩⟩
    have hz' : 1 ≤ z ∧ z ≤ 1000000000000000 := by
      have : z = 3 ∨ z = 3 ∨ z = 10 ∨ z = 1000000 ∨ z = 1000000000000000 := by simpa using hz
      omega
    refine ⟨_, rfl, (by show 5 ≤ sizeLine; decide), fun l2 hl2 => ⟨f, l2, N + 1, [1, 2, 3, 8, 1000000000], rfl, f1.upd (f1.ne hl2), by omega, upd_same, (f1.ne hl2).symm, by decide, by decide, fun y H2 hy s2 f2 => ?_⟩⟩
    have hy' : 1 ≤ y ∧ y ≤ 1000000000 := by
      have : y = 1 ∨ y = 2 ∨ y = 3 ∨ y = 8 ∨ y = 1000000000 := by simpa using hy
      omega
    refine ⟨(by show 2 ≤ sizeLine; decide), fun p hp => ⟨p, _, rfl, SqT.of upd_same, rfl, _, _, rfl, _, _, rfl, rfl, ?_⟩⟩
    have s3 : SameX f H (upd H2 p (.tup [V.int z, V.int y])) := ((((same_upd hl).x (f := f)).trans s1).trans (((same_upd hl2).x (f := f)).trans s2)).trans (same_upd hp).x
    have f3 := f2.upd (o := .tup [V.int z, V.int y]) (f2.ne hp)
    generalize upd H2 p (.tup [V.int z, V.int y]) = H3 at s3 f3 ⊢
    -- left
    refine ⟨_, rfl, _, rfl, by omega, by omega, fun L hL => ?_⟩
    refine lc_draw (wrng (m := n) (by omega)) (by omega) hL 1 f3 (fun _ => True) ?_ fun H4 us eu _ s4 f4 e4 => ?_
    · rintro i x H5 H6 R R' hi s5 f5 ⟨rfl, rfl⟩ k
      exact ⟨rfl, _, rfl, _, rfl, _, _, rfl, rfl, .inl ⟨by decide, by decide⟩, _, _, rfl, rfl, f, _, _, rfl, f5, by omega, (by show (1 : Int) ≤ 2 * z + 1; omega), (by show 2 * z + 1 ≤ _; omega), fun v H7 _ _ s7 f7 => ⟨_, rfl, _, _, rfl, rfl, k _ H7 trivial s7 f7⟩⟩
    -- top
    refine ⟨_, rfl, _, _, rfl, rfl, _, rfl, by omega, by omega, fun T hT => ?_⟩
    refine lc_draw (wrng (m := m - 1) (by omega)) (by omega) hT 1 f4 (fun _ => True) ?_ fun H5 ts et _ s5 f5 e5 => ?_
    · rintro i x H5 H6 R R' hi s5 f5 ⟨rfl, rfl⟩ k
      exact ⟨rfl, _, rfl, _, rfl, _, _, rfl, rfl, .inl ⟨by decide, by decide⟩, _, _, rfl, rfl, f, _, _, rfl, f5, by omega, (by show (1 : Int) ≤ 2 * z + 1; omega), (by show 2 * z + 1 ≤ _; omega), fun v H7 _ _ s7 f7 => ⟨_, rfl, _, _, rfl, rfl, k _ H7 trivial s7 f7⟩⟩
    have fL : f ≠ L := f3.ne hL
    have fT : f ≠ T := f4.ne hT
    -- gains = []
    refine ⟨Nat.zero_le _, fun o ho => ?_⟩
    have fo := f5.ne ho
    have s6 : SameX f H5 (upd H5 o (.lst [])) := (same_upd ho).x
    have eL := s6 _ _ fL.symm (s5 _ _ fL.symm e4)
    have eT := s6 _ _ fT.symm e5
    have f6 := f5.upd (o := .lst []) fo
    have Lo : L ≠ o := ne_of_none (s5 _ _ fL.symm e4) ho
    have To : T ≠ o := ne_of_none e5 ho
    have s06 : SameX f H (upd H5 o (.lst [])) := ((s3.trans s4).trans s5).trans s6
    have hoH : H o = none := by
      cases e : H o with
      | none => rfl
      | some u =>
        have := s5 _ _ fo.symm (s4 _ _ fo.symm (s3 _ _ fo.symm e))
        rw [ho] at this
        cases this
    have eo : (upd H5 o (.lst [])) o = some (.lst []) := upd_same
    generalize upd H5 o (.lst []) = H6 at s06 eL eT f6 eo ⊢
    refine ⟨_, rfl, _, _, rfl, rfl, _, rfl, by omega, by omega, ?_⟩
    refine for_it (wrng (m := n - 1) (by omega)) (fun i σ H7 => ∃ (y8 : Option V) (gr : Nat → Addr), σ = [some (.ref f), some (.int n), some (.int m), some (.int z), some (.int y), some (.ref L), some (.ref T), some (.ref o), y8, none] ∧ SameX f H H7 ∧ FeedAt H7 f (N + 20 + 14 * i) ∧
        H7 L = some (.lst (us.map V.int)) ∧ H7 T = some (.lst (ts.map V.int)) ∧ H7 o = some (.lst (vec i fun j => .ref (gr j))) ∧ ∀ j, j < i → gr j ≠ f ∧ gr j ≠ o ∧ ∃ ns : List Int, H7 (gr j) = some (.lst (ns.map V.int)))
      ⟨none, fun _ => 0, rfl, s06, f6.mono (by omega), eL, eT, eo, fun j hj => absurd hj (Nat.not_lt_zero j)⟩ (fun _ _ _ _ _ => trivial) ?_ ?_
    · rintro i x σ H7 H8 hi ⟨y8, gr, rfl, s7, f7, e7L, e7T, e7o, hgr⟩ ⟨rfl, rfl⟩
      refine ⟨_, rfl, .inl ⟨rfl, _, SqL.of e7o⟩, _, rfl, _, _, rfl, rfl, _, rfl, by omega, by omega, fun G hG => ?_⟩
      refine lc_draw (wrng (m := m - 1) (by omega)) (by omega) hG 2 f7 (fun _ => True) ?_ fun H8 ms _ _ s8 f8 e8 => ?_
      · rintro j x H9 H10 R R' hj s9 f9 ⟨rfl, rfl⟩ k
        refine ⟨rfl, _, rfl, f, _, _, rfl, f9, by omega, by decide, by decide, fun v1 H10 _ _ s10 f10 => ⟨_, _, rfl, rfl, _, rfl, ite2 (fun _ => ?_) fun _ => ?_⟩⟩
        · exact ⟨_, rfl, _, rfl, _, _, rfl, rfl, f, _, _, rfl, f10, by omega, (by show (1 : Int) ≤ y + 1; omega), (by show y + 1 ≤ _; omega), fun v2 H11 _ _ s11 f11 => k _ H11 trivial (s10.trans s11) (f11.mono (by omega))⟩
        · exact k _ H10 trivial s10 (f10.mono (by omega))
      · have e8o := s8 _ _ fo.symm e7o
        have Go : G ≠ o := by
          intro e
          rw [e] at hG
          rw [hG] at e7o
          cases e7o
        have fG : f ≠ G := f7.ne hG
        refine ⟨o, _, _, rfl, rfl, e8o, small1000 (by rw [vec_len]; omega), _, fun j => if j = i then G else gr j, rfl, fun b z nb e => ?_, (f8.upd fo).mono (by omega), ?_, ?_, ?_, fun j hj => ?_⟩
        · rw [upd_ne (ne_of_none e hoH)]
          exact s8 _ _ nb (s7 _ _ nb e)
        · rw [upd_ne Lo]
          exact s8 _ _ fL.symm e7L
        · rw [upd_ne To]
          exact s8 _ _ fT.symm e7T
        · rw [upd_same, vec_succ]
          have e1 : vec i (fun j => V.ref (gr j)) = vec i (fun j => V.ref (if j = i then G else gr j)) := vec_congr fun j hj => by rw [if_neg (by omega)]
          rw [e1]
          show _ = some (HO.lst (_ ++ [V.ref (if i = i then G else gr i)]))
          rw [if_pos rfl]
        · show (if j = i then G else gr j) ≠ f ∧ (if j = i then G else gr j) ≠ o ∧ ∃ ns : List Int, upd H8 o _ (if j = i then G else gr j) = _
          by_cases hji : j = i
          · rw [if_pos hji]
            refine ⟨fG.symm, Go, ms, ?_⟩
            rw [upd_ne Go]
            exact e8
          · rw [if_neg hji]
            obtain ⟨g1, g2, ns, hns⟩ := hgr j (by omega)
            refine ⟨g1, g2, ns, ?_⟩
            rw [upd_ne g2]
            exact s8 _ _ g1 hns
    · rintro σ H7 ⟨y8, gr, rfl, s7, f7, e7L, e7T, e7o, hgr⟩
      refine ⟨_, rfl, _, rfl, _, rfl, L, T, o, us, ts, n - 1, gr, rfl, e7L, e7T, e7o, fun i hi => (hgr i hi).2.2, by omega, by omega, by omega, fun H8 p G s8 tp => ?_⟩
      have e1 : ts.length + 1 = m := by omega
      rw [eu, e1] at tp
      exact q H8 p G (s7.trans s8.x) ((f7.same s8).mono (by omega)) tp
end
end K30
set_option Elab.async false
set_option linter.all false
set_option maxRecDepth 100000
set_option maxHeartbeats 4000000
namespace K30
open PySem PySem.Spec PyProof.Rows L2
open C8 (Cal pe_c)
section
variable {P : Program} {w : World} {K : PySem.W.Frag} {mg : Str → Option Value} {base : Heap}
theorem take_refs {k : Nat} (gr : Nat → Addr) (i : Nat) : (vec k fun j => V.ref (gr j)).take i = vec (min i k) fun j => V.ref (gr j) := by
  unfold vec
  rw [← List.map_take, List.take_range]
theorem cal_built (D : Df K mg "_law_built" sBuilt) (B : Bt mg) : Cal P w K mg base 1 "_law_built" spBuilt [] := by
  refine D.cal scBuilt (fun f fd F => F.binds fun _ _ _ _ _ _ us hl => match us, hl with | [_, _, _], _ => rfl) (fun vs H Q E h => ?_) fun f cdv A outer s H vs Q E hr h => ?_
  · obtain ⟨a, b, c, us, ts, k, gr, rfl, _⟩ := h
    rfl
  · obtain ⟨a, b, c, us, ts, k, gr, rfl, ha, hb, hc, hgr, hu8, ht8, hk8, q⟩ := h
    refine ⟨_, pss_cons (ps_set (i := 3) scBuilt.nd rfl (.inl rfl) (pe_lst pa_nil))
      (pss_cons (ps_for PassesOwn.never rfl (pi_enum (by rfl) B.enm (pa_cons (pv 0) pa_nil))
          (pg_tup rfl (pgs_cons (pg_name (i := 4) scBuilt.nd rfl (.inl rfl)) (pgs_cons (pg_name (i := 5) scBuilt.nd rfl (.inl rfl)) pgs_nil)))
        (pss_cons (ps_set (i := 6) scBuilt.nd rfl (.inl rfl) (pe_lst (pa_cons (pv 5) pa_nil)))
        (pss_cons (ps_for PassesOwn.never rfl (pi_enum (by rfl) B.enm (pa_cons (pv 1) pa_nil))
            (pg_tup rfl (pgs_cons (pg_name (i := 7) scBuilt.nd rfl (.inr rfl)) (pgs_cons (pg_name (i := 8) scBuilt.nd rfl (.inl rfl)) pgs_nil)))
          (pss_cons (ps_set (i := 9) scBuilt.nd rfl (.inl rfl) (pe_callB (cr_sum rfl) (by rfl) B.sum (by decide +kernel) (pa_cons
            (pe_lc (own := [("_law_line", 10)]) (g := gName 10) (tt := tYes) rfl scBuilt.nd (pi_list (pe_slice sl_list (pv 2) po_none (po_some (pv 4)))) (blkOk_by (by kernel_rfl))
              (fun _ _ _ _ _ => pg_name (i := 10) scBuilt.nd rfl (Or.inl rfl)) (fun _ _ _ _ _ => pts_nil)
              (fun _ _ _ _ _ => pe_callB (kSum K rfl) (by rfl) B.sum (by decide +kernel) (pa_cons (pe_slice (kSlL K) (pv 10) po_none (po_some (pe_op op_add (pv 7) pe_int))) pa_nil))) pa_nil)))
          (pss_one (ps_expr (pe_bm PySem.F.plainAttrs_list PySem.F.slot_list_append PySem.F.type_list_append mt_append (pv 6) (pa_cons (pe_op op_sub (pe_op op_add (pv 5) (pv 8)) (pv 9)) pa_nil))))))
        (pss_one (ps_expr (pe_bm PySem.F.plainAttrs_list PySem.F.slot_list_append PySem.F.type_list_append mt_append (pv 3) (pa_cons
          (pe_callTy (kTup K) (by rfl) B.tup (by decide +kernel) (pa_cons (pv 6) pa_nil)) pa_nil)))))))
      (pss_one (ps_ret (pe_callTy (kTup K) (by rfl) B.tup (by decide +kernel) (pa_cons (pv 3) pa_nil))))), ?_⟩
    rw [ints_vec] at ha hb
    refine ⟨Nat.zero_le _, fun o ho => ?_⟩
    have s0 : Same H (upd H o (.lst [])) := same_upd ho
    refine ⟨_, rfl, a, _, rfl, SqL.of (s0 _ _ ha), ?_⟩
    refine for_it walk_en (fun i σ H1 => ∃ (y4 y5 y6 y7 y8 y9 : Option V) (rs : Nat → Addr), σ = [some (.ref a), some (.ref b), some (.ref c), some (.ref o), y4, y5, y6, y7, y8, y9, none] ∧ Same H H1 ∧ H1 o = some (.lst (vec i fun j => .ref (rs j))) ∧ ∀ j, j < i → ∃ g, TupI H1 (rs j) (ts.length + 1) g)
      ⟨none, none, none, none, none, none, fun _ => 0, rfl, s0, upd_same, fun j hj => absurd hj (Nat.not_lt_zero j)⟩ (fun i σ H1 _ ⟨_, _, _, _, _, _, _, _, s1, _⟩ => SqL.of (s1 _ _ ha)) ?_ ?_
    · rintro i z σ H1 H2 hi ⟨y4, y5, y6, y7, y8, y9, rs, rfl, s1, h1, hrs⟩ ⟨T, x, y, rfl, hT, rfl, hx, hy⟩
      have ex : V.int (i : Nat) = x := Option.some.inj hx
      subst ex
      obtain ⟨_, rfl⟩ := vec_at hy
      generalize us.getD i 0 = u0
      have sT := same_upd (o := .tup [V.int (i : Nat), V.int u0]) hT
      refine ⟨T, _, rfl, SqT.of upd_same, rfl, _, _, rfl, _, _, rfl, rfl, ?_⟩
      -- row = [first]
      refine ⟨_, rfl, (by show 1 ≤ sizeLine; decide), fun r hr => ?_⟩
      have sr := same_upd (o := .lst [V.int u0]) hr
      have s2 : Same H1 (upd (upd H1 T (.tup [V.int (i : Nat), V.int u0])) r (.lst [V.int u0])) := sT.trans sr
      have er : (upd (upd H1 T (.tup [V.int (i : Nat), V.int u0])) r (.lst [V.int u0])) r = some (.lst [V.int u0]) := upd_same
      have rH1 : H1 r = none := sT.free hr
      generalize upd (upd H1 T (.tup [V.int (i : Nat), V.int u0])) r (.lst [V.int u0]) = H2 at s2 er ⊢
      have rH : H r = none := s1.free rH1
      refine ⟨_, rfl, b, _, rfl, SqL.of (s2 _ _ (s1 _ _ hb)), ?_⟩
      refine for_it walk_en (fun j σ H3 => ∃ (y7 y8 y9 : Option V) (ns : List Int), σ = [some (.ref a), some (.ref b), some (.ref c), some (.ref o), some (.int (i : Nat)), some (.int u0), some (.ref r), y7, y8, y9, none] ∧ Same H1 H3 ∧ ns.length = j + 1 ∧ H3 r = some (.lst (ns.map V.int)))
        ⟨_, _, _, [u0], rfl, s2, rfl, er⟩ (fun j σ H3 _ ⟨_, _, _, _, _, s3, _⟩ => SqL.of (s3 _ _ (s1 _ _ hb))) ?_ ?_
      · rintro j z σ H3 H4 hj ⟨y7, y8, y9, ns, rfl, s3, hl, h3⟩ ⟨T2, x, y, rfl, hT2, rfl, hx, hy⟩
        have ex : V.int (j : Nat) = x := Option.some.inj hx
        subst ex
        obtain ⟨_, rfl⟩ := vec_at hy
        generalize ts.getD j 0 = t0
        have sT2 := same_upd (o := .tup [V.int (j : Nat), V.int t0]) hT2
        refine ⟨T2, _, rfl, SqT.of upd_same, rfl, _, _, rfl, _, _, rfl, rfl, ?_⟩
        have s4 := s3.trans sT2
        have h4 := sT2 _ _ h3
        generalize upd H3 T2 (.tup [V.int (j : Nat), V.int t0]) = H4 at s4 h4 ⊢
        -- below
        have s14 := s1.trans s4
        refine ⟨_, rfl, _, rfl, _, rfl, c, _, rfl, SqL.of (s14 _ _ hc), fun S hS => ⟨S, rfl, ⟨_, SqL.of upd_same⟩, fun L hL => ?_⟩⟩
        rw [cutTo, take_refs] at hL ⊢
        have sS := same_upd (o := .lst (vec (min i k) fun j => V.ref (gr j))) hS
        have eS : (upd H4 S (.lst (vec (min i k) fun j => V.ref (gr j)))) S = some (.lst (vec (min i k) fun j => V.ref (gr j))) := upd_same
        have s15 := s14.trans sS
        have h5 := sS _ _ h4
        have s45 := s4.trans sS
        generalize upd H4 S (.lst (vec (min i k) fun j => V.ref (gr j))) = H5 at hL s15 h5 eS s45 ⊢
        refine lc_acc wlst (by omega) (fun e acc H6 => ∃ ms : List Int, acc = ms.map V.int ∧ Same H5 H6) ⟨[], rfl, same_upd hL⟩ (fun e acc H6 _ ⟨_, _, s6⟩ => SqL.of (s6 _ _ eS)) ?_ ?_
        · rintro e x acc H6 H7 R R' he ⟨ms, rfl, s6⟩ hDa ⟨rfl, hx⟩ hR _
          obtain ⟨_, rfl⟩ := vec_at hx
          obtain ⟨ls, hls⟩ := hgr e (by omega)
          have e6 := s6 _ _ (s15 _ _ hls)
          refine ⟨rfl, _, rfl, _, rfl, _, _, rfl, rfl, _, rfl, gr e, _, rfl, SqL.of e6, fun p hp => ?_⟩
          have sp := same_upd (o := .lst (cutV (ls.map V.int) none (some ((j : Int) + 1)))) hp
          have e2 : cutV (ls.map V.int) none (some ((j : Int) + 1)) = (ls.take (j + 1)).map V.int := by
            rw [show ((j : Int) + 1) = ((j + 1 : Nat) : Int) from rfl, cutTo, List.map_take]
          refine ⟨p, ls.take (j + 1), rfl, SqL.of (by rw [upd_same, e2]), hR _ _ (sp _ _ hDa) ⟨ms ++ [(ls.take (j + 1)).sum], ?_, fun b' o' eb => ?_⟩⟩
          · rw [List.map_append]
            rfl
          · rw [upd_ne (ne_of_none eb hL)]
            exact sp _ _ (s6 _ _ eb)
        · rintro acc H6 _ h6 ⟨ms, rfl, s6⟩
          refine ⟨L, ms, rfl, SqL.of h6, ?_⟩
          have h7 := s6 _ _ h5
          refine ⟨_, rfl, .inl ⟨rfl, _, SqL.of h7⟩, _, rfl, _, rfl, _, _, rfl, rfl, _, rfl, _, _, rfl, rfl, r, _, _, rfl, rfl, h7, small1000 (by rw [List.length_map]; omega), _, _, _, ns ++ [u0 + t0 - ms.sum], rfl, fun b' o' eb => ?_, by rw [List.length_append, hl]; rfl, ?_⟩
          · rw [upd_ne (ne_of_none eb rH1)]
            exact s6 _ _ (s45 _ _ eb)
          · rw [upd_same, List.map_append]
            rfl
      · rintro σ H3 ⟨y7, y8, y9, ns, rfl, s3, hl, h3⟩
        have ho3 := s3 _ _ h1
        refine ⟨_, rfl, .inl ⟨rfl, _, SqL.of ho3⟩, _, rfl, r, _, rfl, .inl ⟨SqL.of h3, fun t ht => ?_⟩⟩
        have st := same_upd (o := .tup (ns.map V.int)) ht
        have ho4 := st _ _ ho3
        refine ⟨o, _, _, rfl, rfl, ho4, small1000 (by rw [vec_len]; omega), _, _, _, _, _, _, fun j => if j = i then t else rs j, rfl, fun b' z e => ?_, ?_, fun j hj => ?_⟩
        · rw [upd_ne (ne_of_none e ho)]
          exact st _ _ (s3 _ _ (s1 _ _ e))
        · rw [upd_same, vec_succ]
          have e1 : vec i (fun j => V.ref (rs j)) = vec i (fun j => V.ref (if j = i then t else rs j)) := vec_congr fun j hj => by rw [if_neg (by omega)]
          rw [e1]
          show _ = some (HO.lst (_ ++ [V.ref (if i = i then t else rs i)]))
          rw [if_pos rfl]
        · show ∃ g, TupI _ (if j = i then t else rs j) (ts.length + 1) g
          by_cases hji : j = i
          · subst hji
            rw [if_pos rfl]
            refine ⟨fun j => ns.getD j 0, TupI.kt (?_ : TupI _ t (ts.length + 1) _) (kt_lst ho4)⟩
            have e5 : vec (ts.length + 1) (fun j => V.int (ns.getD j 0)) = ns.map V.int := by rw [ints_vec, hl]
            show _ = some (HO.tup (vec (ts.length + 1) fun j => V.int (ns.getD j 0)))
            rw [e5]
            exact upd_same
          · rw [if_neg hji]
            obtain ⟨g, hg⟩ := hrs j (by omega)
            exact ⟨g, ((hg.kt s3.kt).kt st.kt).kt (kt_lst ho4)⟩
    · rintro σ H1 ⟨y4, y5, y6, y7, y8, y9, rs, rfl, s1, h1, hrs⟩
      obtain ⟨G, hG⟩ := pick (fun _ => 0) hrs
      exact ⟨_, rfl, o, _, rfl, .inl ⟨SqL.of h1, fun t ht => q _ t G (s1.trans (same_upd ht)) ⟨rs, upd_same, fun i hi => (hG i hi).kt (kt_new ht)⟩⟩⟩
end
end K30
set_option Elab.async false
set_option linter.all false
set_option maxRecDepth 100000
set_option maxHeartbeats 8000000
/-! The law itself. -/
namespace K30
open PySem PySem.Spec PyProof.Rows L2
open C8 (Cal pe_c)
abbrev sLaw : Stmt := topS 52
theorem scLaw : FnScope ["_law_script", "_law_k", "_law_feed_here", "_law_rows", "_law_many", "_law_columns", "_law_one_here", "_law_other", "_law_told", "_law_first", "_law_between", "_law_last", "_law_less", "_law_some_here", "_law_others", "_law_every", "_law_small", "_law_large", "_law_times", "_law_middle", "_law_single", "_law_turn", "_law_number", "_law_row", "_law_entry"] ["_law_script"] (defScope sLaw) := ⟨rfl, rfl, rfl, by decide +kernel, rfl, by decide +kernel, by decide +kernel⟩
/-- the script at a: locked, or of the written part -/
def Scr (K : PySem.W.Frag) (H : Hp) (a : Addr) (ns : List Int) : Prop := (∃ o, H a = some (.frz o (.lst (ns.map V.int)))) ∨ ∀ H' : Hp, SqL K H' a (ns.map V.int)
theorem Scr.seq {K : PySem.W.Frag} {H : Hp} {a : Addr} {ns : List Int} (h : Scr K H a ns) : SqL K H a (ns.map V.int) := by
  rcases h with ⟨o, h⟩ | h
  · exact .inl (.inr ⟨o, h⟩)
  · exact h H
theorem Scr.same {K : PySem.W.Frag} {H H' : Hp} {a : Addr} {ns : List Int} (h : Scr K H a ns) (s : Same H H') : Scr K H' a ns := by
  rcases h with ⟨o, h⟩ | h
  · exact .inl ⟨o, s _ _ h⟩
  · exact .inr h
theorem Scr.x {K : PySem.W.Frag} {H H' : Hp} {a f : Addr} {ns : List Int} {N : Nat} (h : Scr K H a ns) (hf : FeedAt H f N) (s : SameX f H H') : Scr K H' a ns := by
  rcases h with ⟨o, h⟩ | h
  · obtain ⟨xs, e⟩ := hf.lst
    exact .inl ⟨o, s _ _ (ne_of h e (fun z => by cases z)) h⟩
  · exact .inr h
theorem Scr.of {K : PySem.W.Frag} {H : Hp} {a : Addr} {ns : List Int} (hO : Only H) (h : SqL K H a (ns.map V.int)) : Scr K H a ns := by
  rcases h with (h | ⟨o, h⟩) | h
  · rcases hO a with z | ⟨o, xs, z⟩
    · rw [h] at z
      cases z
    · rw [h] at z
      cases z
  · exact .inl ⟨o, h⟩
  · exact .inr fun H' => .inr h
/-- what stands in a turn: the script, the feed, two tables that go together, their product, the numbers -/
structure Ctx (K : PySem.W.Frag) (a : Addr) (ns : List Int) (f : Addr) (n m l : Nat) (A A2 tl p1 p2 p3 : Addr) (F F2 G : Nat → Nat → Int) (u v w : Nat → Int) (N : Nat) (H : Hp) : Prop where
  scr : Scr K H a ns
  fd : FeedAt H f N
  tA : TabAt H A n m F
  tB : TabAt H A2 m l F2
  tG : TabAt H tl n l G
  tu : TupI H p1 n u
  tv : TupI H p2 m v
  tw : TupI H p3 l w
section
variable {K : PySem.W.Frag} {a : Addr} {ns : List Int} {f : Addr} {n m l : Nat} {A A2 tl p1 p2 p3 : Addr} {F F2 G : Nat → Nat → Int} {u v w : Nat → Int} {N : Nat} {H H' : Hp}
theorem Ctx.same (C : Ctx K a ns f n m l A A2 tl p1 p2 p3 F F2 G u v w N H) (s : Same H H') : Ctx K a ns f n m l A A2 tl p1 p2 p3 F F2 G u v w N H' :=
  ⟨C.scr.same s, C.fd.same s, C.tA.kt s.kt, C.tB.kt s.kt, C.tG.kt s.kt, C.tu.kt s.kt, C.tv.kt s.kt, C.tw.kt s.kt⟩
theorem Ctx.x {N' : Nat} (C : Ctx K a ns f n m l A A2 tl p1 p2 p3 F F2 G u v w N H) (s : SameX f H H') (fd : FeedAt H' f N') : Ctx K a ns f n m l A A2 tl p1 p2 p3 F F2 G u v w N' H' :=
  have k := C.fd.kt s
  ⟨C.scr.x C.fd s, fd, C.tA.kt k, C.tB.kt k, C.tG.kt k, C.tu.kt k, C.tv.kt k, C.tw.kt k⟩
end
theorem idx_id {m : Nat} (h : 1 ≤ m) : Idx m (fun i => (i : Int)) m := ⟨h, Int.le_refl _, fun j hj => ⟨by show (0 : Int) ≤ (j : Int); omega, by show (j : Int) < m; omega⟩, fun j hj => by show (j : Int) < ((j + 1 : Nat) : Int); omega⟩
theorem idx_one {m : Nat} {c : Int} (h0 : 0 ≤ c) (h1 : c < m) : Idx 1 (fun _ => c) m := ⟨Nat.le_refl _, by omega, fun j _ => ⟨h0, h1⟩, fun j hj => by omega⟩
theorem tup_rg {H : Hp} {q : Addr} {m : Nat} (h : H q = some (.tup (rgV 0 (m : Int)))) : TupI H q m (fun i => (i : Int)) := by
  have e : rgV 0 (m : Int) = vec m (fun j => V.int (j : Nat)) := by
    unfold rgV vec
    rw [show ((m : Int) - 0).toNat = m by omega]
    exact List.map_congr_left fun i _ => congrArg V.int (Int.zero_add _)
  show H q = some (.tup (vec m fun j => V.int (j : Nat)))
  rw [← e]
  exact h
theorem rg_ok {m : Nat} (h : m ≤ 8) : RgOk 0 (m : Int) := RgOk.of_le (Int.le_refl _) (by omega) (by decide) (by omega)
/-- the five sayings, place by place -/
theorem eq_lift {m : Nat} {F F2 G G3 : Nat → Nat → Int} {u v w : Nat → Int} (hG : ∀ i j, IsMin m (fun x => F i x + F2 x j) (G i j)) (h3 : ∀ i j, IsMin m (fun x => (F i x + u i + v x) + (F2 x j + (0 - v x) + w j)) (G3 i j)) (i j : Nat) :
    G3 i j = G i j + u i + w j := by
  have h := (h3 i j).uniq (((hG i j).shift (u i + w j)).congr fun x _ => by show F i x + F2 x j + (u i + w j) = _; omega)
  omega
theorem eq_turn {m : Nat} {F F2 G G3 : Nat → Nat → Int} (hG : ∀ i j, IsMin m (fun x => F i x + F2 x j) (G i j)) (h3 : ∀ j i, IsMin m (fun x => F2 x j + F i x) (G3 j i)) (j i : Nat) : G3 j i = G i j :=
  (h3 j i).uniq ((hG i j).congr fun x _ => Int.add_comm _ _)
theorem eq_thin {m : Nat} {F F2 G G3 : Nat → Nat → Int} {ua ub : Nat → Int} (hG : ∀ i j, IsMin m (fun x => F i x + F2 x j) (G i j)) (h3 : ∀ i j, IsMin m (fun x => F (ua i).toNat ((x : Int)).toNat + F2 ((x : Int)).toNat (ub j).toNat) (G3 i j)) (i j : Nat) :
    G3 i j = G (ua i).toNat (ub j).toNat := (h3 i j).uniq (hG _ _)
theorem eq_scale {m : Nat} {F F2 G G3 : Nat → Nat → Int} {t : Int} (ht : 0 ≤ t) (hG : ∀ i j, IsMin m (fun x => F i x + F2 x j) (G i j)) (h3 : ∀ i j, IsMin m (fun x => F i x * t + F2 x j * t) (G3 i j)) (i j : Nat) : G3 i j = G i j * t :=
  (h3 i j).uniq (((hG i j).scale ht).congr fun x _ => Int.add_mul _ _ _)
theorem eq_single {F F2 G3 : Nat → Nat → Int} {c : Nat} (h3 : ∀ i j, IsMin 1 (fun _ => F i c + F2 c j) (G3 i j)) (i j : Nat) : G3 i j = F i c + F2 c j := by
  obtain ⟨⟨x, _, e⟩, _⟩ := h3 i j
  exact e.symm
def spLaw (K : PySem.W.Frag) : Sp := fun vs H Q _ => ∃ (a : Addr) (ns : List Int), vs = [.ref a] ∧ Scr K H a ns ∧ Bits ns ∧ ∀ H', Q (.bl true) H'
end K30
set_option Elab.async false
set_option linter.all false
set_option maxRecDepth 100000
set_option maxHeartbeats 16000000
namespace K30
open PySem PySem.Spec PyProof.Rows L2
open C8 (Cal pe_c)
/-- what the law calls -/
structure Cs (P : Program) (w : World) (K : PySem.W.Frag) (mg : Str → Option Value) (base : Heap) : Prop where
  feed : Cal P w K mg base 1 "_law_feed" (spFeed K) []
  draw : Cal P w K mg base 1 "_law_draw" spDraw []
  any : Cal P w K mg base 4 "_law_any" spAny []
  more : Cal P w K mg base 3 "_law_more" spMore []
  some_ : Cal P w K mg base 2 "_law_some" spSome []
  nums : Cal P w K mg base 3 "_law_numbers" spNumbers []
  prod : Cal P w K mg base 6 "product" spProduct []
  lift : Cal P w K mg base 5 "lifted" spLifted []
  turn : Cal P w K mg base 5 "turned" spTurned []
  thin : Cal P w K mg base 6 "thinned" spThinned []
  scal : Cal P w K mg base 5 "scaled" spScaled []
/-- the slots of the law -/
abbrev sg (a : Addr) (y1 y2 y3 y4 y5 y6 y7 y8 y9 y10 y11 y12 y13 y14 y15 y16 y17 y18 y19 y20 : Option V) : L2.St :=
  [some (.ref a), y1, y2, y3, y4, y5, y6, y7, y8, y9, y10, y11, y12, y13, y14, y15, y16, y17, y18, y19, y20, none, none, none, none]
theorem at_slots {u : TS} {D : Ends} {σ σ' : L2.St} {H : Hp} (e : σ = σ') (h : u D σ' H) : u D σ H := by
  rw [e]
  exact h
theorem at_name {i : Nat} {v : V} {σ σ' : L2.St} {H : Hp} {Q : L2.St → Hp → Prop} (e : σ.set i (some v) = σ') (h : Q σ' H) : gName i v σ H Q := by
  show Q (σ.set i (some v)) H
  rw [e]
  exact h
section
variable {P : Program} {w : World} {K : PySem.W.Frag} {mg : Str → Option Value} {base : Heap}
theorem ok_law {f : Addr} {fd : FuncData} (Fn : Fun K "law" "law" sLaw f fd) (B : Bt mg) (C : Cs P w K mg base) : FnOk P w K mg base CX0 7 f fd ["_law_script"] (spLaw K) := by
  refine Fn.ok scLaw (fun vs H Q E h => ?_) (fun cdv A outer s H vs Q E hr h => ?_)
  · obtain ⟨a, ns, rfl, _⟩ := h
    rfl
  · obtain ⟨a, ns, rfl, hS, hB, q⟩ := h
    refine ⟨_, pss_cons (ps_for PassesOwn.never rfl
        (pi_range1 (by rfl) B.rng (pa_cons (pe_callB (call_max2 rfl) (by rfl) B.max (by decide +kernel) (pa_cons pe_int (pa_cons (pe_callB (call_min2 rfl) (by rfl) B.min (by decide +kernel) (pa_cons (pe_callB (kLen K) (by rfl) B.len PySem.boot_len (pa_cons (pv 0) pa_nil)) (pa_cons pe_int pa_nil))) pa_nil))) pa_nil))
        (pg_name (i := 1) scLaw.nd rfl (.inl rfl))
        -- the feed, the sizes
        (pss_cons (ps_set (i := 2) scLaw.nd rfl (.inr rfl) (pe_c C.feed hr (by decide) (by rfl) (pa_cons (pv 0) (pa_cons (pv 1) pa_nil))))
        (pss_cons (ps_asg (pe_lc (own := [("_law_turn", 21)]) (g := gName 21) (tt := tYes) rfl scLaw.nd (pi_range1 (by rfl) B.rng (pa_cons pe_int pa_nil)) (blkOk_by (by kernel_rfl))
              (fun _ _ _ _ _ => pg_name (i := 21) scLaw.nd rfl (Or.inl rfl)) (fun _ _ _ _ _ => pts_nil)
              (fun _ _ _ _ _ => pe_op op_add pe_int (pe_c C.draw hr (by decide) (by rfl) (pa_cons (pv 2) (pa_cons pe_int pa_nil)))))
            (pg_unl rfl (pgs_cons (pg_name (i := 3) scLaw.nd rfl (.inl rfl)) (pgs_cons (pg_name (i := 4) scLaw.nd rfl (.inl rfl)) (pgs_cons (pg_name (i := 5) scLaw.nd rfl (.inl rfl)) pgs_nil)))))
        -- two tables
        (pss_cons (ps_asg (pe_tup (pa_cons (pe_c C.any hr (by decide) (by rfl) (pa_cons (pv 2) (pa_cons (pv 3) (pa_cons (pv 4) pa_nil)))) (pa_cons (pe_c C.any hr (by decide) (by rfl) (pa_cons (pv 2) (pa_cons (pv 4) (pa_cons (pv 5) pa_nil)))) pa_nil)))
            (pg_tup rfl (pgs_cons (pg_name (i := 6) scLaw.nd rfl (.inl rfl)) (pgs_cons (pg_name (i := 7) scLaw.nd rfl (.inr rfl)) pgs_nil))))
        -- their product, the numbers
        (pss_cons (ps_asg (pe_tup (pa_cons (pe_c C.prod hr (by decide) (by rfl) (pa_cons (pv 6) (pa_cons (pv 7) pa_nil))) (pa_cons (pe_c C.more hr (by decide) (by rfl) (pa_cons (pv 2) (pa_cons (pv 3) pa_nil)))
              (pa_cons (pe_c C.more hr (by decide) (by rfl) (pa_cons (pv 2) (pa_cons (pv 4) pa_nil))) (pa_cons (pe_c C.more hr (by decide) (by rfl) (pa_cons (pv 2) (pa_cons (pv 5) pa_nil))) pa_nil)))))
            (pg_tup rfl (pgs_cons (pg_name (i := 8) scLaw.nd rfl (.inl rfl)) (pgs_cons (pg_name (i := 9) scLaw.nd rfl (.inl rfl)) (pgs_cons (pg_name (i := 10) scLaw.nd rfl (.inl rfl)) (pgs_cons (pg_name (i := 11) scLaw.nd rfl (.inl rfl)) pgs_nil))))))
        (pss_cons (ps_set (i := 12) scLaw.nd rfl (.inl rfl) (pe_callTy (kTup K) (by rfl) B.tup (by decide +kernel) (pa_cons
            (pe_lc (own := [("_law_number", 22)]) (g := gName 22) (tt := tYes) rfl scLaw.nd (kTupI K (pv 10)) (blkOk_by (by kernel_rfl))
              (fun _ _ _ _ _ => pg_name (i := 22) scLaw.nd rfl (Or.inl rfl)) (fun _ _ _ _ _ => pts_nil) (fun _ _ _ _ _ => pe_op op_sub pe_int (pv 22))) pa_nil)))
        -- lifted
        (pss_cons (ps_if (pt_cmpR (op_neD hr.units) (pe_c C.prod hr (by decide) (by rfl) (pa_cons (pe_c C.lift hr (by decide) (by rfl) (pa_cons (pv 6) (pa_cons (pv 9) (pa_cons (pv 10) pa_nil)))) (pa_cons (pe_c C.lift hr (by decide) (by rfl) (pa_cons (pv 7) (pa_cons (pv 12) (pa_cons (pv 11) pa_nil)))) pa_nil)))
            (pe_c C.lift hr (by decide) (by rfl) (pa_cons (pv 8) (pa_cons (pv 9) (pa_cons (pv 11) pa_nil)))) (nomark _)) (pss_one (ps_ret pe_bl)) pss_nil)
        -- turned
        (pss_cons (ps_if (pt_cmpR (op_neD hr.units) (pe_c C.prod hr (by decide) (by rfl) (pa_cons (pe_c C.turn hr (by decide) (by rfl) (pa_cons (pv 7) pa_nil)) (pa_cons (pe_c C.turn hr (by decide) (by rfl) (pa_cons (pv 6) pa_nil)) pa_nil)))
            (pe_c C.turn hr (by decide) (by rfl) (pa_cons (pv 8) pa_nil)) (nomark _)) (pss_one (ps_ret pe_bl)) pss_nil)
        -- thinned
        (pss_cons (ps_par (i := 13) (j := 14) rfl scLaw.nd rfl rfl (by decide) rfl rfl (pa_cons (pe_c C.some_ hr (by decide) (by rfl) (pa_cons (pv 2) (pa_cons (pv 3) pa_nil))) (pa_cons (pe_c C.some_ hr (by decide) (by rfl) (pa_cons (pv 2) (pa_cons (pv 5) pa_nil))) pa_nil)) (by rfl))
        (pss_cons (ps_set (i := 15) scLaw.nd rfl (.inl rfl) (pe_tupRg rfl (by rfl) B.tup (prg_1 (by rfl) B.rng (pv 4))))
        (pss_cons (ps_if (pt_cmpR (op_neD hr.units) (pe_c C.prod hr (by decide) (by rfl) (pa_cons (pe_c C.thin hr (by decide) (by rfl) (pa_cons (pv 6) (pa_cons (pv 13) (pa_cons (pv 15) pa_nil)))) (pa_cons (pe_c C.thin hr (by decide) (by rfl) (pa_cons (pv 7) (pa_cons (pv 15) (pa_cons (pv 14) pa_nil)))) pa_nil)))
            (pe_c C.thin hr (by decide) (by rfl) (pa_cons (pv 8) (pa_cons (pv 13) (pa_cons (pv 14) pa_nil)))) (nomark _)) (pss_one (ps_ret pe_bl)) pss_nil)
        -- scaled
        (pss_cons (ps_par3 (i := 16) (j := 17) (l := 18) rfl scLaw.nd rfl rfl rfl (by decide) (by decide) (by decide) rfl rfl rfl
            (pa_cons (pe_c C.nums hr (by decide) (by rfl) (pa_cons (pv 2) (pa_cons (pv 3) (pa_cons (pv 4) (pa_cons (pe_lst (pa_cons pe_int (pa_cons pe_int (pa_cons (pe_pow (v := 1000000000000) ⟨by decide, by decide, by decide⟩ (by decide +kernel)) pa_nil)))) pa_nil)))))
            (pa_cons (pe_c C.nums hr (by decide) (by rfl) (pa_cons (pv 2) (pa_cons (pv 4) (pa_cons (pv 5) (pa_cons (pe_lst (pa_cons pe_int (pa_cons pe_int (pa_cons (pe_pow (v := 1000000000000) ⟨by decide, by decide, by decide⟩ (by decide +kernel)) pa_nil)))) pa_nil)))))
            (pa_cons (pe_c C.draw hr (by decide) (by rfl) (pa_cons (pv 2) (pa_cons (pe_op op_add (pe_pow (v := 1000000000) ⟨by decide, by decide, by decide⟩ (by decide +kernel)) pe_int) pa_nil))) pa_nil))) (by rfl))
        (pss_cons (ps_if (pt_cmpR (op_neD hr.units) (pe_c C.prod hr (by decide) (by rfl) (pa_cons (pe_c C.scal hr (by decide) (by rfl) (pa_cons (pv 16) (pa_cons (pv 18) pa_nil))) (pa_cons (pe_c C.scal hr (by decide) (by rfl) (pa_cons (pv 17) (pa_cons (pv 18) pa_nil))) pa_nil)))
            (pe_c C.scal hr (by decide) (by rfl) (pa_cons (pe_c C.prod hr (by decide) (by rfl) (pa_cons (pv 16) (pa_cons (pv 17) pa_nil))) (pa_cons (pv 18) pa_nil))) (nomark _)) (pss_one (ps_ret pe_bl)) pss_nil)
        -- a single middle
        (pss_cons (ps_set (i := 19) scLaw.nd rfl (.inr rfl) (pe_c C.draw hr (by decide) (by rfl) (pa_cons (pv 2) (pa_cons (pv 4) pa_nil))))
        (pss_cons (ps_set (i := 20) scLaw.nd rfl (.inl rfl) (pe_c C.prod hr (by decide) (by rfl)
            (pa_cons (pe_c C.thin hr (by decide) (by rfl) (pa_cons (pv 6) (pa_cons (pe_tupRg rfl (by rfl) B.tup (prg_1 (by rfl) B.rng (pv 3))) (pa_cons (pe_tup (pa_cons (pv 19) pa_nil)) pa_nil))))
            (pa_cons (pe_c C.thin hr (by decide) (by rfl) (pa_cons (pv 7) (pa_cons (pe_tup (pa_cons (pv 19) pa_nil)) (pa_cons (pe_tupRg rfl (by rfl) B.tup (prg_1 (by rfl) B.rng (pv 5))) pa_nil)))) pa_nil))))
        (pss_one (ps_if (pt_cmpR (op_neD hr.units) (pv 20) (pe_callTy (kTup K) (by rfl) B.tup (by decide +kernel) (pa_cons
            (pe_lc (own := [("_law_row", 23)]) (g := gName 23) (tt := tYes) rfl scLaw.nd (kTupI K (pv 6)) (blkOk_by (by kernel_rfl))
              (fun _ _ _ _ _ => pg_name (i := 23) scLaw.nd rfl (Or.inr rfl)) (fun _ _ _ _ _ => pts_nil)
              (fun _ _ _ _ _ => pe_callTy (kTup K) (by rfl) B.tup (by decide +kernel) (pa_cons
                (pe_lc (own := [("_law_entry", 24)]) (g := gName 24) (tt := tYes) rfl scLaw.nd (kTupI K (pe_ix (kIxT K) (pv 7) (pv 19) (fun _ _ => rfl))) (blkOk_by (by kernel_rfl))
                  (fun _ _ _ _ _ => pg_name (i := 24) scLaw.nd rfl (Or.inl rfl)) (fun _ _ _ _ _ => pts_nil)
                  (fun _ _ _ _ _ => pe_op op_add (pe_ix (kIxT K) (pv 23) (pv 19) (fun _ _ => rfl)) (pv 24))) pa_nil))) pa_nil)) (nomark _)) (pss_one (ps_ret pe_bl)) pss_nil)))))))))))))))))
      (pss_one (ps_ret pe_bl)), ?_⟩
    refine ⟨_, rfl, a, _, rfl, .inl hS.seq, _, _, rfl, _, _, rfl, _, rfl, ?_, ?_, ?_⟩
    · split <;> split <;> omega
    · split <;> split <;> omega
    generalize hJ : (if (if (4 : Int) < ((ns.map V.int).length : Int) then (4 : Int) else ((ns.map V.int).length : Int)) > 1 then (if (4 : Int) < ((ns.map V.int).length : Int) then (4 : Int) else ((ns.map V.int).length : Int)) else (1 : Int)) = J
    have hJ4 : J ≤ 4 := by
      rw [← hJ]
      split <;> split <;> omega
    refine for_it (wrng rfl) (fun i σ H1 => ∃ y1 y2 y3 y4 y5 y6 y7 y8 y9 y10 y11 y12 y13 y14 y15 y16 y17 y18 y19 y20 : Option V,
      σ = sg a y1 y2 y3 y4 y5 y6 y7 y8 y9 y10 y11 y12 y13 y14 y15 y16 y17 y18 y19 y20 ∧ Scr K H1 a ns)
      ⟨_, _, _, _, _, _, _, _, _, _, _, _, _, _, _, _, _, _, _, _, rfl, hS⟩ (fun _ _ _ _ _ => trivial) ?_ (fun σ H1 _ => q H1)
    rintro i x σ H1 H1' hi ⟨y1, y2, y3, y4, y5, y6, y7, y8, y9, y10, y11, y12, y13, y14, y15, y16, y17, y18, y19, y20, rfl, hS1⟩ ⟨rfl, rfl⟩
    refine at_slots (σ' := sg a (some (.int (i : Nat))) y2 y3 y4 y5 y6 y7 y8 y9 y10 y11 y12 y13 y14 y15 y16 y17 y18 y19 y20) rfl ?_
    -- the feed
    refine ⟨_, rfl, _, rfl, a, ns, i, rfl, hS1.seq, hB, by omega, fun H2 f s2 nf f2 => ?_⟩
    have hS2 := hS1.same s2
    refine at_name (σ' := sg a (some (.int (i : Nat))) (some (.ref f)) y3 y4 y5 y6 y7 y8 y9 y10 y11 y12 y13 y14 y15 y16 y17 y18 y19 y20) rfl ?_
    -- the sizes
    refine ⟨3, rfl, by decide, by decide, fun L hL => ?_⟩
    refine lc_draw (wrng (m := 3) rfl) (by decide) hL 1 f2 (fun v => 1 ≤ v ∧ v ≤ 8) ?_ fun H3 ds e1 hp s3 f3 e3 => ?_
    · rintro j x H3 H4 R R' hj s3 f3 ⟨rfl, rfl⟩ k
      exact ⟨rfl, _, rfl, f, 8, _, rfl, f3, by omega, by decide, by decide, fun v H5 v0 v1 s5 f5 => ⟨_, _, rfl, rfl, k _ H5 ⟨by omega, by omega⟩ s5 f5⟩⟩
    obtain ⟨n, m, l, rfl⟩ : ∃ n m l : Nat, ds = [(n : Int), (m : Int), (l : Int)] := by
      match ds, e1, hp with
      | [x, y, z], _, hp =>
        have h1 := hp x (by simp)
        have h2 := hp y (by simp)
        have h3 := hp z (by simp)
        refine ⟨x.toNat, y.toNat, z.toNat, ?_⟩
        rw [Int.toNat_of_nonneg (by omega), Int.toNat_of_nonneg (by omega), Int.toNat_of_nonneg (by omega)]
    have hn : Sz n := by
      have := hp (n : Int) (by simp)
      exact ⟨by omega, by omega⟩
    have hm : Sz m := by
      have := hp (m : Int) (by simp)
      exact ⟨by omega, by omega⟩
    have hl : Sz l := by
      have := hp (l : Int) (by simp)
      exact ⟨by omega, by omega⟩
    have hn8 := hn.2
    have hm8 := hm.2
    have hl8 := hl.2
    have hS3 := hS2.x f2 s3
    refine ⟨L, _, rfl, SqL.of e3, rfl, _, _, rfl, _, _, rfl, _, _, rfl, rfl, ?_⟩
    refine at_slots (σ' := sg a (some (.int (i : Nat))) (some (.ref f)) (some (.int (n : Nat))) (some (.int (m : Nat))) (some (.int (l : Nat))) y6 y7 y8 y9 y10 y11 y12 y13 y14 y15 y16 y17 y18 y19 y20) rfl ?_
    -- two tables
    refine ⟨_, rfl, _, rfl, _, rfl, f, n, m, 3, rfl, f3, by decide, hn, hm, fun H4 A F s4 f4 tA => ?_⟩
    refine ⟨_, rfl, _, rfl, _, rfl, f, m, l, 503, rfl, f4, by decide, hm, hl, fun H5 A2 F2 s5 f5 tB => ?_⟩
    refine ⟨(by show 2 ≤ sizeLine; decide), fun p hp' => ⟨p, _, rfl, SqT.of upd_same, rfl, _, _, rfl, _, _, rfl, rfl, ?_⟩⟩
    have s6 := same_upd (o := .tup [V.ref A, V.ref A2]) hp'
    have f6 := f5.same s6
    have tA6 := (tA.kt (f4.kt s5)).kt s6.kt
    have tB6 := tB.kt s6.kt
    have hS6 := ((hS3.x f3 s4).x f4 s5).same s6
    generalize upd H5 p (.tup [V.ref A, V.ref A2]) = H6 at s6 f6 tA6 tB6 hS6 ⊢
    refine at_slots (σ' := sg a (some (.int (i : Nat))) (some (.ref f)) (some (.int (n : Nat))) (some (.int (m : Nat))) (some (.int (l : Nat))) (some (.ref A)) (some (.ref A2)) y8 y9 y10 y11 y12 y13 y14 y15 y16 y17 y18 y19 y20) rfl ?_
    -- their product, the numbers
    refine ⟨_, rfl, _, rfl, A, A2, n, m, l, F, F2, rfl, tA6, tB6, hn, hm, hl, fun H7 tl G s7 tG hG => ?_⟩
    have f7 := f6.same s7
    refine ⟨_, rfl, _, rfl, f, n, 1003, rfl, f7, by decide, hn8, fun H8 p1 u s8 f8 tu => ?_⟩
    refine ⟨_, rfl, _, rfl, f, m, 1403, rfl, f8, by decide, hm8, fun H9 p2 v s9 f9 tv => ?_⟩
    refine ⟨_, rfl, _, rfl, f, l, 1803, rfl, f9, by decide, hl8, fun H10 p3 w' s10 f10 tw => ?_⟩
    refine ⟨(by show 4 ≤ sizeLine; decide), fun p' hp2 => ⟨p', _, rfl, SqT.of upd_same, rfl, _, _, rfl, _, _, rfl, _, _, rfl, _, _, rfl, rfl, ?_⟩⟩
    have k8 := f7.kt s8
    have k9 := f8.kt s9
    have k10 := f9.kt s10
    have C10 : Ctx K a ns f n m l A A2 tl p1 p2 p3 F F2 G u v w' 2203 H10 :=
      ⟨(((hS6.same s7).x f7 s8).x f8 s9).x f9 s10, f10, (((tA6.kt s7.kt).kt k8).kt k9).kt k10, (((tB6.kt s7.kt).kt k8).kt k9).kt k10, ((tG.kt k8).kt k9).kt k10, (tu.kt k9).kt k10, tv.kt k10, tw⟩
    have C11 := C10.same (same_upd (o := .tup [V.ref tl, V.ref p1, V.ref p2, V.ref p3]) hp2)
    generalize upd H10 p' (.tup [V.ref tl, V.ref p1, V.ref p2, V.ref p3]) = H11 at C11 ⊢
    refine at_slots (σ' := sg a (some (.int (i : Nat))) (some (.ref f)) (some (.int (n : Nat))) (some (.int (m : Nat))) (some (.int (l : Nat))) (some (.ref A)) (some (.ref A2)) (some (.ref tl)) (some (.ref p1)) (some (.ref p2)) (some (.ref p3)) y12 y13 y14 y15 y16 y17 y18 y19 y20) rfl ?_
    -- less
    refine ⟨_, rfl, p2, rfl, ⟨_, SqT.of C11.tv⟩, fun D hD => ?_⟩
    refine lc_vec wtup (by omega) hD (fun j => .int (0 - v j)) (fun H s => SqT.of (C11.tv.kt s.kt)) ?_ fun H12 s12 e12 => ?_
    · rintro j x H12 H13 R R' hj s12 ⟨rfl, hx⟩ k
      obtain ⟨_, rfl⟩ := vec_at hx
      exact ⟨⟨rfl, _, rfl, _, _, rfl, rfl, k _ (Same.refl _)⟩, Same.refl _⟩
    refine ⟨D, _, rfl, .inl ⟨SqL.of e12, fun pl hpl => ?_⟩⟩
    have tl13 : TupI (upd H12 pl (.tup (vec m fun j => V.int (0 - v j)))) pl m (fun j => 0 - v j) := upd_same
    have C13 := (C11.same s12).same (same_upd (o := .tup (vec m fun j => V.int (0 - v j))) hpl)
    generalize upd H12 pl (.tup (vec m fun j => V.int (0 - v j))) = H13 at tl13 C13 ⊢
    refine at_name (σ' := sg a (some (.int (i : Nat))) (some (.ref f)) (some (.int (n : Nat))) (some (.int (m : Nat))) (some (.int (l : Nat))) (some (.ref A)) (some (.ref A2)) (some (.ref tl)) (some (.ref p1)) (some (.ref p2)) (some (.ref p3)) (some (.ref pl)) y13 y14 y15 y16 y17 y18 y19 y20) rfl ?_
    -- lifted
    refine ⟨_, rfl, _, rfl, _, rfl, A, p1, p2, n, m, F, u, v, rfl, C13.tA, C13.tu, C13.tv, hn, hm, fun H14 a1 s14 t14 => ?_⟩
    have C14 := C13.same s14
    refine ⟨_, rfl, _, rfl, _, rfl, A2, pl, p3, m, l, F2, (fun j => 0 - v j), w', rfl, C14.tB, tl13.kt s14.kt, C14.tw, hm, hl, fun H15 a2 s15 t15 => ?_⟩
    have C15 := C14.same s15
    refine ⟨a1, a2, n, m, l, _, _, rfl, t14.kt s15.kt, t15, hn, hm, hl, fun H16 a3 G3 s16 t16 h16 => ?_⟩
    have C16 := C15.same s16
    refine ⟨_, rfl, _, rfl, _, rfl, tl, p1, p3, n, l, G, u, w', rfl, C16.tG, C16.tu, C16.tw, hn, hl, fun H17 a4 s17 t17 => ?_⟩
    have C17 := C16.same s17
    refine ne_tabs (t16.kt s17.kt) t17 (fun i j _ _ => eq_lift hG h16 i j) ⟨false, rfl, iteF ?_⟩
    -- turned
    refine ⟨_, rfl, A2, m, l, F2, rfl, C17.tB, hm, hl, fun H18 a5 s18 t18 => ?_⟩
    have C18 := C17.same s18
    refine ⟨_, rfl, A, n, m, F, rfl, C18.tA, hn, hm, fun H19 a6 s19 t19 => ?_⟩
    have C19 := C18.same s19
    refine ⟨a5, a6, l, m, n, _, _, rfl, t18.kt s19.kt, t19, hl, hm, hn, fun H20 a7 G7 s20 t20 h20 => ?_⟩
    have C20 := C19.same s20
    refine ⟨_, rfl, tl, n, l, G, rfl, C20.tG, hn, hl, fun H21 a8 s21 t21 => ?_⟩
    have C21 := C20.same s21
    refine ne_tabs (t20.kt s21.kt) t21 (fun j i _ _ => eq_turn hG h20 j i) ⟨false, rfl, iteF ?_⟩
    -- thinned
    refine ⟨_, rfl, _, rfl, f, n, 2203, rfl, C21.fd, by decide, hn, fun H22 q1 sa ua s22 f22 t22 i22 => ?_⟩
    have C22 := C21.x s22 f22
    refine ⟨_, rfl, _, rfl, f, l, 2603, rfl, f22, by decide, hl, fun H23 q2 sb ub s23 f23 t23 i23 => ?_⟩
    have C23 := C22.x s23 f23
    have t22b := t22.kt (f22.kt s23)
    refine ⟨_, _, rfl, ?_⟩
    refine at_slots (σ' := sg a (some (.int (i : Nat))) (some (.ref f)) (some (.int (n : Nat))) (some (.int (m : Nat))) (some (.int (l : Nat))) (some (.ref A)) (some (.ref A2)) (some (.ref tl)) (some (.ref p1)) (some (.ref p2)) (some (.ref p3)) (some (.ref pl)) (some (.ref q1)) (some (.ref q2)) y15 y16 y17 y18 y19 y20) rfl ?_
    refine ⟨_, rfl, _, rfl, rg_ok hm8, fun q3 hq3 => ?_⟩
    have s24 := same_upd (o := .tup (rgV 0 (m : Int))) hq3
    have C24 := C23.same s24
    have tq1 := t22b.kt s24.kt
    have tq2 := t23.kt s24.kt
    have tq3 := tup_rg (upd_same (H := H23) (a := q3) (o := .tup (rgV 0 (m : Int))))
    generalize upd H23 q3 (.tup (rgV 0 (m : Int))) = H24 at s24 C24 tq1 tq2 tq3 ⊢
    refine at_name (σ' := sg a (some (.int (i : Nat))) (some (.ref f)) (some (.int (n : Nat))) (some (.int (m : Nat))) (some (.int (l : Nat))) (some (.ref A)) (some (.ref A2)) (some (.ref tl)) (some (.ref p1)) (some (.ref p2)) (some (.ref p3)) (some (.ref pl)) (some (.ref q1)) (some (.ref q2)) (some (.ref q3)) y16 y17 y18 y19 y20) rfl ?_
    have hsa : Sz sa := ⟨i22.1, by have := i22.2.1; omega⟩
    have hsb : Sz sb := ⟨i23.1, by have := i23.2.1; omega⟩
    refine ⟨_, rfl, _, rfl, _, rfl, A, q1, q3, n, m, sa, m, F, ua, (fun i => (i : Int)), rfl, C24.tA, tq1, tq3, hn, hm, i22, idx_id hm.1, fun H25 b1 s25 t25 => ?_⟩
    have C25 := C24.same s25
    refine ⟨_, rfl, _, rfl, _, rfl, A2, q3, q2, m, l, m, sb, F2, (fun i => (i : Int)), ub, rfl, C25.tB, tq3.kt s25.kt, tq2.kt s25.kt, hm, hl, idx_id hm.1, i23, fun H26 b2 s26 t26 => ?_⟩
    have C26 := C25.same s26
    refine ⟨b1, b2, sa, m, sb, _, _, rfl, t25.kt s26.kt, t26, hsa, hm, hsb, fun H27 b3 G9 s27 t27 h27 => ?_⟩
    have C27 := C26.same s27
    have k27 := ((s25.trans s26).trans s27).kt
    refine ⟨_, rfl, _, rfl, _, rfl, tl, q1, q2, n, l, sa, sb, G, ua, ub, rfl, C27.tG, tq1.kt k27, tq2.kt k27, hn, hl, i22, i23, fun H28 b4 s28 t28 => ?_⟩
    have C28 := C27.same s28
    refine ne_tabs (t27.kt s28.kt) t28 (fun i j _ _ => eq_thin hG h27 i j) ⟨false, rfl, iteF ?_⟩
    -- scaled
    have hthree : ∀ z : Int, z ∈ ([1, 9, 1000000000000] : List Int) → 1 ≤ z ∧ z ≤ 10000000000000000000000000000 := fun z hz => by
      have : z = 1 ∨ z = 9 ∨ z = 1000000000000 := by simpa using hz
      omega
    refine ⟨_, rfl, _, rfl, _, rfl, (by show 3 ≤ sizeLine; decide), fun l1 hl1 => ?_⟩
    have sl1 := same_upd (o := .lst [V.int 1, V.int 9, V.int 1000000000000]) hl1
    refine ⟨f, l1, n, m, 3003, [1, 9, 1000000000000], rfl, C28.fd.same sl1, by decide, hn, hm, upd_same, (C28.fd.ne hl1).symm, by decide, by decide, hthree, fun H29 c1 S s29 f29 t29 => ?_⟩
    have C29 := (C28.same sl1).x s29 f29
    refine ⟨_, rfl, _, rfl, _, rfl, (by show 3 ≤ sizeLine; decide), fun l2 hl2 => ?_⟩
    have sl2 := same_upd (o := .lst [V.int 1, V.int 9, V.int 1000000000000]) hl2
    refine ⟨f, l2, m, l, 3403, [1, 9, 1000000000000], rfl, f29.same sl2, by decide, hm, hl, upd_same, (f29.ne hl2).symm, by decide, by decide, hthree, fun H30 c2 T s30 f30 t30 => ?_⟩
    have C30 := (C29.same sl2).x s30 f30
    have t29b := (t29.kt sl2.kt).kt ((f29.same sl2).kt s30)
    refine ⟨_, rfl, _, _, rfl, rfl, f, _, 3803, rfl, f30, by decide, by decide, by decide, fun tm H31 tm0 tm1 s31 f31 => ?_⟩
    have C31 := C30.x s31 f31
    have t29c := t29b.kt (f30.kt s31)
    have t30c := t30.kt (f30.kt s31)
    refine ⟨_, _, _, rfl, ?_⟩
    refine at_slots (σ' := sg a (some (.int (i : Nat))) (some (.ref f)) (some (.int (n : Nat))) (some (.int (m : Nat))) (some (.int (l : Nat))) (some (.ref A)) (some (.ref A2)) (some (.ref tl)) (some (.ref p1)) (some (.ref p2)) (some (.ref p3)) (some (.ref pl)) (some (.ref q1)) (some (.ref q2)) (some (.ref q3)) (some (.ref c1)) (some (.ref c2)) (some (.int tm)) y19 y20) rfl ?_
    have tm9 : tm ≤ 1000000000 := by omega
    refine ⟨_, rfl, _, rfl, c1, n, m, S, tm, rfl, t29c, hn, hm, tm0, tm9, fun H32 d1 s32 t32 => ?_⟩
    refine ⟨_, rfl, _, rfl, c2, m, l, T, tm, rfl, t30c.kt s32.kt, hm, hl, tm0, tm9, fun H33 d2 s33 t33 => ?_⟩
    refine ⟨d1, d2, n, m, l, _, _, rfl, t32.kt s33.kt, t33, hn, hm, hl, fun H34 d3 G11 s34 t34 h34 => ?_⟩
    have s33b := (s32.trans s33).trans s34
    refine ⟨_, rfl, _, rfl, c1, c2, n, m, l, S, T, rfl, t29c.kt s33b.kt, t30c.kt s33b.kt, hn, hm, hl, fun H35 d4 G12 s35 t35 h35 => ?_⟩
    refine ⟨_, rfl, d4, n, l, G12, tm, rfl, t35, hn, hl, tm0, tm9, fun H36 d5 s36 t36 => ?_⟩
    have C36 := C31.same ((s33b.trans s35).trans s36)
    refine ne_tabs ((t34.kt s35.kt).kt s36.kt) t36 (fun i j _ _ => eq_scale tm0 h35 h34 i j) ⟨false, rfl, iteF ?_⟩
    -- a single middle
    refine ⟨_, rfl, _, rfl, f, m, 3804, rfl, C36.fd, by decide, (by have := hm.1; omega), by omega, fun c H37 c0 c1' s37 f37 => ?_⟩
    have C37 := C36.x s37 f37
    refine at_name (σ' := sg a (some (.int (i : Nat))) (some (.ref f)) (some (.int (n : Nat))) (some (.int (m : Nat))) (some (.int (l : Nat))) (some (.ref A)) (some (.ref A2)) (some (.ref tl)) (some (.ref p1)) (some (.ref p2)) (some (.ref p3)) (some (.ref pl)) (some (.ref q1)) (some (.ref q2)) (some (.ref q3)) (some (.ref c1)) (some (.ref c2)) (some (.int tm)) (some (.int c)) y20) rfl ?_
    refine ⟨_, rfl, _, rfl, _, rfl, rg_ok hn8, fun r1 hr1 => ?_⟩
    have s38 := same_upd (o := .tup (rgV 0 (n : Int))) hr1
    have tr1 := tup_rg (upd_same (H := H37) (a := r1) (o := .tup (rgV 0 (n : Int))))
    refine ⟨_, rfl, (by show 1 ≤ sizeLine; decide), fun r2 hr2 => ?_⟩
    have s39 := same_upd (o := .tup [V.int c]) hr2
    have tr2 : TupI (upd (upd H37 r1 (.tup (rgV 0 (n : Int)))) r2 (.tup [V.int c])) r2 1 (fun _ => c) := upd_same
    have C39 := (C37.same s38).same s39
    refine ⟨A, r1, r2, n, m, n, 1, F, (fun i => (i : Int)), (fun _ => c), rfl, C39.tA, tr1.kt s39.kt, tr2, hn, hm, idx_id hn.1, idx_one c0 c1', fun H40 e1' s40 t40 => ?_⟩
    have C40 := C39.same s40
    refine ⟨_, rfl, _, rfl, (by show 1 ≤ sizeLine; decide), fun r3 hr3 => ?_⟩
    have s41 := same_upd (o := .tup [V.int c]) hr3
    have tr3 : TupI (upd H40 r3 (.tup [V.int c])) r3 1 (fun _ => c) := upd_same
    refine ⟨_, rfl, _, rfl, rg_ok hl8, fun r4 hr4 => ?_⟩
    have s42 := same_upd (o := .tup (rgV 0 (l : Int))) hr4
    have tr4 := tup_rg (upd_same (H := upd H40 r3 (.tup [V.int c])) (a := r4) (o := .tup (rgV 0 (l : Int))))
    have C42 := (C40.same s41).same s42
    have h1 : Sz 1 := ⟨by decide, by decide⟩
    refine ⟨A2, r3, r4, m, l, 1, l, F2, (fun _ => c), (fun i => (i : Int)), rfl, C42.tB, tr3.kt s42.kt, tr4, hm, hl, idx_one c0 c1', idx_id hl.1, fun H43 e2 s43 t43 => ?_⟩
    have C43 := C42.same s43
    refine ⟨e1', e2, n, 1, l, _, _, rfl, ((t40.kt s41.kt).kt s42.kt).kt s43.kt, t43, hn, h1, hl, fun H44 e3' G13 s44 t44 h44 => ?_⟩
    have C44 := C43.same s44
    refine at_name (σ' := sg a (some (.int (i : Nat))) (some (.ref f)) (some (.int (n : Nat))) (some (.int (m : Nat))) (some (.int (l : Nat))) (some (.ref A)) (some (.ref A2)) (some (.ref tl)) (some (.ref p1)) (some (.ref p2)) (some (.ref p3)) (some (.ref pl)) (some (.ref q1)) (some (.ref q2)) (some (.ref q3)) (some (.ref c1)) (some (.ref c2)) (some (.int tm)) (some (.int c)) _) rfl ?_
    -- the sums of all
    obtain ⟨rowsA, hA1, hA2⟩ := C44.tA
    obtain ⟨rowsB, hB1, hB2⟩ := C44.tB
    have hcm : c.toNat < m := by omega
    refine ⟨_, rfl, _, rfl, A, rfl, ⟨_, SqT.of hA1⟩, fun D2 hD2 => ?_⟩
    refine lc_tab wtup (by omega) hD2 l (fun i j => F i c.toNat + F2 c.toNat j) (fun H s => SqT.of (s _ _ hA1)) ?_ fun H45 rs s45 g1 g2 => ?_
    · rintro i x H45 H46 R R' hi' s45 ⟨rfl, hx⟩ k
      obtain ⟨_, rfl⟩ := vec_at hx
      refine ⟨⟨rfl, _, rfl, _, rfl, A2, _, c, _, rfl, rfl, SqT.of (s45 _ _ hB1), at_vec c0 c1', rowsB c.toNat, rfl, ⟨_, SqT.of (s45 _ _ (hB2 _ hcm))⟩, fun D3 hD3 => ?_⟩, Same.refl _⟩
      refine lc_vec wtup (by omega) hD3 (fun j => .int (F i c.toNat + F2 c.toNat j)) (fun H s => SqT.of (s _ _ (s45 _ _ (hB2 _ hcm)))) ?_ fun H47 s47 e47 => ?_
      · rintro j x H47 H48 R2 R2' hj s47 ⟨rfl, hx⟩ k2
        obtain ⟨_, rfl⟩ := vec_at hx
        exact ⟨⟨rfl, _, rfl, _, rfl, rowsA i, _, c, _, rfl, rfl, SqT.of (s47 _ _ (s45 _ _ (hA2 i hi'))), at_vec c0 c1', _, rfl, _, _, rfl, rfl, k2 _ (Same.refl _)⟩, Same.refl _⟩
      · exact ⟨D3, _, rfl, .inl ⟨SqL.of e47, fun p hp => k p _ (s47.trans (same_upd hp)) upd_same⟩⟩
    refine ⟨D2, _, rfl, .inl ⟨SqL.of g1, fun pz hpz => ?_⟩⟩
    have s46 := same_upd (o := .tup (vec n fun i => V.ref (rs i))) hpz
    have tz : TabAt (upd H45 pz (.tup (vec n fun i => V.ref (rs i)))) pz n l (fun i j => F i c.toNat + F2 c.toNat j) := ⟨rs, upd_same, fun i hi => (g2 i hi).kt s46.kt⟩
    refine ne_tabs ((t44.kt s45.kt).kt s46.kt) tz (fun i j _ _ => eq_single (F := F) (F2 := F2) (c := c.toNat) h44 i j) ⟨false, rfl, iteF ?_⟩
    exact ⟨_, _, _, _, _, _, _, _, _, _, _, _, _, _, _, _, _, _, _, _, rfl, (C44.scr.same s45).same s46⟩
end
end K30
set_option Elab.async false
set_option linter.all false
set_option maxRecDepth 100000
set_option maxHeartbeats 8000000
/-! What the top has written, gathered. -/
namespace K30
open PySem PySem.Spec PyProof.Rows L2
open C8 (Cal pe_c)
theorem df_mk {K : PySem.W.Frag} {h : Heap} {mg : Str → Option Value} {x : Str} {st : Stmt} {f : Addr} {oc : Value} {od an : Option Addr} {osl : Array (Option Value)} {kV doc pm cdv ct : Value} (X : K.In h) (G : h.Ns mainGlobals mg)
    (a : PySem.W.nsIn K mainGlobals x = some (some (.ref f))) (l : K.lookup f = some ⟨oc, od, .func (PySem.W.fnOf x x (defArgs st) (defBody st) (defScope st) .none kV doc pm an cdv ct), osl⟩)
    (c : PySem.W.codeIn K cdv x = true) (k : PySem.W.keepIn K (.ref f) = true) : Df K mg x st := ⟨f, _, fun_mk l c k, PySem.W.mg_of X G a⟩
/-- all defs of the top -/
structure Defs (K : PySem.W.Frag) (mg : Str → Option Value) : Prop where
  is_integer : Df K mg "is_integer" sIsInteger
  is_within : Df K mg "is_within" sIsWithin
  is_row_of : Df K mg "is_row_of" sIsRowOf
  are_integers : Df K mg "are_integers" sAreIntegers
  are_numbers : Df K mg "are_numbers" sAreNumbers
  are_rising : Df K mg "are_rising" sAreRising
  are_indexes : Df K mg "are_indexes" sAreIndexes
  need_number : Df K mg "need_number" sNeedNumber
  columns_of : Df K mg "columns_of" sColumnsOf
  sums_by : Df K mg "sums_by" sSumsBy
  least_sums : Df K mg "least_sums" sLeastSums
  width : Df K mg "width" sWidth
  column_of : Df K mg "column_of" sColumnOf
  turned_table : Df K mg "turned_table" sTurnedTable
  lifted_table : Df K mg "lifted_table" sLiftedTable
  scaled_table : Df K mg "scaled_table" sScaledTable
  thinned_table : Df K mg "thinned_table" sThinnedTable
  is_table_form : Df K mg "is_table_form" sIsTableForm
  need_table : Df K mg "need_table" sNeedTable
  need_indexes : Df K mg "need_indexes" sNeedIndexes
  need_two : Df K mg "need_two" sNeedTwo
  product : Df K mg "product" sProduct
  need_numbers : Df K mg "need_numbers" sNeedNumbers
  lifted : Df K mg "lifted" sLifted
  scaled : Df K mg "scaled" sScaled
  turned : Df K mg "turned" sTurned
  thinned : Df K mg "thinned" sThinned
  feed : Df K mg "_law_feed" sFeed
  draw : Df K mg "_law_draw" sDraw
  one : Df K mg "_law_one" sOne
  built : Df K mg "_law_built" sBuilt
  sized : Df K mg "_law_sized" sSized
  numbers : Df K mg "_law_numbers" sNumbers
  any : Df K mg "_law_any" sAny
  some_ : Df K mg "_law_some" sSome
  more : Df K mg "_law_more" sMore
section
variable {P : Program} {w : World} {K : PySem.W.Frag} {mg : Str → Option Value} {base : Heap}
theorem cs_mk (D : Defs K mg) (B : Bt mg) (mR : ∃ t, mg "MOST_ROWS" = some (.int 8 t)) (mT : ∃ t, mg "MOST_TIMES" = some (.int 1000000000 t)) : Cs P w K mg base := by
  have isInt : Cal P w K mg base 1 "is_integer" spIsInteger [] := cal_is_integer D.is_integer B
  have isWit : Cal P w K mg base 2 "is_within" spIsWithin [] := cal_is_within D.is_within B isInt
  have isRow : Cal P w K mg base 1 "is_row_of" spIsRowOf [] := cal_is_row_of D.is_row_of B
  have areInt : Cal P w K mg base 2 "are_integers" spAreIntegers [] := cal_are_integers D.are_integers B isInt isRow
  have areNum : Cal P w K mg base 3 "are_numbers" spAreNumbers [] := cal_are_numbers D.are_numbers B isWit isRow
  have areRis : Cal P w K mg base 1 "are_rising" spAreRising [] := cal_are_rising D.are_rising B
  have areIdx : Cal P w K mg base 4 "are_indexes" spAreIndexes [] := cal_are_indexes D.are_indexes B isRow areNum areRis
  have needNum : Cal P w K mg base 3 "need_number" spNeedNumber [] := cal_need_number D.need_number isWit
  have cols : Cal P w K mg base 1 "columns_of" spColumnsOf [] := cal_columns_of D.columns_of B
  have sums : Cal P w K mg base 1 "sums_by" spSumsBy [] := cal_sums_by D.sums_by B
  have least : Cal P w K mg base 2 "least_sums" spLeastSums [] := cal_least_sums D.least_sums B cols sums
  have wid : Cal P w K mg base 1 "width" spWidth [] := cal_width D.width B
  have colOf : Cal P w K mg base 1 "column_of" spColumnOf [] := cal_column_of D.column_of B
  have turnT : Cal P w K mg base 2 "turned_table" spTurnedTable [] := cal_turned_table D.turned_table B wid colOf
  have liftT : Cal P w K mg base 1 "lifted_table" spLiftedTable [] := cal_lifted_table D.lifted_table B
  have scalT : Cal P w K mg base 1 "scaled_table" spScaledTable [] := cal_scaled_table D.scaled_table B
  have thinT : Cal P w K mg base 1 "thinned_table" spThinnedTable [] := cal_thinned_table D.thinned_table B
  have form : Cal P w K mg base 3 "is_table_form" spIsTableForm [] := cal_is_table_form D.is_table_form B mR isRow areInt
  have needT : Cal P w K mg base 4 "need_table" spNeedTable [] := cal_need_table D.need_table form
  have needI : Cal P w K mg base 5 "need_indexes" spNeedIndexes [] := cal_need_indexes D.need_indexes areIdx
  have needNs : Cal P w K mg base 3 "need_numbers" spNeedNumbers [] := cal_need_numbers D.need_numbers areInt
  have need2 : Cal P w K mg base 5 "need_two" spNeedTwo [] := cal_need_two D.need_two B needT
  have draw : Cal P w K mg base 1 "_law_draw" spDraw [] := cal_draw D.draw B
  have one : Cal P w K mg base 2 "_law_one" spOne [] := cal_one D.one B draw
  have built : Cal P w K mg base 1 "_law_built" spBuilt [] := cal_built D.built B
  have sized : Cal P w K mg base 3 "_law_sized" spSized [] := cal_sized D.sized B draw one built
  have nums : Cal P w K mg base 3 "_law_numbers" spNumbers [] := cal_numbers D.numbers B draw one
  exact {
    feed := cal_feed D.feed B
    draw := draw
    any := cal_any D.any draw sized nums
    more := cal_more D.more B draw one
    some_ := cal_some D.some_ B draw
    nums := nums
    prod := cal_product D.product need2 least
    lift := cal_lifted D.lifted B needT needNs wid liftT
    turn := cal_turned D.turned needT turnT
    thin := cal_thinned D.thinned B needT needI wid thinT
    scal := cal_scaled D.scaled mT needT needNum scalT }
end
theorem all_mk {l : PySem.W.OpenLaw} {w : World} {K : PySem.W.Frag} {h : Heap} {mg : Str → Option Value} {fa : Addr} (X : K.In h) (G : h.Ns mainGlobals mg) (hfa : mg "law" = some (.ref fa))
    (D : Defs K mg) (L : Df K mg "law" sLaw) (B : Bt mg) (mR : ∃ t, mg "MOST_ROWS" = some (.int 8 t)) (mT : ∃ t, mg "MOST_TIMES" = some (.int 1000000000 t)) :
    ∃ fd : FuncData, (∀ (s : Shared) (v : Value), BindsTo s fd ⟨[v], []⟩ [("_law_script", v)]) ∧ ∀ base : Heap, K.In base → base.Ns mainGlobals mg → FnOk l.prog w K mg base CX0 7 fa fd ["_law_script"] (spLaw K) := by
  obtain ⟨f, fd, F, g⟩ := L.ex
  have e := hfa.symm.trans g
  cases e
  refine ⟨fd, fun s v => ?_, fun base _ _ => ok_law F B (cs_mk D B mR mT)⟩
  obtain ⟨oc, od, kV, doc, pm, an, cdv, ct, osl, rfl, lk, hcd⟩ := F.ex
  exact .of_eq rfl
theorem rows_of {K : PySem.W.Frag} {h : Heap} {mg : Str → Option Value} {tk : Tok} (X : K.In h) (G : h.Ns mainGlobals mg) (a : PySem.W.nsIn K mainGlobals "MOST_ROWS" = some (some (.int 8 tk))) : ∃ t, mg "MOST_ROWS" = some (.int 8 t) := ⟨tk, PySem.W.mg_of X G a⟩
theorem times_of {p : Program} {mg : Str → Option Value} {h : Heap} (x : PySem.W.XL p [("MOST_TIMES", PySem.W.WData.int 1000000000)] mg h) : ∃ t, mg "MOST_TIMES" = some (.int 1000000000 t) := by
  obtain ⟨v, e, r⟩ := x.2.val _ List.mem_cons_self
  cases r
  exact ⟨_, e⟩
theorem bits_of {ns : List Int} (h : ∀ z ∈ ns, Builtin.Int.intBits z ≤ 1048576) : Bits ns := by
  obtain ⟨b, hb⟩ : ∃ b : Nat, b = 1048576 := ⟨_, rfl⟩
  rw [← hb] at h
  exact ⟨b, Nat.le_of_eq hb, fun z hz => bits_lt (h z hz)⟩
/-- the law's end: as the layer's own with the bits told, but what the head tells of the constants (XP) is at hand too -/
theorem law_end {q : Program} {loose : List Str} {XP : (Str → Option Value) → Heap → Prop} {YP : World → Heap → Prop} {d : DefRec} {K : Params → PySem.W.Frag} (noDefault : d.params.defaults = [])
    (written : ∀ (w : World) (h : Heap), YP w h → (K w.params).In h)
    (keeps : ∀ (w : World) (mg : Str → Option Value) (fa : Addr) (h : Heap), XP mg h → (K w.params).In h → h.Ns mainGlobals mg → mg d.name = some (.ref fa) →
      ∃ fd : FuncData, (∀ (s : Shared) (v : Value), BindsTo s fd ⟨[v], []⟩ [("_law_script", v)]) ∧
        ∀ base : Heap, (K w.params).In base → base.Ns mainGlobals mg → FnOk PySem.Challenge.rw_straightleast_k30_whole_products_of_chan.prog w (K w.params) mg base CX0 7 fa fd ["_law_script"] (spLaw (K w.params))) :
    PySem.W.WalkO q loose XP YP PySem.Challenge.rw_straightleast_k30_whole_products_of_chan.row.toRowW d [] (fun f us => PySem.call f us) :=
  Att.attach_callB (n := 63) rfl noDefault fun w _ s1 mg _ fa _ _ _ _ a us ns G Y _ _ _ named script nums short bits gens =>
    have X1 := written w s1.heap Y
    have ⟨_, binds, ok⟩ := keeps w mg fa s1.heap G.X X1 G.T.g named
    law_call X1 G.T.g G.T.b G.T.builtins G.T.nolimit gens script nums (Nat.le_trans short (by decide)) ⟨rfl, by decide, by decide⟩ ok binds
      (fun _ only at_ => ⟨a, ns, rfl, Scr.of only at_, bits_of bits, fun _ => rfl⟩) fun _ _ _ no => no
end K30
set_option Elab.async false
set_option linter.all false
set_option maxRecDepth 100000
open PySem PySem.W PyProof.Rows
set_option maxHeartbeats 0 in
theorem PySem.Challenge.cw_straightleast_k30_whole_products_of_chan_holds : PySem.Challenge.rw_straightleast_k30_whole_products_of_chan.Holds := by
  w_on; o_law; k_head; (case hw => w_witness2)
  k_fill
  refine K30.law_end rfl (fun w h Y => PySem.W.kIn_of Y) ?F
  case F =>
    intro w mg fa h XX KX G hmg
    refine' K30.all_mk KX G hmg ?D ?L ?B ?mR ?mT
    (case L => (refine' K30.df_mk KX G ?a ?l ?c ?k; (case a => k_is); (case l => k_is); (case c => k_is); (case k => k_is)))
    (case B => (refine' ⟨PySem.W.mg_none_of KX G ?b0, PySem.W.mg_none_of KX G ?b1, PySem.W.mg_none_of KX G ?b2, PySem.W.mg_none_of KX G ?b3, PySem.W.mg_none_of KX G ?b4, PySem.W.mg_none_of KX G ?b5, PySem.W.mg_none_of KX G ?b6, PySem.W.mg_none_of KX G ?b7, PySem.W.mg_none_of KX G ?b8, PySem.W.mg_none_of KX G ?b9, PySem.W.mg_none_of KX G ?b10, PySem.W.mg_none_of KX G ?b11⟩; (case b0 => k_is); (case b1 => k_is); (case b2 => k_is); (case b3 => k_is); (case b4 => k_is); (case b5 => k_is); (case b6 => k_is); (case b7 => k_is); (case b8 => k_is); (case b9 => k_is); (case b10 => k_is); (case b11 => k_is)))
    (case mR => (refine' K30.rows_of KX G ?r; (case r => k_is)))
    (case mT => exact K30.times_of XX)
    case D =>
      refine' ⟨?d0, ?d1, ?d2, ?d3, ?d4, ?d5, ?d6, ?d7, ?d8, ?d9, ?d10, ?d11, ?d12, ?d13, ?d14, ?d15, ?d16, ?d17, ?d18, ?d19, ?d20, ?d21, ?d22, ?d23, ?d24, ?d25, ?d26, ?d27, ?d28, ?d29, ?d30, ?d31, ?d32, ?d33, ?d34, ?d35⟩
      (case d0 => (refine' K30.df_mk KX G ?a ?l ?c ?k; (case a => k_is); (case l => k_is); (case c => k_is); (case k => k_is)))
      (case d1 => (refine' K30.df_mk KX G ?a ?l ?c ?k; (case a => k_is); (case l => k_is); (case c => k_is); (case k => k_is)))
      (case d2 => (refine' K30.df_mk KX G ?a ?l ?c ?k; (case a => k_is); (case l => k_is); (case c => k_is); (case k => k_is)))
      (case d3 => (refine' K30.df_mk KX G ?a ?l ?c ?k; (case a => k_is); (case l => k_is); (case c => k_is); (case k => k_is)))
      (case d4 => (refine' K30.df_mk KX G ?a ?l ?c ?k; (case a => k_is); (case l => k_is); (case c => k_is); (case k => k_is)))
      (case d5 => (refine' K30.df_mk KX G ?a ?l ?c ?k; (case a => k_is); (case l => k_is); (case c => k_is); (case k => k_is)))
      (case d6 => (refine' K30.df_mk KX G ?a ?l ?c ?k; (case a => k_is); (case l => k_is); (case c => k_is); (case k => k_is)))
      (case d7 => (refine' K30.df_mk KX G ?a ?l ?c ?k; (case a => k_is); (case l => k_is); (case c => k_is); (case k => k_is)))
      (case d8 => (refine' K30.df_mk KX G ?a ?l ?c ?k; (case a => k_is); (case l => k_is); (case c => k_is); (case k => k_is)))
      (case d9 => (refine' K30.df_mk KX G ?a ?l ?c ?k; (case a => k_is); (case l => k_is); (case c => k_is); (case k => k_is)))
      (case d10 => (refine' K30.df_mk KX G ?a ?l ?c ?k; (case a => k_is); (case l => k_is); (case c => k_is); (case k => k_is)))
      (case d11 => (refine' K30.df_mk KX G ?a ?l ?c ?k; (case a => k_is); (case l => k_is); (case c => k_is); (case k => k_is)))
      (case d12 => (refine' K30.df_mk KX G ?a ?l ?c ?k; (case a => k_is); (case l => k_is); (case c => k_is); (case k => k_is)))
      (case d13 => (refine' K30.df_mk KX G ?a ?l ?c ?k; (case a => k_is); (case l => k_is); (case c => k_is); (case k => k_is)))
      (case d14 => (refine' K30.df_mk KX G ?a ?l ?c ?k; (case a => k_is); (case l => k_is); (case c => k_is); (case k => k_is)))
      (case d15 => (refine' K30.df_mk KX G ?a ?l ?c ?k; (case a => k_is); (case l => k_is); (case c => k_is); (case k => k_is)))
      (case d16 => (refine' K30.df_mk KX G ?a ?l ?c ?k; (case a => k_is); (case l => k_is); (case c => k_is); (case k => k_is)))
      (case d17 => (refine' K30.df_mk KX G ?a ?l ?c ?k; (case a => k_is); (case l => k_is); (case c => k_is); (case k => k_is)))
      (case d18 => (refine' K30.df_mk KX G ?a ?l ?c ?k; (case a => k_is); (case l => k_is); (case c => k_is); (case k => k_is)))
      (case d19 => (refine' K30.df_mk KX G ?a ?l ?c ?k; (case a => k_is); (case l => k_is); (case c => k_is); (case k => k_is)))
      (case d20 => (refine' K30.df_mk KX G ?a ?l ?c ?k; (case a => k_is); (case l => k_is); (case c => k_is); (case k => k_is)))
      (case d21 => (refine' K30.df_mk KX G ?a ?l ?c ?k; (case a => k_is); (case l => k_is); (case c => k_is); (case k => k_is)))
      (case d22 => (refine' K30.df_mk KX G ?a ?l ?c ?k; (case a => k_is); (case l => k_is); (case c => k_is); (case k => k_is)))
      (case d23 => (refine' K30.df_mk KX G ?a ?l ?c ?k; (case a => k_is); (case l => k_is); (case c => k_is); (case k => k_is)))
      (case d24 => (refine' K30.df_mk KX G ?a ?l ?c ?k; (case a => k_is); (case l => k_is); (case c => k_is); (case k => k_is)))
      (case d25 => (refine' K30.df_mk KX G ?a ?l ?c ?k; (case a => k_is); (case l => k_is); (case c => k_is); (case k => k_is)))
      (case d26 => (refine' K30.df_mk KX G ?a ?l ?c ?k; (case a => k_is); (case l => k_is); (case c => k_is); (case k => k_is)))
      (case d27 => (refine' K30.df_mk KX G ?a ?l ?c ?k; (case a => k_is); (case l => k_is); (case c => k_is); (case k => k_is)))
      (case d28 => (refine' K30.df_mk KX G ?a ?l ?c ?k; (case a => k_is); (case l => k_is); (case c => k_is); (case k => k_is)))
      (case d29 => (refine' K30.df_mk KX G ?a ?l ?c ?k; (case a => k_is); (case l => k_is); (case c => k_is); (case k => k_is)))
      (case d30 => (refine' K30.df_mk KX G ?a ?l ?c ?k; (case a => k_is); (case l => k_is); (case c => k_is); (case k => k_is)))
      (case d31 => (refine' K30.df_mk KX G ?a ?l ?c ?k; (case a => k_is); (case l => k_is); (case c => k_is); (case k => k_is)))
      (case d32 => (refine' K30.df_mk KX G ?a ?l ?c ?k; (case a => k_is); (case l => k_is); (case c => k_is); (case k => k_is)))
      (case d33 => (refine' K30.df_mk KX G ?a ?l ?c ?k; (case a => k_is); (case l => k_is); (case c => k_is); (case k => k_is)))
      (case d34 => (refine' K30.df_mk KX G ?a ?l ?c ?k; (case a => k_is); (case l => k_is); (case c => k_is); (case k => k_is)))
      (case d35 => (refine' K30.df_mk KX G ?a ?l ?c ?k; (case a => k_is); (case l => k_is); (case c => k_is); (case k => k_is)))
