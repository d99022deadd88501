import PyProof.Rows.All
import Wide.All
import OpenK.AllK
import Wide.FinOn
import HandS.ForMost
import HandS.Walk
import HandS.IsInst
import HandS.Star
import HandS.Style
import HandS.TupAny
import HandS.TupLe
import HandS.Zip
import HandS.TupSets
import KE.SortData
import KE.KeyNested
import KE.GoesMore
import HandS.Codes
import PySem.Challenge.RW_middlerows_k69_whole_cheapest_rows
set_option Elab.async false
set_option linter.all false
set_option maxRecDepth 100000
set_option maxHeartbeats 4000000
/-! Mr.B: what stands in the abstract heap as data without lists (Dt), kept by whatever keeps the tuples. -/
namespace Mr
open PySem PySem.Spec PyProof.Rows L2

mutual
/-- the value stands for the datum, through tracked tuples alone -/
inductive Dt (H : Hp) : V → PyData → Prop
  | non : Dt H .non .none
  | bl (b : Bool) : Dt H (.bl b) (.bool b)
  | int (i : Int) : Dt H (.int i) (.int i)
  | tup {a : Addr} {xs : List V} {ds : List PyData} : H a = some (.tup xs) → Da H xs ds → Dt H (.ref a) (.tuple ds)
inductive Da (H : Hp) : List V → List PyData → Prop
  | nil : Da H [] []
  | cons {v : V} {vs : List V} {d : PyData} {ds : List PyData} : Dt H v d → Da H vs ds → Da H (v :: vs) (d :: ds)
end

/-- the tuples stay -/
def KT (H H' : Hp) : Prop := ∀ a xs, H a = some (.tup xs) → H' a = some (.tup xs)
theorem KT.rfl' (H : Hp) : KT H H := fun _ _ h => h
theorem KT.trans {H H1 H2 : Hp} (a : KT H H1) (b : KT H1 H2) : KT H H2 := fun c xs h => b c xs (a c xs h)
theorem kt_same {H H' : Hp} (s : Same H H') : KT H H' := fun a xs h => s a _ h
theorem kt_new {H : Hp} {p : Addr} {o : HO} (h : H p = none) : KT H (upd H p o) := fun a xs e => by
  rw [upd_ne (ne_of_none e h)]
  exact e
theorem kt_lst {H : Hp} {p : Addr} {o : HO} {ys : List V} (h : H p = some (.lst ys)) : KT H (upd H p o) := fun a xs e => by
  rw [upd_ne (ne_of e h (by intro z; cases z))]
  exact e
theorem same_new {H : Hp} {p : Addr} {o : HO} (h : H p = none) : Same H (upd H p o) := fun b u e => by
  rw [upd_ne (ne_of_none e h)]
  exact e
/-- what is written is younger than the start -/
theorem same_young {H0 H : Hp} {p : Addr} {o : HO} (s : Same H0 H) (h : H0 p = none) : Same H0 (upd H p o) := fun b u e => by
  rw [upd_ne (ne_of_none e h)]
  exact s b u e

mutual
theorem Dt.keep {H H' : Hp} (k : KT H H') : ∀ (d : PyData) (v : V), Dt H v d → Dt H' v d
  | .none, _, x => by cases x; exact .non
  | .bool _, _, x => by cases x; exact .bl _
  | .int _, _, x => by cases x; exact .int _
  | .tuple ds, _, x => by
    cases x with
    | tup h r => exact .tup (k _ _ h) (Da.keep k ds _ r)
  | .str _, _, x => by cases x
  | .list _, _, x => by cases x
  | .dict _, _, x => by cases x
theorem Da.keep {H H' : Hp} (k : KT H H') : ∀ (ds : List PyData) (vs : List V), Da H vs ds → Da H' vs ds
  | [], _, x => by cases x; exact .nil
  | d :: ds, _, x => by
    cases x with
    | cons h r => exact .cons (Dt.keep k d _ h) (Da.keep k ds _ r)
end
theorem Dt.k {H H' : Hp} {v : V} {d : PyData} (x : Dt H v d) (k : KT H H') : Dt H' v d := Dt.keep k d v x
theorem Da.k {H H' : Hp} {vs : List V} {ds : List PyData} (x : Da H vs ds) (k : KT H H') : Da H' vs ds := Da.keep k ds vs x

theorem Da.length {H : Hp} : ∀ {vs : List V} {ds : List PyData}, Da H vs ds → vs.length = ds.length
  | [], _, x => by cases x; rfl
  | _ :: vs, _, x => by
    cases x with
    | cons _ r => rw [List.length_cons, List.length_cons, r.length]
theorem Da.app {H : Hp} : ∀ {vs ws : List V} {ds es : List PyData}, Da H vs ds → Da H ws es → Da H (vs ++ ws) (ds ++ es)
  | [], _, _, _, x, y => by cases x; exact y
  | _ :: _, _, _, _, x, y => by
    cases x with
    | cons h r => exact .cons h (r.app y)
theorem Da.one {H : Hp} {v : V} {d : PyData} (h : Dt H v d) : Da H [v] [d] := .cons h .nil
theorem Da.snoc {H : Hp} {vs : List V} {ds : List PyData} {v : V} {d : PyData} (x : Da H vs ds) (h : Dt H v d) : Da H (vs ++ [v]) (ds ++ [d]) := x.app (.one h)
theorem Da.get {H : Hp} : ∀ {vs : List V} {ds : List PyData} {i : Nat} {d : PyData}, Da H vs ds → ds[i]? = some d → ∃ v, vs[i]? = some v ∧ Dt H v d
  | [], _, i, _, x, e => by cases x; simp at e
  | v :: vs, _, 0, d, x, e => by
    cases x with
    | cons h r =>
      simp at e
      subst e
      exact ⟨v, rfl, h⟩
  | v :: vs, _, i + 1, d, x, e => by
    cases x with
    | cons h r => exact r.get (i := i) (by simpa using e)
theorem Da.got {H : Hp} : ∀ {vs : List V} {ds : List PyData} {i : Nat} {v : V}, Da H vs ds → vs[i]? = some v → ∃ d, ds[i]? = some d ∧ Dt H v d
  | [], _, i, _, x, e => by simp at e
  | v :: vs, _, 0, w, x, e => by
    cases x with
    | cons h r =>
      simp at e
      subst e
      exact ⟨_, rfl, h⟩
  | v :: vs, _, i + 1, w, x, e => by
    cases x with
    | cons h r => exact r.got (i := i) (by simpa using e)
theorem Da.drop {H : Hp} : ∀ {vs : List V} {ds : List PyData} (n : Nat), Da H vs ds → Da H (vs.drop n) (ds.drop n)
  | _, _, 0, x => x
  | [], _, n + 1, x => by cases x; exact .nil
  | _ :: vs, _, n + 1, x => by
    cases x with
    | cons h r => exact r.drop n
theorem Da.take {H : Hp} : ∀ {vs : List V} {ds : List PyData} (n : Nat), Da H vs ds → Da H (vs.take n) (ds.take n)
  | _, _, 0, x => .nil
  | [], _, n + 1, x => by cases x; exact .nil
  | _ :: vs, _, n + 1, x => by
    cases x with
    | cons h r => exact .cons h (r.take n)

/-! ### the shapes of this program -/
abbrev Row := List Int
abbrev Want := Int × Int
abbrev Rule := Want × Want
def rowD (r : Row) : PyData := .tuple (r.map .int)
def wantD (w : Want) : PyData := .tuple [.int w.1, .int w.2]
def ruleD (r : Rule) : PyData := .tuple [wantD r.1, wantD r.2]
def costD (c : Int × Row) : PyData := .tuple [.int c.1, rowD c.2]

theorem Dt.of_int {H : Hp} {v : V} {i : Int} (x : Dt H v (.int i)) : v = .int i := by cases x; rfl
theorem Da.of_ints {H : Hp} : ∀ {vs : List V} {ns : List Int}, Da H vs (ns.map .int) → vs = ns.map V.int
  | [], [], _ => rfl
  | [], _ :: _, x => nomatch x
  | _ :: _, [], x => nomatch x
  | v :: vs, n :: ns, x => by
    have x' : Da H (v :: vs) (.int n :: ns.map .int) := x
    cases x' with
    | cons h r => rw [h.of_int, r.of_ints]; rfl
theorem Da.ints {H : Hp} : ∀ (ns : List Int), Da H (ns.map V.int) (ns.map .int)
  | [] => .nil
  | n :: ns => .cons (.int n) (Da.ints ns)
theorem Da.of_bools {H : Hp} : ∀ {vs : List V} {ns : List Bool}, Da H vs (ns.map .bool) → vs = ns.map V.bl
  | [], [], _ => rfl
  | [], _ :: _, x => nomatch x
  | _ :: _, [], x => nomatch x
  | v :: vs, n :: ns, x => by
    have x' : Da H (v :: vs) (.bool n :: ns.map .bool) := x
    cases x' with
    | cons h r =>
      have e : v = .bl n := by cases h; rfl
      rw [e, r.of_bools]; rfl
theorem Dt.of_row {H : Hp} {v : V} {r : Row} (x : Dt H v (rowD r)) : ∃ a, v = .ref a ∧ H a = some (.tup (r.map V.int)) := by
  have x' : Dt H v (.tuple (r.map .int)) := x
  cases x' with
  | tup h q => exact ⟨_, rfl, by rw [← q.of_ints]; exact h⟩
theorem Dt.row {H : Hp} {a : Addr} {r : Row} (h : H a = some (.tup (r.map V.int))) : Dt H (.ref a) (rowD r) := .tup h (Da.ints r)
theorem Dt.of_want {H : Hp} {v : V} {w : Want} (x : Dt H v (wantD w)) : ∃ a, v = .ref a ∧ H a = some (.tup [.int w.1, .int w.2]) := by
  have x' : Dt H v (rowD [w.1, w.2]) := x
  exact x'.of_row
theorem Dt.want {H : Hp} {a : Addr} {w : Want} (h : H a = some (.tup [.int w.1, .int w.2])) : Dt H (.ref a) (wantD w) := .tup h (.cons (.int _) (.cons (.int _) .nil))
theorem Dt.of_pair {H : Hp} {v : V} {d e : PyData} (x : Dt H v (.tuple [d, e])) : ∃ a x y, v = .ref a ∧ H a = some (.tup [x, y]) ∧ Dt H x d ∧ Dt H y e := by
  cases x with
  | tup h q =>
    cases q with
    | cons h1 q =>
      cases q with
      | cons h2 q =>
        cases q
        exact ⟨_, _, _, rfl, h, h1, h2⟩
theorem Dt.pair {H : Hp} {a : Addr} {x y : V} {d e : PyData} (h : H a = some (.tup [x, y])) (h1 : Dt H x d) (h2 : Dt H y e) : Dt H (.ref a) (.tuple [d, e]) := .tup h (.cons h1 (.cons h2 .nil))
theorem Dt.of_rule {H : Hp} {v : V} {r : Rule} (x : Dt H v (ruleD r)) :
    ∃ a b c, v = .ref a ∧ H a = some (.tup [.ref b, .ref c]) ∧ H b = some (.tup [.int r.1.1, .int r.1.2]) ∧ H c = some (.tup [.int r.2.1, .int r.2.2]) := by
  obtain ⟨a, x1, x2, rfl, h, h1, h2⟩ := Dt.of_pair x
  obtain ⟨b, rfl, hb⟩ := h1.of_want
  obtain ⟨c, rfl, hc⟩ := h2.of_want
  exact ⟨a, b, c, rfl, h, hb, hc⟩
theorem Dt.rule {H : Hp} {a b c : Addr} {r : Rule} (h : H a = some (.tup [.ref b, .ref c])) (hb : H b = some (.tup [.int r.1.1, .int r.1.2])) (hc : H c = some (.tup [.int r.2.1, .int r.2.2])) : Dt H (.ref a) (ruleD r) :=
  .pair h (.want hb) (.want hc)

/-! ### a list of data at an address -/
def Ls (H : Hp) (a : Addr) (ds : List PyData) : Prop := ∃ xs, H a = some (.lst xs) ∧ Da H xs ds
def Tp (H : Hp) (a : Addr) (ds : List PyData) : Prop := ∃ xs, H a = some (.tup xs) ∧ Da H xs ds
theorem Ls.same {H H' : Hp} {a : Addr} {ds : List PyData} (x : Ls H a ds) (s : Same H H') : Ls H' a ds := let ⟨xs, h, d⟩ := x; ⟨xs, s _ _ h, d.k (kt_same s)⟩
theorem Tp.same {H H' : Hp} {a : Addr} {ds : List PyData} (x : Tp H a ds) (s : Same H H') : Tp H' a ds := let ⟨xs, h, d⟩ := x; ⟨xs, s _ _ h, d.k (kt_same s)⟩
theorem Tp.dt {H : Hp} {a : Addr} {ds : List PyData} (x : Tp H a ds) : Dt H (.ref a) (.tuple ds) := let ⟨_, h, d⟩ := x; .tup h d
theorem Dt.tp {H : Hp} {v : V} {ds : List PyData} (x : Dt H v (.tuple ds)) : ∃ a, v = .ref a ∧ Tp H a ds := by
  cases x with
  | tup h q => exact ⟨_, rfl, _, h, q⟩

/-! ### all but one object stand -/
def But (p : Addr) (H H' : Hp) : Prop := ∀ b o, b ≠ p → H b = some o → H' b = some o
theorem But.rfl' (p : Addr) (H : Hp) : But p H H := fun _ _ _ h => h
theorem But.trans {p : Addr} {H H1 H2 : Hp} (a : But p H H1) (b : But p H1 H2) : But p H H2 := fun c o n h => b c o n (a c o n h)
theorem But.of {p : Addr} {H H' : Hp} (s : Same H H') : But p H H' := fun b o _ h => s b o h
theorem But.upd (p : Addr) (H : Hp) (o : HO) : But p H (upd H p o) := fun b u n h => by rw [upd_ne n]; exact h
theorem But.kt {p : Addr} {H H' : Hp} {ys : List V} (b : But p H H') (h : H p = some (.lst ys)) : KT H H' := fun a xs e => b a _ (ne_of e h (by intro z; cases z)) e
theorem But.none {p : Addr} {H H' : Hp} (b : But p H H') {q : Addr} (n : q ≠ p) (h : H' q = Option.none) : H q = Option.none := by
  cases e : H q with
  | none => rfl
  | some o => rw [b q o n e] at h; cases h
theorem But.ls {p a : Addr} {H H' : Hp} {ys : List V} {ds : List PyData} (b : But p H H') (h : H p = some (.lst ys)) (n : a ≠ p) (x : Ls H a ds) : Ls H' a ds :=
  let ⟨xs, e, d⟩ := x; ⟨xs, b a _ n e, d.k (b.kt h)⟩

/-! ### a comprehension over anything that is walked, its items data -/
theorem da_filter_snoc {β : Type} (p : β → Bool) (f : β → PyData) {bs : List β} {i : Nat} {b : β} (h : bs[i]? = some b) :
    ((bs.take (i + 1)).filter p).map f = if p b = true then ((bs.take i).filter p).map f ++ [f b] else ((bs.take i).filter p).map f := by
  rw [List.take_succ, h]
  show ((bs.take i ++ [b]).filter p).map f = _
  rw [List.filter_append, List.map_append]
  by_cases c : p b = true
  · rw [if_pos c, List.filter_cons_of_pos c]; rfl
  · rw [if_neg c, List.filter_cons_of_neg c]
    simp

theorem lc_dt {J : It} {n : Nat} {G : Hp → Prop} {Y : Nat → Hp → V → Hp → Prop} (w : Walk J n G Y) {β : Type} (bs : List β) (p : β → Bool) (f : β → PyData) {g : TG} {tt : TT} {te : TE} {vs : List Nat} {σ : L2.St} {H1 : Hp} {D : Addr} {Qd : Hp → Prop}
    (hn : n = bs.length) (hz : bs.length < sizeLine) (hD : H1 D = none) (hG : ∀ H, Same H1 H → G H)
    (turn : ∀ (i : Nat) (b : β) (x : V) (H H' : Hp) (Yes : V → Hp → Prop) (No : Hp → Prop), bs[i]? = some b → Same H1 H → Y i H x H' →
      (p b = true → ∀ y H4, Same H H4 → Dt H4 y (f b) → Yes y H4) → (p b = false → ∀ H3, Same H H3 → No H3) →
      g x (wipe σ vs) H' fun σ2 H2 => wipe σ2 vs = wipe σ vs ∧ tt σ2 H2 fun c H3 => if c = true then te σ2 H3 Yes else No H3)
    (hd : ∀ H' ys, Same H1 H' → H' D = some (.lst ys) → Da H' ys ((bs.filter p).map f) → Qd H') :
    ∃ W : Nat → Nat → Hp → Prop, (∃ m, W 0 m (upd H1 D (.lst []))) ∧ ∀ i m H, W i m H →
      (J.stop i H ∧ Qd H) ∨ (J.go i H ∧ ∃ Nx : Hp → Prop, (∀ H', Nx H' → ∃ m', m' < m ∧ W (i + 1) m' H') ∧ ∀ x H', J.yld i H x H' → g x (wipe σ vs) H' fun σ2 H2 => wipe σ2 vs = wipe σ vs ∧ tt σ2 H2 fun b H3 =>
        if b = true then te σ2 H3 fun y H4 => ∃ acc, H4 D = some (.lst acc) ∧ acc.length < sizeLine ∧ Nx (upd H4 D (.lst (acc ++ [y]))) else Nx H3) := by
  subst hn
  refine lc_it w (fun i H => Same H1 H ∧ ∃ ys, H D = some (.lst ys) ∧ Da H ys (((bs.take i).filter p).map f)) ⟨same_new hD, [], upd_same, ?_⟩ (fun i H _ q => hG H q.1) (fun i x H H' hi q y => ?_) (fun H q => ?_)
  · rw [List.take_zero]; exact .nil
  · obtain ⟨s, ys, hy, hd'⟩ := q
    have hb : bs[i]? = some bs[i] := List.getElem?_eq_getElem hi
    refine turn i bs[i] x H H' _ _ hb s y (fun hp y4 H4 s4 d4 => ?_) (fun hp H3 s3 => ?_)
    · have hlen : ys.length < sizeLine := by
        rw [hd'.length, List.length_map]
        refine Nat.lt_of_le_of_lt (List.length_filter_le _ _) (Nat.lt_of_le_of_lt ?_ hz)
        rw [List.length_take]
        exact Nat.min_le_right _ _
      have h4 := s4 D _ hy
      have kt : KT H4 (upd H4 D (.lst (ys ++ [y4]))) := kt_lst h4
      refine ⟨ys, h4, hlen, same_young (s.trans s4) hD, ys ++ [y4], upd_same, ?_⟩
      rw [da_filter_snoc p f hb, if_pos hp]
      exact ((hd'.k (kt_same s4)).snoc d4).k kt
    · refine ⟨s.trans s3, ys, s3 D _ hy, ?_⟩
      rw [da_filter_snoc p f hb, if_neg (by rw [hp]; exact Bool.false_ne_true)]
      exact hd'.k (kt_same s3)
  · obtain ⟨s, ys, hy, hd'⟩ := q
    rw [List.take_length] at hd'
    exact hd H ys s hy hd'

/-- zip of two tuples, walked -/
theorem walk_zipT {K : PySem.W.Frag} {a b : Addr} {xs ys : List V} (hl : xs.length = ys.length) : Walk (RZ.ItzT K a b) xs.length (fun H => SqT K H a xs ∧ SqT K H b ys) (YPair (fun i => xs[i]?) (fun i => ys[i]?)) := by
  refine ⟨fun i _ hi q => ?_, fun _ q => ⟨xs, ys, q.1, q.2, .inl (Nat.le_refl _)⟩, fun i H v H' _ q y => ?_⟩
  · have h2 : i < ys.length := by omega
    exact ⟨xs, ys, xs[i], ys[i], q.1, q.2, by simp [hi], by simp [h2]⟩
  · obtain ⟨T, x, z, h1, h2, h3, h4, h5⟩ := y
    exact ⟨T, x, z, h1, h2, h3, h4 xs q.1, h5 ys q.2⟩
end Mr

/-! Mr.R: rules of the layer that this program wants besides: sorted(list of data), >= of rules. -/
namespace Mr
open PySem PySem.Spec PyProof.Rows L2

mutual
theorem Dt.dp' {K : PySem.W.Frag} {H : Hp} : ∀ (d : PyData) (v : V), Dt H v d → Dp K H v d
  | .none, _, x => by cases x; exact .non
  | .bool _, _, x => by cases x; exact .bl _
  | .int _, _, x => by cases x; exact .int _
  | .tuple ds, _, x => by
    cases x with
    | tup h r => exact .tup (SqT.of h) (Da.dp' ds _ r)
  | .str _, _, x => by cases x
  | .list _, _, x => by cases x
  | .dict _, _, x => by cases x
theorem Da.dp' {K : PySem.W.Frag} {H : Hp} : ∀ (ds : List PyData) (vs : List V), Da H vs ds → DpAll K H vs ds
  | [], _, x => by cases x; exact .nil
  | d :: ds, _, x => by
    cases x with
    | cons h r => exact .cons (Dt.dp' d _ h) (Da.dp' ds _ r)
end
theorem Dt.dp {K : PySem.W.Frag} {H : Hp} {v : V} {d : PyData} (x : Dt H v d) : Dp K H v d := Dt.dp' d v x
theorem Da.dp {K : PySem.W.Frag} {H : Hp} {vs : List V} {ds : List PyData} (x : Da H vs ds) : DpAll K H vs ds := Da.dp' ds vs x
theorem Ls.dp {K : PySem.W.Frag} {H : Hp} {a : Addr} {ds : List PyData} (x : Ls H a ds) : Dp K H (.ref a) (.list ds) := let ⟨_, h, d⟩ := x; .lst (SqL.of h) d.dp

/-! ### sorted of a list of data -/
section
variable {X : Cx}
/-- an item by its abstract value -/
def Ab {β : Type} (enc : β → PyData) (H : Hp) (u : Value) (b : β) : Prop := ∃ x, RelV x u ∧ Dt H x (enc b)
theorem ab_of {β : Type} {enc : β → PyData} {H : Hp} : ∀ {xs : List V} {us : List Value} {bs : List β}, Vals xs us → Da H xs (bs.map enc) → PySem.W.EachIs (Ab enc H) us bs
  | _, _, [], .nil, _ => .nil
  | _, _, b :: bs, .nil, d => nomatch (show Da H [] (enc b :: bs.map enc) from d)
  | _, _, [], .cons r t, d => nomatch (show Da H (_ :: _) [] from d)
  | _, _, b :: bs, .cons r t, d => by
    have d' : Da H (_ :: _) (enc b :: bs.map enc) := d
    cases d' with
    | cons h q => exact .cons ⟨_, r, h⟩ (ab_of t q)
theorem of_ab {β : Type} {enc : β → PyData} {H : Hp} : ∀ {us : List Value} {bs : List β}, PySem.W.EachIs (Ab enc H) us bs → ∃ xs, Vals xs us ∧ Da H xs (bs.map enc)
  | _, _, .nil => ⟨[], .nil, .nil⟩
  | _, _, .cons ⟨x, r, h⟩ t => by
    obtain ⟨xs, q1, q2⟩ := of_ab t
    exact ⟨x :: xs, .cons r q1, .cons h q2⟩
/-- sorted(xs), xs a list of data: a new list of the same items, in Python's order -/
def rSortDt {β : Type} (enc : β → PyData) : List V → Hp → VK → Prop := fun vs H Q => ∃ (a : Addr) (bs : List β), vs = [V.ref a] ∧ Ls H a (bs.map enc) ∧ PySem.W.AllAlike (bs.map enc) ∧ PySem.W.Sortable (bs.map enc) ∧ (∀ b, b ∈ bs → (enc b).depth ≤ 8) ∧
  ∀ (xs : List V) (p : Addr), Da H xs ((bs.mergeSort (PySem.W.dataLe false enc)).map enc) → H p = none → Q (.ref p) (upd H p (.lst xs))
theorem cr_sortDt {β : Type} {enc : β → PyData} (hu : X.A.units + 64 < cLine) : CallR X (.builtin "sorted") (rSortDt enc) := by
  intro pins s σ H vs us Q I r h
  obtain ⟨a, bs, rfl, ⟨xs, ha, hd⟩, hal, hk, hdep, q⟩ := h
  obtain ⟨its, rv, hl, hz⟩ := I.list (SqL.of ha)
  rw [Vals.ref1 r]
  have hlen : bs.length = xs.length := by rw [hd.length, List.length_map]
  have e := ab_of rv hd
  refine PySem.W.sorted_data (R := Ab enc H) (enc := enc) (bs := bs) hl.isList e (e.mono fun u b ⟨x, rx, hx⟩ => Dp.reads I (enc b) x u hx.dp rx) hal hk (by rw [hlen]; exact hz) (fun b hb => by have := hdep b hb; omega) fun out ho eo => ?_
  obtain ⟨ys, r1, r2⟩ := of_ab eo
  obtain ⟨ep, he'⟩ := PyProof.Rows.sortedAll_at s.heap its out.toArray
  have hly : ys.length ≤ sizeLine := by
    rw [r1.length, ho, hlen]
    exact hz
  exact ⟨.ref _, upd H (s.heap.objs.size + 1) (.lst ys), I.laid (t' := s.toks) (fun _ _ => PyProof.Rows.sortedAll_old) (Nat.le_succ _) ⟨hly, out, ep, r1, he'⟩, rfl, q ys _ r2 (I.hok.fresh (Nat.le_succ _))⟩

/-! ### >= of two rules -/
/-- a want's number, a rule's number: the order of the tuples, for places below 8 and values 0, 1 -/
def wcode (w : Want) : Int := w.1 * 2 + w.2
def rcode (r : Rule) : Int := wcode r.1 * 16 + wcode r.2
def WOk (w : Want) : Prop := 0 ≤ w.1 ∧ w.1 < 8 ∧ (w.2 = 0 ∨ w.2 = 1)
def ROk (r : Rule) : Prop := WOk r.1 ∧ WOk r.2
theorem wcode_bd {w : Want} (h : WOk w) : 0 ≤ wcode w ∧ wcode w < 16 := by
  obtain ⟨a, b, c⟩ := h
  unfold wcode
  omega
theorem wcode_inj {w u : Want} (h : WOk w) (k : WOk u) (e : wcode w = wcode u) : w = u := by
  obtain ⟨p, v⟩ := w
  obtain ⟨q, z⟩ := u
  obtain ⟨a, b, c⟩ := h
  obtain ⟨a', b', c'⟩ := k
  unfold wcode at e
  simp only at a b c a' b' c' e
  have e1 : p = q := by omega
  have e2 : v = z := by omega
  rw [e1, e2]
theorem rcode_inj {r t : Rule} (h : ROk r) (k : ROk t) (e : rcode r = rcode t) : r = t := by
  obtain ⟨w, u⟩ := r
  obtain ⟨w', u'⟩ := t
  have b1 := wcode_bd h.1
  have b2 := wcode_bd h.2
  have b3 := wcode_bd k.1
  have b4 := wcode_bd k.2
  unfold rcode at e
  simp only at b1 b2 b3 b4 e
  have e1 : w = w' := wcode_inj h.1 k.1 (by omega)
  have e2 : u = u' := wcode_inj h.2 k.2 (by omega)
  rw [e1, e2]
theorem Inv.want_raw {pins : List (Addr × Obj)} {σ : L2.St} {H : Hp} {s : Shared} (I : Inv X pins σ H s) {b : Addr} {w : Want} (h : H b = some (.tup [.int w.1, .int w.2])) :
    ∃ t1 t2, s.heap.IsTuple b #[.int w.1 t1, .int w.2 t2] := by
  obtain ⟨its, rv, p, _⟩ := I.tuple (SqT.of h)
  cases rv with
  | cons r1 rv =>
    cases rv with
    | cons r2 rv =>
      cases rv
      obtain ⟨t1, rfl⟩ := r1
      obtain ⟨t2, rfl⟩ := r2
      exact ⟨t1, t2, p⟩
theorem want_eqAt {A : Around} {s : Shared} {b c : Addr} {w u : Want} {t1 t2 t3 t4 : Tok} (h : s.heap.IsTuple b #[.int w.1 t1, .int w.2 t2]) (k : s.heap.IsTuple c #[.int u.1 t3, .int u.2 t4]) (hu : A.units + 1 < cLine) :
    SeqAt.EqAt A s (.ref b) (.ref c) (decide (w = u)) := by
  obtain ⟨o, ho, hc, n, hd⟩ := h
  obtain ⟨o', ho', hc', n', hd'⟩ := k
  have x : NestedIs s.heap (.tup [.num w.1, .num w.2]) (.ref b) := .tup ho hc hd (.cons (.int _ _) (.cons (.int _ _) .nil))
  have y : NestedIs s.heap (.tup [.num u.1, .num u.2]) (.ref c) := .tup ho' hc' hd' (.cons (.int _ _) (.cons (.int _ _) .nil))
  refine (eqAt_key _ _ A s _ _ x y (by simp [NestedKey.depth, NestedKey.depthAll]; omega)).cast ?_
  rw [← NestedKey.decide_eq]
  refine decide_eq_decide.mpr ⟨fun e => ?_, fun e => by rw [e]⟩
  injection e with e
  injection e with e1 e
  injection e with e2 _
  injection e1 with e1
  injection e2 with e2
  exact Prod.ext e1 e2
theorem want_ge {A : Around} {s : Shared} {b c : Addr} {w u : Want} {t1 t2 t3 t4 : Tok} (hw : WOk w) (hu' : WOk u) (h : s.heap.IsTuple b #[.int w.1 t1, .int w.2 t2]) (k : s.heap.IsTuple c #[.int u.1 t3, .int u.2 t4]) (hu : A.units < cLine) :
    Ob.RcOp .GtE A s (.ref b) (.ref c) (decide (wcode u ≤ wcode w)) := by
  have R := Ob.RcOp.tuples_ge (A := A) (s := s) (e := fun j => if j = 0 then decide (w.1 = u.1) else decide (w.2 = u.2)) (r := fun j => if j = 0 then decide (u.1 ≤ w.1) else decide (u.2 ≤ w.2)) h k hu (fun j h1 h2 => by
      have hj : j < 2 := h1
      rcases (show j = 0 ∨ j = 1 by omega) with e | e
      · subst e
        exact (SeqAt.EqAt.int_int w.1 t1 u.1 t3).cast (Bool.beq_eq_decide_eq _ _)
      · subst e
        exact (SeqAt.EqAt.int_int w.2 t2 u.2 t4).cast (Bool.beq_eq_decide_eq _ _)) (fun j h1 h2 _ => by
      have hj : j < 2 := h1
      rcases (show j = 0 ∨ j = 1 by omega) with e | e
      · subst e
        exact Ob.RcOp.ge_int w.1 u.1 t1 t3
      · subst e
        exact Ob.RcOp.ge_int w.2 u.2 t2 t4)
  have e : Ob.lexAt (fun j => if j = 0 then decide (w.1 = u.1) else decide (w.2 = u.2)) (fun j => if j = 0 then decide (u.1 ≤ w.1) else decide (u.2 ≤ w.2)) (decide ((#[.int w.1 t1, .int w.2 t2] : Array Value).size ≥ (#[.int u.1 t3, .int u.2 t4] : Array Value).size)) 0 (min (#[.int w.1 t1, .int w.2 t2] : Array Value).size (#[.int u.1 t3, .int u.2 t4] : Array Value).size) = decide (wcode u ≤ wcode w) := by
    show Ob.lexAt _ _ _ 0 2 = _
    simp only [Ob.lexAt]
    obtain ⟨a, b, c⟩ := hw
    obtain ⟨a', b', c'⟩ := hu'
    unfold wcode
    by_cases e1 : w.1 = u.1
    · simp only [e1, decide_true, if_true]
      by_cases e2 : w.2 = u.2
      · simp [e2]
      · simp [e2]
    · simp [e1]
      omega
  rw [e] at R
  exact R
def rGeR : R2 := fun x y H Q => ∃ r t : Rule, Dt H x (ruleD r) ∧ Dt H y (ruleD t) ∧ ROk r ∧ ROk t ∧ Q (.bl (decide (rcode t ≤ rcode r))) H
theorem op_geR (hu : X.A.units + 64 < cLine) : OpR X (compareOp .GtE) rGeR := by
  intro pins s σ H x y v u Q I rx ry h
  obtain ⟨r, t, h1, h2, o1, o2, q⟩ := h
  obtain ⟨a, b, c, rfl, ha, hb, hc⟩ := h1.of_rule
  obtain ⟨a', b', c', rfl, ha', hb', hc'⟩ := h2.of_rule
  cases rx
  cases ry
  obtain ⟨_, _, pb⟩ := Inv.want_raw I hb
  obtain ⟨_, _, pc⟩ := Inv.want_raw I hc
  obtain ⟨_, _, pb'⟩ := Inv.want_raw I hb'
  obtain ⟨_, _, pc'⟩ := Inv.want_raw I hc'
  obtain ⟨its, rv, p, _⟩ := I.tuple (SqT.of ha)
  obtain ⟨its', rv', p', _⟩ := I.tuple (SqT.of ha')
  have ei : its = [.ref b, .ref c] := by
    cases rv with
    | cons r1 rv =>
      cases rv with
      | cons r2 rv =>
        cases rv
        cases r1
        cases r2
        rfl
  have ei' : its' = [.ref b', .ref c'] := by
    cases rv' with
    | cons r1 rv =>
      cases rv with
      | cons r2 rv =>
        cases rv
        cases r1
        cases r2
        rfl
  subst ei ei'
  have hu1 : X.A.in1.units + 1 < cLine := by rw [Around.in1_units]; omega
  have R := Ob.RcOp.tuples_ge (A := X.A) (s := s) (e := fun j => if j = 0 then decide (r.1 = t.1) else decide (r.2 = t.2)) (r := fun j => if j = 0 then decide (wcode t.1 ≤ wcode r.1) else decide (wcode t.2 ≤ wcode r.2)) p p' (by omega) (fun j h1 h2 => by
      have hj : j < 2 := h1
      rcases (show j = 0 ∨ j = 1 by omega) with e | e
      · subst e
        exact want_eqAt pb pb' hu1
      · subst e
        exact want_eqAt pc pc' hu1) (fun j h1 h2 _ => by
      have hj : j < 2 := h1
      rcases (show j = 0 ∨ j = 1 by omega) with e | e
      · subst e
        exact want_ge o1.1 o2.1 pb pb' (by omega)
      · subst e
        exact want_ge o1.2 o2.2 pc pc' (by omega))
  have e : Ob.lexAt (fun j => if j = 0 then decide (r.1 = t.1) else decide (r.2 = t.2)) (fun j => if j = 0 then decide (wcode t.1 ≤ wcode r.1) else decide (wcode t.2 ≤ wcode r.2)) (decide ((List.toArray [Value.ref b, .ref c]).size ≥ (List.toArray [Value.ref b', .ref c']).size)) 0 (min (List.toArray [Value.ref b, .ref c]).size (List.toArray [Value.ref b', .ref c']).size) = decide (rcode t ≤ rcode r) := by
    show Ob.lexAt _ _ _ 0 2 = _
    simp only [Ob.lexAt]
    have b1 := wcode_bd o1.1
    have b2 := wcode_bd o1.2
    have b3 := wcode_bd o2.1
    have b4 := wcode_bd o2.2
    unfold rcode
    by_cases e1 : r.1 = t.1
    · simp only [e1, decide_true, if_true]
      by_cases e2 : r.2 = t.2
      · simp [e2]
      · simp [e2]
    · have n1 : wcode r.1 ≠ wcode t.1 := fun z => e1 (wcode_inj o1.1 o2.1 z)
      simp [e1]
      omega
  rw [e] at R
  have z : wpAny (model X.prog X.w) X.A (compareOp .GtE (.ref a) (.ref a')) (EP X pins σ Q) X.xe s := R X.prog X.w X.xe (EP X pins σ Q) ⟨.bl _, H, I, rfl, q⟩
  exact z
end
end Mr

/-! Mr.E: for i, x in enumerate(t), t a tracked tuple. -/
namespace Mr
open PySem PySem.Spec PyProof.Rows L2

/-- enumerate(v) lays v's iterator and the enumerate object -/
theorem enum_new {v : Value} {o : Obj} {G : Heap → Prop} (B : Begins v o G) :
    Meets (Builtin.«enumerate.__new__» ⟨[.type "enumerate", v], []⟩) (fun _ R s => G s.heap ∧
      R (.ok (.ret (.ref (s.heap.push o).objs.size))) { s with heap := (s.heap.push o).push { cls := .type "enumerate", data := .fields #[.none, .bool false, .ref s.heap.objs.size, rawInt 0, .none, .none] } }) :=
  .of_wp fun prog w A R s hh => by
    obtain ⟨hp, gn, dr, tk, os⟩ := s
    obtain ⟨hg, hr⟩ := hh
    have isEnum := sub_enumerate
    have it1 : ∀ {A' : Around} {Ex : Value → Shared → Prop} {Q : Value → Shared → Prop}, Q (.ref hp.objs.size) ⟨hp.push o, gn, dr, tk, os⟩ → wpAny (model prog w) A' (pyIter v) Q Ex ⟨hp, gn, dr, tk, os⟩ := fun q => B.iter prog w _ _ ⟨hp, gn, dr, tk, os⟩ _ hg q
    wp_walk using it1
    refine wpAny_stack_any fun stk => wpAny_pure ?_
    split
    · rename_i cl _ _ _ _ _
      cases (cl == Value.type "enumerate") <;> (wp_walk using it1; exact ⟨_, rfl, hr⟩)
    · wp_walk using it1
      exact ⟨_, rfl, hr⟩
theorem call_enum {prog : Program} {w : World} {A : Around} {E : Value → Shared → Prop} {s : Shared} {v : Value} {o : Obj} {G : Heap → Prop} {Q : Value → Shared → Prop} (B : Begins v o G) (hg : G s.heap)
    (hq : ∀ h', IsEnum h' (s.heap.objs.size + 1) s.heap.objs.size 0 .none → h'.get? s.heap.objs.size = some o → (∀ b u, s.heap.get? b = some u → h'.get? b = some u) → Q (.ref (s.heap.objs.size + 1)) { s with heap := h' }) :
    wpAny (model prog w) A (call (.type "enumerate") [v]) Q E s := by
  refine callType_new F.called_enumerate (by decide) (F.typeCall_enumerate_1 _) (F.newCall_enumerate_1 _) (fun x => F.args_object_init_2 x _) F.entry_enumerate_new (enum_new B) ⟨hg, ?_⟩
  have sz : (s.heap.push o).objs.size = s.heap.objs.size + 1 := Heap.size_push ..
  show _ ∧ _
  rw [sz]
  have he : IsEnum ((s.heap.push o).push { cls := .type "enumerate", data := .fields #[.none, .bool false, .ref s.heap.objs.size, rawInt 0, .none, .none] }) (s.heap.objs.size + 1) s.heap.objs.size 0 .none := by
    have q := Heap.get?_push_size (s.heap.push o) (o := { cls := .type "enumerate", data := .fields #[.none, .bool false, .ref s.heap.objs.size, rawInt 0, .none, .none] }) rfl
    rwa [sz] at q
  exact ⟨⟨_, he, rfl⟩, hq _ he (Heap.get?_push_of_some _ (Heap.get?_push_size _ B.free)) fun b u e => Heap.get?_push_of_some _ (Heap.get?_push_of_some _ e)⟩

/-- the tracked tuple at a, each item with its number in a new pair -/
def IteT (a : Addr) : It :=
  ⟨fun i H => ∃ (xs : List V) (x : V), H a = some (.tup xs) ∧ xs[i]? = some x, fun i H v H' => ∃ T x xs, v = .ref T ∧ H T = none ∧ H' = upd H T (.tup [.int (i : Nat), x]) ∧ H a = some (.tup xs) ∧ xs[i]? = some x,
    fun i H => ∃ xs : List V, H a = some (.tup xs) ∧ xs.length = i⟩
theorem turn_enumT {P : Program} {w : World} {K : PySem.W.Frag} {elts : List Expr} {kk : Nat} {tpos : Pos} (a e it : Addr) :
    Turn P w K (.Tuple elts kk tpos) (IteT a) [e, it] e (fun i h => (∃ old, IsEnum h e it ((i : Nat) : Int) old) ∧ h.IsTupleIter it a i ∧ e ≠ it) where
  mem := List.mem_cons_self
  obj := fun i h st b hb => by
    obtain ⟨⟨old, he⟩, ⟨o, ho, hc, hd⟩, _⟩ := st
    rcases List.mem_cons.mp hb with z | z
    · subst z
      exact ⟨_, he, fun v q => nomatch q⟩
    · rw [List.mem_singleton.mp z]
      exact ⟨o, ho, fun v q => by rw [hd] at q; cases q⟩
  keep := fun i h h' st k => ⟨st.1.elim fun old he => ⟨old, k e List.mem_cons_self _ he⟩, st.2.1.at fun o q => k it (List.mem_cons_of_mem _ List.mem_cons_self) o q, st.2.2⟩
  item := by
    intro X hP hw hK hc i pins s σ H E I hf st hg
    subst hP hw hK
    obtain ⟨⟨old, he⟩, hit, hne⟩ := st
    obtain ⟨xs, x, hq, hx⟩ := hg
    obtain ⟨its, rv, p, hz⟩ := I.tuple (SqT.of hq)
    obtain ⟨u, hu, ru⟩ := rv.get hx
    have fe := (hf e List.mem_cons_self).1
    have fi := (hf it (List.mem_cons_of_mem _ List.mem_cons_self)).1
    have ae : a ≠ e := ne_of_none hq fe
    have ai : a ≠ it := ne_of_none hq fi
    have le : e < s.heap.objs.size := Heap.lt_size he
    have li : it < s.heap.objs.size := by
      obtain ⟨_, q, _⟩ := hit
      exact Heap.lt_size q
    have len : i < its.toArray.size := by
      rw [List.size_toArray]
      exact (List.getElem?_eq_some_iff.mp hu).1
    refine wpAny_pyNext_enum_itemD (Draws.tuple (prog := X.prog) (w := X.w) (A := X.A.in1) (by show X.A.in1.handled = none; exact I.ok.hd hc) it a ai its.toArray) he ⟨hit, p⟩ len hne (fun m => ?_) fun y h' tk py ho st' hT hsz hk => ?_
    · rcases List.mem_cons.mp m with z | z
      · exact hne z
      · exact ae (List.mem_singleton.mp z).symm
    have ey : y = u := Option.some.inj (py.symm.trans (by simpa using hu))
    subst ey
    refine ⟨_, rfl, wpAny_letOwnedTupleGo_enum (s := { s with heap := h', toks := tk + 1 }) ho fun h2 he2 sb => ?_⟩
    have hT2 := (sb.2 _ (Nat.ne_of_gt le)).trans hT
    have new : ObjOk X.prog X.w (upd H s.heap.objs.size (.tup [.int (i : Nat), x])) h2 s.heap.objs.size (.tup [.int (i : Nat), x]) :=
      ⟨by show 2 ≤ sizeLine; decide, [.int i tk, y], .cons ⟨_, rfl⟩ (.cons ru .nil), ⟨_, hT2, rfl, _, rfl⟩⟩
    have I1 : Inv X pins σ (upd H s.heap.objs.size (.tup [.int (i : Nat), x])) { s with heap := h2, toks := tk + 1 } :=
      I.turnedNew (ch := [e, it]) (fun b ob hb q => (sb.2 b (fun z => hb (z ▸ List.mem_cons_self))).trans (hk b ob (fun z => hb (z ▸ List.mem_cons_self)) (fun z => hb (z ▸ List.mem_cons_of_mem _ List.mem_cons_self)) q)) hf (Nat.le_refl _) new
    refine ⟨.ref s.heap.objs.size, _, I1, rfl, ⟨_, x, xs, rfl, I.hok.fresh (Nat.le_refl _), rfl, hq, hx⟩, ⟨⟨y, ?_⟩, st'.1.at fun o q => (sb.2 it (Ne.symm hne)).trans q, hne⟩, fun b hb => ?_⟩
    · rw [show ((i + 1 : Nat) : Int) = (i : Int) + 1 by omega]
      exact he2
    · have lb : b < s.heap.objs.size := by
        rcases List.mem_cons.mp hb with z | z
        · rw [z]; exact le
        · rw [List.mem_singleton.mp z]; exact li
      rw [upd_ne (Nat.ne_of_lt lb)]
      exact (hf b hb).1
  done := by
    intro X hP hw hK hc i pins s σ H E I hf st hg
    subst hP hw hK
    obtain ⟨⟨old, he⟩, hit, hne⟩ := st
    obtain ⟨xs, hq, hx⟩ := hg
    obtain ⟨its, rv, p, hz⟩ := I.tuple (SqT.of hq)
    obtain ⟨f0, f1, f2, f3, f4, f5⟩ := hf it (List.mem_cons_of_mem _ List.mem_cons_self)
    have ai : a ≠ it := ne_of_none hq f0
    have len : its.toArray.size = i := by
      rw [List.size_toArray, ← rv.length]
      exact hx
    subst len
    exact wpAny_pyNext_enum_endD (Draws.tuple (prog := X.prog) (w := X.w) (A := X.A.in1) (by show X.A.in1.handled = none; exact I.ok.hd hc) it a ai its.toArray) he ⟨hit, p⟩ fun h' eb => ⟨rfl, I.turned (t' := s.toks) (fun b o hb q => eb b o hb q) f0 f1 f3 f4 f5⟩
  self := fun A i s Q E st h => st.1.elim fun old he => wpAny_pyIter_enum he h
def iEnumT (ta : TA) : TI := fun σ H R => ta σ H fun vs H1 => ∃ a xs, vs = [.ref a] ∧ H1 a = some (.tup xs) ∧ R (IteT a) H1
theorem pi_enumT {X : Cx} {e : Expr} {ta : TA} {p pos tpos : Pos} {elts : List Expr} {kk : Nat} (hg : Gl X "enumerate") (hm : X.mg "enumerate" = none) (ha : PA X [e] ta) (hs : starEach [e] X.env = [(false, eval e X.env)] := by rfl) :
    PI X (.Tuple elts kk tpos) (.Call (.Name "enumerate" p) [e] [] pos) (iEnumT ta) := by
  refine ⟨fun pins s σ H R I h => ?_⟩
  refine Call_ (ld_blt I hg hm boot_enumerate (PyProof.Rows.callWith_type1 (thn (ha.run pos pins s σ H _ I h) fun us s1 ⟨vs, H1, I1, r1, a, xs, ex, hq, q⟩ => ?_) hs rfl))
  subst ex
  rw [Vals.ref1 r1]
  obtain ⟨its, rv, pt, hz⟩ := I1.tuple (SqT.of hq)
  refine call_enum (begins_tuple a its.toArray) pt fun h' he hit hk => wpAny_pyIter_enum he ?_
  have I2 : Inv X pins σ H1 { s1 with heap := h' } := I1.kept (t' := s1.toks) hk
  refine ⟨s1.heap.objs.size + 1, [s1.heap.objs.size + 1, s1.heap.objs.size], _, _, H1, rfl, I2, turn_enumT a (s1.heap.objs.size + 1) s1.heap.objs.size, ⟨⟨.none, he⟩, ⟨_, hit, rfl, rfl⟩, Nat.succ_ne_self _⟩, fun b hb => ?_, q⟩
  have lb : s1.heap.objs.size ≤ b := by
    rcases List.mem_cons.mp hb with z | z
    · rw [z]; exact Nat.le_succ _
    · rw [List.mem_singleton.mp z]; exact Nat.le_refl _
  exact I1.fpOk lb (I1.hok.fresh lb)
theorem walk_enumT {a : Addr} {xs : List V} : Walk (IteT a) xs.length (fun H => H a = some (.tup xs)) (YPair (fun i => some (.int (i : Nat))) (fun i => xs[i]?)) := by
  refine ⟨fun i _ hi q => ⟨xs, xs[i], q, List.getElem?_eq_getElem hi⟩, fun _ q => ⟨xs, q, rfl⟩, fun i H v H' _ q y => ?_⟩
  obtain ⟨T, x, ys, h1, h2, h3, h4, h5⟩ := y
  have e : ys = xs := by
    have z := h4.symm.trans q
    injection z with z
    injection z
  subst e
  exact ⟨T, .int (i : Nat), x, h1, h2, h3, rfl, h5⟩
end Mr

/-! Mr.S: set(xs) and sorted(set), the items rules: tuples of two tuples of two ints. The table's own theory (TabOk, go_spec, relaid_ok) is HandS.TupSets'. -/
namespace Mr
open PySem PySem.Spec PyProof.Rows L2

/-! ### a rule as a key -/
def kR (r : Rule) : NestedKey := .tup [.tup [.num r.1.1, .num r.1.2], .tup [.num r.2.1, .num r.2.2]]
theorem kR_inj {r t : Rule} (e : kR r = kR t) : r = t := by
  obtain ⟨⟨a, b⟩, c, d⟩ := r
  obtain ⟨⟨a', b'⟩, c', d'⟩ := t
  simp only [kR, NestedKey.tup.injEq, List.cons.injEq, NestedKey.num.injEq, and_true] at e
  obtain ⟨⟨rfl, rfl⟩, rfl, rfl⟩ := e
  rfl
def hR (w : World) (r : Rule) : Int := (kR r).hash w
/-- at a the tuple of the tuples of the rule's ints -/
def IsR (h : Heap) (r : Rule) (a : Addr) : Prop := ∃ b c t1 t2 t3 t4, h.IsTuple a #[.ref b, .ref c] ∧ h.IsTuple b #[.int r.1.1 t1, .int r.1.2 t2] ∧ h.IsTuple c #[.int r.2.1 t3, .int r.2.2 t4]
theorem IsR.n {h : Heap} {r : Rule} {a : Addr} (x : IsR h r a) : NestedIs h (kR r) (.ref a) := by
  obtain ⟨b, c, t1, t2, t3, t4, ⟨o, ho, hc, n, hd⟩, ⟨o', ho', hc', n', hd'⟩, ⟨o2, ho2, hc2, n2, hd2⟩⟩ := x
  exact .tup ho hc hd (.cons (.tup ho' hc' hd' (.cons (.int _ _) (.cons (.int _ _) .nil))) (.cons (.tup ho2 hc2 hd2 (.cons (.int _ _) (.cons (.int _ _) .nil))) .nil))
theorem IsR.reads {h : Heap} {r : Rule} {a : Addr} (x : IsR h r a) : Reads h (.ref a) (ruleD r) [] := by
  obtain ⟨b, c, t1, t2, t3, t4, ⟨o, ho, hc, n, hd⟩, ⟨o', ho', hc', n', hd'⟩, ⟨o2, ho2, hc2, n2, hd2⟩⟩ := x
  have two : ∀ (i j : Int) (t u : Tok), ReadsAll h [.int i t, .int j u] [.int i, .int j] [] := fun i j t u => ReadsAll.cons (as := []) (bs := []) (.int i t) (ReadsAll.cons (as := []) (bs := []) (.int j u) .nil)
  exact .tuple ho hc hd (ReadsAll.cons (as := []) (bs := []) (.tuple ho' hc' hd' (two _ _ _ _)) (ReadsAll.cons (as := []) (bs := []) (.tuple ho2 hc2 hd2 (two _ _ _ _)) .nil))
theorem IsR.inj {h : Heap} {r t : Rule} {a : Addr} (x : IsR h r a) (y : IsR h t a) : r = t := kR_inj (NestedIs.inj _ _ _ x.n y.n)
theorem IsR.stay {h h' : Heap} {r : Rule} {a : Addr} (x : IsR h r a) (k : ∀ b o vs n, h.get? b = some o → o.data = .seq vs n → h'.get? b = some o) : IsR h' r a := by
  obtain ⟨b, c, t1, t2, t3, t4, ⟨o, ho, hc, n, hd⟩, ⟨o', ho', hc', n', hd'⟩, ⟨o2, ho2, hc2, n2, hd2⟩⟩ := x
  exact ⟨b, c, t1, t2, t3, t4, ⟨o, k _ _ _ _ ho hd, hc, n, hd⟩, ⟨o', k _ _ _ _ ho' hd', hc', n', hd'⟩, ⟨o2, k _ _ _ _ ho2 hd2, hc2, n2, hd2⟩⟩
theorem IsR.keep {h h' : Heap} {r : Rule} {a : Addr} (x : IsR h r a) (k : ∀ b o, h.get? b = some o → h'.get? b = some o) : IsR h' r a := x.stay fun b o _ _ e _ => k b o e
theorem kR_depth (r : Rule) : (kR r).depth = 2 := by simp [kR, NestedKey.depth, NestedKey.depthAll]

section
variable {P : Program} {w : World} {A : Around} {E : Value → Shared → Prop} {s : Shared}
/-- asked at depth n: no class statement within -/
def Cl (P : Program) (w : World) (n : Nat) (s : Shared) (v : Value) : Prop := ∀ (A : Around) (E : Value → Shared → Prop) (Q : Bool → Shared → Prop), Q false s → wpAny (model P w) A (ofAClassStatement n v) Q E s
/-- .. its hash comes from its value -/
def Hb (P : Program) (w : World) (n : Nat) (s : Shared) (v : Value) : Prop := ∀ (A : Around) (E : Value → Shared → Prop) (Q : Bool → Shared → Prop), Q true s → wpAny (model P w) A (hashByValue n v) Q E s
theorem cl_num {n : Nat} {i : Int} {v : Value} (x : NestedIs s.heap (.num i) v) : Cl P w n s v := fun A E Q q => by
  cases x with
  | bool _ => rw [show ofAClassStatement n (.bool _) = pure false by cases n <;> rfl]; exact wpAny_pure q
  | int _ t => rw [show ofAClassStatement n (.int _ t) = pure false by cases n <;> rfl]; exact wpAny_pure q
theorem hb_num {n : Nat} {i : Int} {v : Value} (x : NestedIs s.heap (.num i) v) : Hb P w n s v := fun A E Q q => by
  cases x with
  | bool _ => rw [show hashByValue n (.bool _) = pure true by cases n <;> rfl]; exact wpAny_pure q
  | int _ t => rw [show hashByValue n (.int _ t) = pure true by cases n <;> rfl]; exact wpAny_pure q
theorem cl_tup {n : Nat} {a : Addr} {o : Obj} {vs : Array Value} {m : Nat} (ho : s.heap.get? a = some o) (hc : o.cls = .type "tuple") (hd : o.data = .seq vs m) (q : ∀ v ∈ vs.toList, Cl P w n s v) : Cl P w (n + 1) s (.ref a) := fun A E Q hq => by
  unfold ofAClassStatement
  refine wpAny_bind (wpAny_typeOf ⟨o, ho, hc⟩ ?_)
  dsimp only
  simp only [show (("tuple" : String) == "tuple") = true by decide, if_true, Bool.not_true, Bool.false_eq_true, if_false]
  try refine wpAny_bind (wpAny_pure ?_)
  try simp only [Bool.not_true, Bool.false_eq_true, if_false]
  show wpAny _ _ (seqItems? (.ref a) >>= _) _ _ s
  refine wpAny_bind (wpAny_seqItems ho hd ?_)
  dsimp only
  refine wpAny_bind ?_
  show wpAny _ _ (forIn vs _ _) _ _ s
  rw [← Array.forIn_toList]
  refine wpAny_forIn_list _ (fun left r s' => r.1 = none ∧ s' = s ∧ ∀ v ∈ left, Cl P w n s v) _ ?_ ?_ _ _ ⟨rfl, rfl, q⟩
  · rintro v left r s' ⟨hr, rfl, all⟩
    refine wpAny_bind (all v List.mem_cons_self _ _ _ ?_)
    rw [if_neg Bool.false_ne_true]
    exact wpAny_pure ⟨rfl, rfl, fun u m => all u (List.mem_cons_of_mem _ m)⟩
  · rintro ⟨r1, r2⟩ s' ⟨hr, rfl, _⟩
    obtain rfl : r1 = none := hr
    exact wpAny_pure hq
theorem hb_tup {n : Nat} {a : Addr} {o : Obj} {vs : Array Value} {m : Nat} (ho : s.heap.get? a = some o) (hc : o.cls = .type "tuple") (hd : o.data = .seq vs m) (q : ∀ v ∈ vs.toList, Hb P w n s v) : Hb P w (n + 1) s (.ref a) := fun A E Q hq => by
  unfold hashByValue
  refine wpAny_bind (wpAny_specialOf ⟨o, ho, hc⟩ F.slot_tuple_hash.lookup ?_)
  show wpAny _ _ (seqItems? (.ref a) >>= _) _ _ s
  refine wpAny_bind (wpAny_seqItems ho hd ?_)
  refine wpAny_bind ?_
  show wpAny _ _ (forIn vs _ _) _ _ s
  rw [← Array.forIn_toList]
  refine wpAny_forIn_list _ (fun left r s' => r.1 = none ∧ s' = s ∧ ∀ v ∈ left, Hb P w n s v) _ ?_ ?_ _ _ ⟨rfl, rfl, q⟩
  · rintro v left r s' ⟨hr, rfl, all⟩
    refine wpAny_bind (all v List.mem_cons_self _ _ _ ?_)
    simp only [Bool.not_true, Bool.false_eq_true, if_false]
    exact wpAny_pure ⟨rfl, rfl, fun u m => all u (List.mem_cons_of_mem _ m)⟩
  · rintro ⟨r1, r2⟩ s' ⟨hr, rfl, _⟩
    obtain rfl : r1 = none := hr
    exact wpAny_pure hq
theorem cl_want {n : Nat} {p v : Int} {u : Value} (x : NestedIs s.heap (.tup [.num p, .num v]) u) : Cl P w (n + 1) s u := by
  cases x with
  | tup h1 h2 h3 h4 =>
    refine cl_tup h1 h2 h3 fun z m => ?_
    generalize (Array.toList _ : List Value) = l at h4 m
    cases h4 with
    | cons k1 h4 =>
      cases h4 with
      | cons k2 h4 =>
        cases h4
        rcases List.mem_cons.mp m with e | m
        · rw [e]; exact cl_num k1
        · rw [List.mem_singleton.mp m]; exact cl_num k2
theorem hb_want {n : Nat} {p v : Int} {u : Value} (x : NestedIs s.heap (.tup [.num p, .num v]) u) : Hb P w (n + 1) s u := by
  cases x with
  | tup h1 h2 h3 h4 =>
    refine hb_tup h1 h2 h3 fun z m => ?_
    generalize (Array.toList _ : List Value) = l at h4 m
    cases h4 with
    | cons k1 h4 =>
      cases h4 with
      | cons k2 h4 =>
        cases h4
        rcases List.mem_cons.mp m with e | m
        · rw [e]; exact hb_num k1
        · rw [List.mem_singleton.mp m]; exact hb_num k2
theorem IsR.cl {r : Rule} {a : Addr} (x : IsR s.heap r a) : Cl P w 8 s (.ref a) := by
  have x' : NestedIs s.heap (.tup [.tup [.num r.1.1, .num r.1.2], .tup [.num r.2.1, .num r.2.2]]) (.ref a) := x.n
  cases x' with
  | tup h1 h2 h3 h4 =>
    refine cl_tup h1 h2 h3 fun z m => ?_
    generalize (Array.toList _ : List Value) = l at h4 m
    cases h4 with
    | cons k1 h4 =>
      cases h4 with
      | cons k2 h4 =>
        cases h4
        rcases List.mem_cons.mp m with e | m
        · rw [e]; exact cl_want k1
        · rw [List.mem_singleton.mp m]; exact cl_want k2
theorem IsR.hb {r : Rule} {a : Addr} (x : IsR s.heap r a) : Hb P w 8 s (.ref a) := by
  have x' : NestedIs s.heap (.tup [.tup [.num r.1.1, .num r.1.2], .tup [.num r.2.1, .num r.2.2]]) (.ref a) := x.n
  cases x' with
  | tup h1 h2 h3 h4 =>
    refine hb_tup h1 h2 h3 fun z m => ?_
    generalize (Array.toList _ : List Value) = l at h4 m
    cases h4 with
    | cons k1 h4 =>
      cases h4 with
      | cons k2 h4 =>
        cases h4
        rcases List.mem_cons.mp m with e | m
        · rw [e]; exact hb_want k1
        · rw [List.mem_singleton.mp m]; exact hb_want k2
theorem IsR.quiet {r : Rule} {a : Addr} (x : IsR s.heap r a) : QuietAt P w 8 s (.ref a) := quiet_key (kR r) _ 8 s x.n (by rw [kR_depth]; omega)
theorem IsR.eqB {r t : Rule} {a b : Addr} {Q : Bool → Shared → Prop} (x : IsR s.heap r a) (y : IsR s.heap t b) (hu : A.units + 2 < cLine) (q : Q (decide (r = t)) s) : wpAny (model P w) A (eqBool (.ref a) (.ref b)) Q E s := by
  refine eqAt_key (kR r) (kR t) A s _ _ x.n y.n (by rw [kR_depth, kR_depth]; exact hu) _ _ _ _ ?_
  rw [← NestedKey.decide_eq]
  have e : decide (kR r = kR t) = decide (r = t) := decide_eq_decide.mpr ⟨kR_inj, fun e => by rw [e]⟩
  rw [e]
  exact q
/-- a search among rules shows nothing -/
theorem unseen {r : Rule} {a : Addr} {Q : Bool → Shared → Prop} (x : IsR s.heap r a) {ys : List Value} (hy : ∀ y ∈ ys, ∃ t b, y = Value.ref b ∧ IsR s.heap t b) (q : Q false s) :
    wpAny (model P w) A (searchCouldBeSeen (.ref a) ys) Q E s := by
  unfold searchCouldBeSeen
  refine wpAny_bind ?_
  refine wpAny_forIn_list _ (fun left z s' => z.1 = none ∧ s' = s ∧ ∀ y ∈ left, ∃ t b, y = Value.ref b ∧ IsR s.heap t b) _ ?_ ?_ _ _ ⟨rfl, rfl, hy⟩
  · rintro v left z s' ⟨hz, rfl, all⟩
    obtain ⟨t, b, rfl, yb⟩ := all v List.mem_cons_self
    have more : ∀ y ∈ left, ∃ t b, y = Value.ref b ∧ IsR s'.heap t b := fun y m => all y (List.mem_cons_of_mem _ m)
    dsimp only
    by_cases c : (a == b || (carriedByValue (.ref a) && carriedByValue (.ref b))) = true
    · exact wp_if_pos c (wpAny_pure ⟨rfl, rfl, more⟩)
    · refine wp_if_neg c (wpAny_bind (x.quiet _ _ _ ?_))
      rw [if_neg (by decide)]
      refine wpAny_bind (yb.quiet _ _ _ ?_)
      rw [if_neg (by decide)]
      refine wpAny_bind (x.cl _ _ _ ?_)
      rw [if_neg (by decide)]
      refine wpAny_bind (yb.cl _ _ _ ?_)
      rw [if_neg (by decide)]
      exact wpAny_pure ⟨rfl, rfl, more⟩
  · rintro ⟨z1, z2⟩ s' ⟨hz, rfl, _⟩
    obtain rfl : z1 = none := hz
    exact wpAny_pure q

/-! ### a set of rules: fn tells a rule's hash -/
abbrev Ent := Addr × Rule
def entR (fn : Rule → Int) (p : Ent) : Int × Value := (fn p.2, .ref p.1)
structure SetR (fn : Rule → Int) (w : World) (h : Heap) (a : Addr) (L : List Ent) (es : Array (Int × Value)) (ep : Nat) (t : SetTable) : Prop where
  ob : ∃ o, h.get? a = some o ∧ o.ExactSet ∧ o.data = .set es ep t
  rows : es.toList = L.map (entR fn)
  tab : TabOk t (L.map fun p => fn p.2)
  nd : (L.map (·.2)).Nodup
  each : ∀ p ∈ L, IsR h p.2 p.1
  plain : t.plain = true
  led : w.params.followText "set-order" = true ∨ t.led = true
  room : L.length * 5 < t.mask * 3
  few : L.length < 64
variable {fn : Rule → Int} {a : Addr} {L : List Ent} {es : Array (Int × Value)} {ep : Nat} {t : SetTable}
theorem rows_size {L : List Ent} {es : Array (Int × Value)} (h : es.toList = L.map (entR fn)) : es.size = L.length := by
  rw [← Array.length_toList, h, List.length_map]
theorem SetR.size (Z : SetR fn w s.heap a L es ep t) : es.size = L.length := rows_size Z.rows
theorem SetR.fits (Z : SetR fn w s.heap a L es ep t) : t.fits es.size = true := by
  have h1 := Z.tab.sz
  rw [List.length_map] at h1
  have h3 := Z.room
  unfold SetTable.fits SetTable.fill
  rw [Z.tab.dm, Z.size, Bool.and_eq_true, beq_iff_eq, decide_eq_true_eq]
  show t.place.size = L.length ∧ t.place.size + 0 ≤ t.mask
  omega
theorem SetR.at (Z : SetR fn w s.heap a L es ep t) {i : Nat} {p : Ent} (h : L[i]? = some p) : es[i]? = some (fn p.2, Value.ref p.1) := by
  rw [← Array.getElem?_toList, Z.rows, List.getElem?_map, h]
  rfl
theorem SetR.gone (Z : SetR fn w s.heap a L es ep t) : ¬ t.gaveWay = true := by
  unfold SetTable.gaveWay
  rw [mask_odd Z.tab.mok]
  decide
/-- the way's c-th stop, for a hash -/
def stop (t : SetTable) (hv : Int) (c : Nat) : SetTable.Probe := nth t.mask (runAt t.mask (SetTable.bits hv % (t.mask + 1)) (SetTable.bits hv)) c
theorem stop_j (t : SetTable) (hv : Int) (c : Nat) : (stop t hv c).j = way t.mask hv c := rfl
theorem stop_zero (t : SetTable) (hv : Int) : t.probeStart hv = stop t hv 0 := rfl
theorem stop_on (t : SetTable) (hv : Int) (c q : Nat) : nth t.mask (stop t hv c) q = stop t hv (c + q) := (nth_add t.mask c _ q).symm
theorem stop_dummy (hv : Int) (c : Nat) : (stop t hv c).dummy = none := by
  have all : ∀ (n : Nat) (p : SetTable.Probe), p.dummy = none → (nth t.mask p n).dummy = none := fun n => by
    induction n with
    | zero => exact fun p h => h
    | succ n ih =>
      intro p h
      refine ih (adv t.mask p) ?_
      unfold adv
      split <;> exact h
  exact all c _ rfl
/-- what a probe from the c-th stop on meets -/
theorem SetR.probe (Z : SetR fn w s.heap a L es ep t) {hv : Int} {N c : Nat} (hc : c ≤ N) (hNf : N < 10 * SetTable.turns t.mask) (hN : way t.mask hv N ∉ t.place.toList) (hNb : ∀ c, c < N → way t.mask hv c ∈ t.place.toList) :
    (∃ (q i : Nat) (p : Ent), c + q < N ∧ L[i]? = some p ∧ t.slot (way t.mask hv (c + q)) = .live i ∧ t.place.toList[i]? = some (way t.mask hv (c + q)) ∧ (∀ (c' i' : Nat) (p' : Ent), c ≤ c' → c' < c + q → t.place.toList[i']? = some (way t.mask hv c') → L[i']? = some p' → fn p'.2 ≠ hv) ∧
      t.probe (fun i => (es[i]?.map (·.1)).getD 0) hv (stop t hv c) = some (.candidate (way t.mask hv (c + q)) i (stop t hv (c + (q + 1))))) ∨
    ((∀ (c' i' : Nat) (p' : Ent), c ≤ c' → c' < N → t.place.toList[i']? = some (way t.mask hv c') → L[i']? = some p' → fn p'.2 ≠ hv) ∧ t.probe (fun i => (es[i]?.map (·.1)).getD 0) hv (stop t hv c) = some (.empty (way t.mask hv N) none)) := by
  have onj : ∀ q, (nth t.mask (stop t hv c) q).j = way t.mask hv (c + q) := fun q => by rw [stop_on, stop_j]
  have hashAt : ∀ (i : Nat) p, L[i]? = some p → (es[i]?.map (·.1)).getD 0 = fn p.2 := fun i p hp => by
    rw [Z.at hp]
    rfl
  rcases go_spec t Z.tab.ris Z.tab.dm (fun i => (es[i]?.map (·.1)).getD 0) hv (10 * SetTable.turns t.mask) (N - c) (stop t hv c) (stop_dummy hv c) (by omega)
      (fun q hq => by rw [onj]; exact hNb (c + q) (by omega)) (by rw [onj, show c + (N - c) = N by omega]; exact hN) with ⟨q, i, hq, hi, hh, hno, hpr⟩ | ⟨hno, hpr⟩
  · rw [onj] at hi
    have il : i < L.length := by
      have h1 : i < t.place.toList.length := (List.getElem?_eq_some_iff.mp hi).1
      have h2 := Z.tab.sz
      rw [List.length_map] at h2
      rw [Array.length_toList] at h1
      omega
    refine .inl ⟨q, i, L[i], by omega, List.getElem?_eq_getElem il, slot_live Z.tab.ris hi, hi, fun c' i' p' h1 h2 h3 h4 h5 => ?_, ?_⟩
    · exact hno (c' - c) i' (by omega) (by rw [onj, show c + (c' - c) = c' by omega]; exact h3) ((hashAt i' p' h4).trans h5)
    · rw [onj, stop_on] at hpr
      exact hpr
  · refine .inr ⟨fun c' i' p' h1 h2 h3 h4 h5 => ?_, ?_⟩
    · exact hno (c' - c) i' (by omega) (by rw [onj, show c + (c' - c) = c' by omega]; exact h3) ((hashAt i' p' h4).trans h5)
    · rw [onj, show c + (N - c) = N by omega] at hpr
      exact hpr
/-- a candidate is looked at: it is there, or the search goes on behind it -/
theorem seek_one (Z : SetR fn w s.heap a L es ep t) {x : Addr} {r : Rule} (hx : IsR s.heap r x) (hu : A.units + 2 < cLine) {hv : Int} {f j i : Nat} {p : Ent} {nxt : SetTable.Probe} {Q : SetFound → Shared → Prop} (hp : L[i]? = some p) (hsl : t.slot j = .live i)
    (hin : r ∈ L.map (·.2) → Q (.there none) s) (go : p.2 ≠ r → wpAny (model P w) A (setSearchFrom a (.ref x) hv true f (some nxt)) Q E s) :
    wpAny (model P w) A (searchRest a (.ref x) hv true f es t j i nxt) Q E s := by
  obtain ⟨o, ho, hex, hd⟩ := Z.ob
  have hm : p ∈ L := List.mem_of_getElem? hp
  unfold searchRest
  rw [Z.at hp]
  dsimp only
  refine wpAny_bind (wpAny_holding ((Z.each p hm).eqB hx hu ?_))
  refine wpAny_bind (wpAny_setState_of ho hd Z.fits ?_)
  dsimp only
  by_cases same : p.2 = r
  · exact wp_if_pos (by simp [same]) (wpAny_pure (hin (List.mem_map.mpr ⟨p, hm, same⟩)))
  · refine wp_if_neg (by simp [same]) ?_
    try refine wpAny_bind (wpAny_pure ?_)
    rw [sameMem]
    dsimp only
    simp only [if_true, hsl, Z.at hp]
    refine wpAny_bind (wpAny_isSame_ref_self (wpAny_bind (wpAny_pure ?_)))
    simp only [if_true]
    refine wp_if_neg (by simp [same]) ?_
    exact go same
/-- from the c-th stop of the way on -/
theorem seek_from (Z : SetR fn w s.heap a L es ep t) {x : Addr} {r : Rule} (hx : IsR s.heap r x) (hu : A.units + 2 < cLine) {N : Nat} (hNf : N < 10 * SetTable.turns t.mask)
    (hN : way t.mask (fn r) N ∉ t.place.toList) (hNb : ∀ c, c < N → way t.mask (fn r) c ∈ t.place.toList) {Q : SetFound → Shared → Prop}
    (hin : r ∈ L.map (·.2) → Q (.there none) s) (hout : r ∉ L.map (·.2) → Q (.free (way t.mask (fn r) N) false) s) (f : Nat) :
    ∀ (c : Nat) (st : Option SetTable.Probe), st.getD (t.probeStart (fn r)) = stop t (fn r) c → c ≤ N → N - c < f →
      (∀ (i : Nat) p, L[i]? = some p → p.2 = r → ∃ c', c ≤ c' ∧ c' < N ∧ t.place.toList[i]? = some (way t.mask (fn r) c')) →
      wpAny (model P w) A (setSearchFrom a (.ref x) (fn r) true f st) Q E s := by
  induction f with
  | zero => exact fun c st _ _ hf _ => absurd hf (Nat.not_lt_zero _)
  | succ f ih =>
    intro c st hst hc hf hre
    obtain ⟨o, ho, hex, hd⟩ := Z.ob
    rw [setSearchFrom_succ]
    refine wpAny_bind (wpAny_setState_of ho hd Z.fits ?_)
    dsimp only
    refine wp_if_neg Z.gone ?_
    try refine wpAny_bind (wpAny_pure ?_)
    rw [hst]
    rcases Z.probe hc hNf hN hNb with ⟨q, i, p, hq, hp, hsl, hi, hno, hpr⟩ | ⟨hno, hpr⟩
    · rw [hpr]
      dsimp only
      have rest : wpAny (model P w) A (searchRest a (.ref x) (fn r) true f es t (way t.mask (fn r) (c + q)) i (stop t (fn r) (c + (q + 1)))) Q E s := by
        refine seek_one Z hx hu hp hsl hin fun same => ih (c + (q + 1)) _ rfl (by omega) (by omega) fun i0 p0 h0 hk0 => ?_
        obtain ⟨c', a1, a2, a3⟩ := hre i0 p0 h0 hk0
        refine ⟨c', ?_, a2, a3⟩
        rcases Nat.lt_trichotomy c' (c + q) with y | y | y
        · exact absurd (congrArg fn hk0) (hno c' i0 p0 a1 y a3 h0)
        · exfalso
          rw [y] at a3
          have s0 := slot_live Z.tab.ris a3
          rw [hsl] at s0
          injection s0 with s0
          rw [← s0, hp] at h0
          exact same ((congrArg Prod.snd (Option.some.inj h0)).trans hk0)
        · omega
      by_cases ld : t.led = true
      · refine wp_if_neg (by simp [ld]) ?_
        try refine wpAny_bind (wpAny_pure ?_)
        exact rest
      · refine wp_if_pos (by simp [ld]) ?_
        refine wpAny_bind (unseen hx (fun y hy => ?_) ?_)
        · obtain ⟨e, he, ee⟩ := List.mem_map.mp hy
          have he1 : e ∈ es ∧ e.1 = fn r := by simpa using he
          have he2 : e ∈ es.toList := by simpa using he1.1
          rw [Z.rows] at he2
          obtain ⟨p2, hp2, e2⟩ := List.mem_map.mp he2
          exact ⟨p2.2, p2.1, by rw [← ee, ← e2]; rfl, Z.each p2 hp2⟩
        · refine wp_if_neg (by decide) ?_
          try refine wpAny_bind (wpAny_pure ?_)
          exact rest
    · rw [hpr]
      dsimp only
      refine wpAny_pure (hout fun hm => ?_)
      obtain ⟨p0, h0, hk0⟩ := List.mem_map.mp hm
      obtain ⟨i0, hi0, e0⟩ := List.getElem_of_mem h0
      have h00 : L[i0]? = some p0 := by rw [List.getElem?_eq_getElem hi0, e0]
      obtain ⟨c', a1, a2, a3⟩ := hre i0 p0 h00 hk0
      exact hno c' i0 p0 a1 a2 a3 h00 (congrArg fn hk0)
theorem seek (Z : SetR fn w s.heap a L es ep t) {x : Addr} {r : Rule} (hx : IsR s.heap r x) (hu : A.units + 2 < cLine) {Q : SetFound → Shared → Prop}
    (hin : r ∈ L.map (·.2) → Q (.there none) s)
    (hout : ∀ N, r ∉ L.map (·.2) → way t.mask (fn r) N ∉ t.place.toList → (∀ c, c < N → way t.mask (fn r) c ∈ t.place.toList) → Q (.free (way t.mask (fn r) N) false) s) :
    wpAny (model P w) A (setSearch a (.ref x) (fn r) true) Q E s := by
  have room := Z.room
  obtain ⟨N, hNf, hN, hNb⟩ := Z.tab.first (by rw [List.length_map]; omega) (fn r)
  have big : N < 100000 := by
    have : 10 * SetTable.turns t.mask ≤ 1420 := by
      unfold SetTable.turns
      rcases Z.tab.mok with e | e | e <;> omega
    omega
  unfold setSearch
  refine seek_from Z hx hu hNf hN hNb hin (fun hn => hout N hn hN hNb) 100000 0 none (stop_zero t (fn r)) (Nat.zero_le _) (by omega) fun i p hp hk => ?_
  have hi : (L.map fun p => fn p.2)[i]? = some (fn r) := by rw [List.getElem?_map, hp, ← hk]; rfl
  have il : i < t.place.toList.length := by
    have h1 : i < L.length := (List.getElem?_eq_some_iff.mp hp).1
    have h2 := Z.tab.sz
    rw [List.length_map] at h2
    rw [Array.length_toList]
    omega
  have hj := List.getElem?_eq_getElem il
  obtain ⟨c, hc, e⟩ := Z.tab.before hN hi hj
  exact ⟨c, Nat.zero_le _, hc, by rw [hj, e]⟩
end
end Mr

/-! Mr.S2: adding to a set of rules, laying it anew. -/
namespace Mr
open PySem PySem.Spec PyProof.Rows L2
section
variable {P : Program} {w : World} {A : Around} {E : Value → Shared → Prop} {s : Shared} {fn : Rule → Int} {a : Addr} {L : List Ent} {es : Array (Int × Value)} {ep : Nat} {t : SetTable}

/-- the rules stay while the set changes -/
theorem IsR.but {h h' : Heap} {r : Rule} {b : Addr} {o : Obj} (x : IsR h r b) (ho : h.get? a = some o) (hd : o.data = .set es ep t) (sb : Heap.SameBut a h h') : IsR h' r b :=
  x.stay fun c u vs n e hs => by
    have ne : c ≠ a := by
      rintro rfl
      obtain rfl : u = o := Option.some.inj (e.symm.trans ho)
      rw [hd] at hs
      exact nomatch hs
    exact (sb.2 c ne).trans e
theorem pick_all {α : Type} (L : List α) : (List.range L.length).filterMap (fun i => L[i]?) = L := by
  have upTo : ∀ n, n ≤ L.length → (List.range n).filterMap (fun i => L[i]?) = L.take n := fun n => by
    induction n with
    | zero => intro _; rfl
    | succ n ih =>
      intro hn
      have lt : n < L.length := hn
      rw [List.range_succ, List.filterMap_append, ih (Nat.le_of_lt lt), List.take_succ, List.getElem?_eq_getElem lt, List.filterMap_cons_some (List.getElem?_eq_getElem lt)]
      rfl
  rw [upTo L.length (Nat.le_refl _), List.take_length]
/-- the rows in a new order -/
theorem rows_order (order : Array Nat) (hr : es.toList = L.map (entR fn)) (hp : order.toList.Perm (List.range L.length)) :
    ∃ M : List Ent, (order.filterMap (es[·]?)).toList = M.map (entR fn) ∧ M.Perm L ∧ (M.map fun p => fn p.2) = order.toList.map fun i => (es.map (·.1)).getD i 0 := by
  refine ⟨order.toList.filterMap fun i => L[i]?, ?_, ?_, ?_⟩
  · rw [Array.toList_filterMap, List.map_filterMap]
    have ef : (fun i => es[i]?) = fun i => Option.map (entR fn) L[i]? := funext fun i => by rw [← Array.getElem?_toList, hr, List.getElem?_map]
    rw [ef]
  · have q := hp.filterMap fun i => L[i]?
    rw [pick_all] at q
    exact q
  · have each : ∀ l : List Nat, (∀ i ∈ l, i < L.length) → (l.filterMap fun i => L[i]?).map (fun p => fn p.2) = l.map fun i => (es.map (·.1)).getD i 0 := fun l => by
      induction l with
      | nil => intro _; rfl
      | cons i l ih =>
        intro hl
        have hi := hl i List.mem_cons_self
        rw [List.filterMap_cons_some (List.getElem?_eq_getElem hi), List.map_cons, List.map_cons, ih fun j hj => hl j (List.mem_cons_of_mem _ hj)]
        have e5 : (es.map (·.1))[i]? = some (fn (L[i]).2) := by
          rw [Array.getElem?_map, ← Array.getElem?_toList, hr, List.getElem?_map, List.getElem?_eq_getElem hi]
          rfl
        rw [Array.getD_eq_getD_getElem?, e5]
        rfl
    exact each _ fun i hi => List.mem_range.mp (hp.mem_iff.mp hi)
theorem relay_ok {o : Obj} (ho : s.heap.get? a = some o) (hex : o.ExactSet) (hd : o.data = .set es ep t) (rows : es.toList = L.map (entR fn)) (hsz : t.place.size = es.size) (hdm : t.dummies = #[]) (hfl : es.size ≤ t.mask)
    (nd : (L.map (·.2)).Nodup) (each : ∀ p ∈ L, IsR s.heap p.2 p.1) (pl : t.plain = true) (ld : w.params.followText "set-order" = true ∨ t.led = true) (few : L.length < 64) {wanted M : Nat}
    (hw : SetTable.sizeAbove wanted - 1 = M) (hM : MaskOk M) (hw2 : SetTable.sizeAbove wanted ≤ 128) (hn : L.length * 5 < M * 3) {Q : Unit → Shared → Prop}
    (hQ : ∀ h' L' es' ep' t', Heap.SameBut a s.heap h' → SetR fn w h' a L' es' ep' t' → L'.Perm L → Q () { s with heap := h' }) : wpAny (model P w) A (setRelay a wanted) Q E s := by
  have esz : es.size = L.length := rows_size rows
  have hfits : t.fits es.size = true := by
    unfold SetTable.fits SetTable.fill
    rw [hdm, Bool.and_eq_true, beq_iff_eq, decide_eq_true_eq]
    show t.place.size = es.size ∧ t.place.size + 0 ≤ t.mask
    omega
  obtain ⟨t', order, e, hp, T, em, el, ep', ed⟩ := relaid_ok t (hs := es.map (·.1)) (wanted := wanted) hw hM (by rw [Array.size_map, esz]; omega)
  rw [Array.size_map, esz] at hp
  obtain ⟨N, r1, r2, r3⟩ := rows_order order rows hp
  rw [← r3] at T
  have hs2 : (order.filterMap (es[·]?)).size = es.size := by rw [rows_size r1, r2.length_eq, esz]
  rw [setRelay_eq]
  refine wpAny_bind (wpAny_setState_of ho hd hfits ?_)
  dsimp only
  refine wp_if_neg (by rw [sizeLine_eq]; omega) ?_
  try refine wpAny_bind (wpAny_pure ?_)
  rw [e]
  dsimp only
  refine wpAny_bind ?_
  refine wp_if_neg (by rw [hs2]; simp) ?_
  try refine wpAny_bind (wpAny_pure ?_)
  refine wpAny_pure ?_
  dsimp only
  refine wpAny_storeSet_of ho hd ?_ (by rw [hs2, esz, sizeLine_eq]; omega)
  have sb : Heap.SameBut a s.heap (s.heap.update a (Obj.putSet (order.filterMap (es[·]?)) t')) := Heap.SameBut.update ..
  refine hQ _ N (order.filterMap (es[·]?)) (ep + 1) t' sb ⟨⟨_, store_at ho hd, ⟨hex.1, hex.2.1, hex.2.2⟩, rfl⟩, r1, T, (r2.map (·.2)).nodup_iff.mpr nd, fun p hpm => (each p (r2.mem_iff.mp hpm)).but ho hd sb, by rw [ep']; exact pl, by rw [el]; exact ld, ?_, by rw [r2.length_eq]; exact few⟩ r2
  rw [r2.length_eq, em]
  exact hn
/-- a rule is added -/
theorem put_ok (Z : SetR fn w s.heap a L es ep t) {x : Addr} {r : Rule} (hx : IsR s.heap r x) (hu : A.units + 2 < cLine) (few : L.length + 1 < 64) {Q : Bool → Shared → Prop}
    (hQ : ∀ b h' L' es' ep' t', Heap.SameBut a s.heap h' → SetR fn w h' a L' es' ep' t' → (r ∈ L.map (·.2) → L' = L) → (r ∉ L.map (·.2) → L'.Perm ((x, r) :: L)) → Q b { s with heap := h' }) :
    wpAny (model P w) A (setAddHashed a (.ref x) (fn r)) Q E s := by
  obtain ⟨o, ho, hex, hd⟩ := Z.ob
  have esz := Z.size
  have room := Z.room
  unfold setAddHashed
  refine wpAny_holding ?_
  rw [show (100000 : Nat) = 99999 + 1 from rfl, setAddHashedIn_succ]
  refine wpAny_bind (wpAny_setState_of ho hd Z.fits ?_)
  dsimp only
  refine wp_if_neg (by simp [byScan, Value.scannable]) ?_
  try refine wpAny_bind (wpAny_pure ?_)
  refine wpAny_bind (seek Z hx hu (fun hm => ?_) fun N hm hN hb => ?_)
  · dsimp only
    exact wpAny_pure (hQ false s.heap L es ep t (Heap.SameBut.refl a s.heap) Z (fun _ => rfl) fun z => absurd hm z)
  · dsimp only
    refine wpAny_bind (wpAny_setState_of ho hd Z.fits ?_)
    dsimp only
    obtain ⟨q1, q2, q3, q4, q5, q6, q7, q8, q9⟩ := Z.tab.put hN hb
    have pl1 : (t.put (way t.mask (fn r) N)).1.plain = true := by rw [q6]; exact Z.plain
    generalize hpt : t.put (way t.mask (fn r) N) = pt at q1 q3 q4 q5 q6 q7 q8 q9 pl1 ⊢
    obtain ⟨t1, j⟩ := pt
    dsimp only at q1 q3 q4 q5 q6 q7 q8 q9 pl1 ⊢
    subst q1
    first
      | (refine wpAny_bind ?_; refine wp_if_pos pl1 ?_; refine hx.hb _ _ _ ?_)
      | refine wp_if_pos pl1 (wpAny_bind (hx.hb _ _ _ ?_))
    simp only [if_true]
    have hin : (SetTable.insertAt es (SetTable.below t.place (way t.mask (fn r) N)) (fn r, Value.ref x)).toList = (L.take (SetTable.below t.place (way t.mask (fn r) N)) ++ (x, r) :: L.drop (SetTable.below t.place (way t.mask (fn r) N))).map (entR fn) := by
      rw [SetTable.toList_insertAt, Z.rows, List.map_append, List.map_cons, List.map_take, List.map_drop]
      rfl
    generalize SetTable.below t.place (way t.mask (fn r) N) = j at q2 q3 hin ⊢
    have pm := put_perm L j (x, r)
    have hlen : (L.take j ++ (x, r) :: L.drop j).length = L.length + 1 := pm.length_eq
    have hhs : (L.take j ++ (x, r) :: L.drop j).map (fun p => fn p.2) = (L.map fun p => fn p.2).take j ++ fn r :: (L.map fun p => fn p.2).drop j := by
      rw [List.map_append, List.map_cons, List.map_take, List.map_drop]
    rw [← hhs] at q3
    have nd1 : ((L.take j ++ (x, r) :: L.drop j).map (·.2)).Nodup := by
      refine (pm.map (·.2)).nodup_iff.mpr ?_
      rw [List.map_cons]
      exact List.nodup_cons.mpr ⟨hm, Z.nd⟩
    have es1z : (SetTable.insertAt es j (fn r, Value.ref x)).size = L.length + 1 := by rw [rows_size hin, hlen]
    generalize SetTable.insertAt es j (fn r, Value.ref x) = es1 at hin es1z ⊢
    generalize L.take j ++ (x, r) :: L.drop j = L1 at pm hlen q3 nd1 hin
    refine wpAny_bind (wpAny_storeSet_of ho hd ?_ (by rw [es1z, sizeLine_eq]; omega))
    have sb : Heap.SameBut a s.heap (s.heap.update a (Obj.putSet es1 t1)) := Heap.SameBut.update ..
    have ho1 := store_at (es' := es1) (t' := t1) ho hd
    generalize s.heap.update a (Obj.putSet es1 t1) = h1 at sb ho1 ⊢
    have each1 : ∀ p ∈ L1, IsR h1 p.2 p.1 := fun p hp => by
      rcases List.mem_cons.mp (pm.mem_iff.mp hp) with e | hp
      · rw [e]; exact hx.but ho hd sb
      · exact (Z.each p hp).but ho hd sb
    have ld1 : w.params.followText "set-order" = true ∨ t1.led = true := by rw [q5]; exact Z.led
    by_cases hf : t1.tooFull = true
    · first
        | (refine wpAny_bind ?_; refine wp_if_pos (by simp [hf]) ?_)
        | (refine wp_if_pos (by simp [hf]) ?_; refine wpAny_bind ?_)
      have full : (L.length + 1) * 5 ≥ t1.mask * 3 := by
        have z := hf
        unfold SetTable.tooFull at z
        rw [decide_eq_true_eq, q9, List.length_map] at z
        exact z
      rw [esz]
      have t1z : t1.place.size = es1.size := by
        have z := q3.sz
        rw [List.length_map, hlen] at z
        rw [z, es1z]
      have two : (t.mask = 7 ∧ L.length = 4) ∨ (t.mask = 31 ∧ L.length = 18) := by
        rcases Z.tab.mok with e | e | e
        · exact .inl ⟨e, by omega⟩
        · exact .inr ⟨e, by omega⟩
        · omega
      have go : ∀ M, SetTable.sizeAbove (SetTable.grown (L.length + 1)) - 1 = M → MaskOk M → SetTable.sizeAbove (SetTable.grown (L.length + 1)) ≤ 128 → (L.length + 1) * 5 < M * 3 →
          wpAny (model P w) A (setRelay a (SetTable.grown (L.length + 1))) (fun _ s' => wpAny (model P w) A (pure true) Q E s') E { s with heap := h1 } := fun M m1 m2 m3 m4 => by
        refine relay_ok (s := { s with heap := h1 }) ho1 ⟨hex.1, hex.2.1, hex.2.2⟩ rfl hin t1z q3.dm (by rw [es1z, q4]; omega) nd1 each1 pl1 ld1 (by rw [hlen]; exact few) m1 m2 m3 (by rw [hlen]; exact m4) fun h2 L2' es2 ep2 t2 sb2 Z2 pm2 => ?_
        exact wpAny_pure (hQ true h2 L2' es2 ep2 t2 (sb.trans sb2) Z2 (fun z => absurd z hm) fun _ => pm2.trans pm)
      rcases two with ⟨_, e2⟩ | ⟨_, e2⟩
      · exact go 31 (by rw [e2, size_20]) (.inr (.inl rfl)) (by rw [e2, size_20]; decide) (by omega)
      · exact go 127 (by rw [e2, size_76]) (.inr (.inr rfl)) (by rw [e2, size_76]; decide) (by omega)
    · first
        | refine wp_if_neg (by simp [hf]) ?_
        | (refine wpAny_bind ?_; refine wp_if_neg (by simp [hf]) ?_; refine wpAny_pure ?_)
      refine wpAny_pure (hQ true h1 L1 es1 (ep + 1) t1 sb ⟨⟨_, ho1, ⟨hex.1, hex.2.1, hex.2.2⟩, rfl⟩, hin, q3, nd1, each1, pl1, ld1, ?_, by rw [hlen]; exact few⟩ (fun z => absurd z hm) fun _ => pm)
      have z := hf
      unfold SetTable.tooFull at z
      rw [decide_eq_true_eq, q9, List.length_map] at z
      rw [hlen]
      omega
end

/-- what the set has got from the first i of some rules -/
structure Has (ks : List Ent) (i : Nat) (L : List Ent) : Prop where
  sub : ∀ p ∈ L, p ∈ ks.take i
  all : ∀ p ∈ ks.take i, p.2 ∈ L.map (·.2)
  len : L.length ≤ i
theorem Has.zero (ks : List Ent) : Has ks 0 [] := ⟨fun p h => (by cases h), fun p h => (by simp at h), Nat.le_refl _⟩
theorem Has.same {ks L : List Ent} {i : Nat} {x : Ent} (g : Has ks i L) (h : ks[i]? = some x) (hm : x.2 ∈ L.map (·.2)) : Has ks (i + 1) L := by
  refine ⟨fun p hp => ?_, fun p hp => ?_, Nat.le_succ_of_le g.len⟩
  · rw [take_next h]
    exact List.mem_append_left _ (g.sub p hp)
  · rw [take_next h] at hp
    rcases List.mem_append.mp hp with z | z
    · exact g.all p z
    · rw [List.mem_singleton.mp z]
      exact hm
theorem Has.more {ks L L' : List Ent} {i : Nat} {x : Ent} (g : Has ks i L) (h : ks[i]? = some x) (pm : L'.Perm (x :: L)) : Has ks (i + 1) L' := by
  refine ⟨fun p hp => ?_, fun p hp => ?_, by rw [pm.length_eq, List.length_cons]; exact Nat.succ_le_succ g.len⟩
  · rw [take_next h]
    rcases List.mem_cons.mp (pm.mem_iff.mp hp) with e | z
    · rw [e]
      exact List.mem_append_right _ List.mem_cons_self
    · exact List.mem_append_left _ (g.sub p z)
  · rw [(pm.map (·.2)).mem_iff, List.map_cons]
    rw [take_next h] at hp
    rcases List.mem_append.mp hp with z | z
    · exact List.mem_cons_of_mem _ (g.all p z)
    · rw [List.mem_singleton.mp z]
      exact List.mem_cons_self
end Mr

/-! Mr.S3: set(xs) of a list of rules, sorted(set); both as rules of the layer. -/
namespace Mr
open PySem PySem.Spec PyProof.Rows L2
section
variable {P : Program} {w : World} {A : Around} {E : Value → Shared → Prop} {s : Shared}
abbrev SetW (w : World) := SetR (hR w) w
abbrev set0 (w : World) : Obj := { cls := .type "set", dict := none, data := .set #[] 0 (.fresh 0 0 (!w.params.followText "set-order")) }
theorem SetR.moved {fn : Rule → Int} {h h' : Heap} {a : Addr} {L : List Ent} {es : Array (Int × Value)} {ep : Nat} {t : SetTable} (Z : SetR fn w h a L es ep t) (ka : ∀ o, h.get? a = some o → h'.get? a = some o) (kr : ∀ p ∈ L, IsR h' p.2 p.1) : SetR fn w h' a L es ep t :=
  let ⟨o, ho, r⟩ := Z.ob
  ⟨⟨o, ka o ho, r⟩, Z.rows, Z.tab, Z.nd, kr, Z.plain, Z.led, Z.room, Z.few⟩
theorem set_fresh {fn : Rule → Int} {h : Heap} {a : Addr} (ho : h.get? a = some (set0 w)) : SetR fn w h a [] #[] 0 (.fresh 0 0 (!w.params.followText "set-order")) where
  ob := ⟨_, ho, ⟨rfl, rfl, rfl⟩, rfl⟩
  rows := rfl
  tab := ⟨List.Pairwise.nil, rfl, rfl, .inl rfl, fun x hx => (by cases hx), fun i h j hi => (by simp at hi)⟩
  nd := List.nodup_nil
  each := fun p hp => (by cases hp)
  plain := rfl
  led := by
    show _ ∨ (!w.params.followText "set-order") = true
    cases w.params.followText "set-order"
    · exact .inr rfl
    · exact .inl rfl
  room := (show 0 * 5 < 7 * 3 by decide)
  few := (show 0 < 64 by decide)
/-- the loop that fills a set from an iterator over rules -/
theorem fill_loop {I : Addr} {fp wr : List Addr} {G : Array GenState → Array GenState → Prop} {n : Nat} {Pv : Nat → Value → Prop} {St : Nat → Shared → Prop} {R : Result → Shared → Prop}
    (W : WalksS P w A.in1 I fp wr G n Pv St) (S : Addr) (hSf : S ∉ fp) (ks : List Ent) (hn : n = ks.length) (few : ks.length < 64) (hval : ∀ i v, Pv i v → ∃ p, ks[i]? = some p ∧ v = .ref p.1)
    (h0 : Heap) (hk : ∀ p ∈ ks, IsR h0 p.2 p.1) (hS0 : h0.get? S = none) (hw0 : ∀ b ∈ wr, h0.get? b = none) (hu : A.in1.units + 2 < cLine) :
    ∀ (k i : Nat) (s : Shared), n - i = k → i ≤ n → St i s → (∀ b o, h0.get? b = some o → s.heap.get? b = some o) → (∃ L es ep t, SetW w s.heap S L es ep t ∧ Has ks i L) →
      (∀ s' L es ep t, Moved (S :: wr) G s s' → SetW w s'.heap S L es ep t → Has ks n L → (∀ b o, h0.get? b = some o → s'.heap.get? b = some o) → R (.ok (.ret .none)) s') →
      codeAny (model P w) A (.builtin "set.update.loop" ⟨[.ref S, .ref I], []⟩) R s := by
  have nSw : S ∉ wr := fun h => hSf (W.sub _ h)
  have up : ∀ b ∈ wr, b ∈ S :: wr := fun b hb => List.mem_cons_of_mem _ hb
  have old : ∀ {s s' : Shared}, Moved wr G s s' → (∀ b o, h0.get? b = some o → s.heap.get? b = some o) → ∀ b o, h0.get? b = some o → s'.heap.get? b = some o := fun hm kp b o e =>
    hm.heap b o (fun hb => by rw [hw0 b hb] at e; cases e) (kp b o e)
  intro k
  induction k with
  | zero =>
    intro i s hk' hi hst kp ⟨L, es, ep, t, Z, g⟩ hR
    obtain rfl : i = n := by omega
    refine codeAny_builtin F.entry_set_update_loop ?_
    rw [Around.under_plainId F.plain_set_update_loop _]
    show wpAny _ A.in1 (pyNext (.ref I) >>= _) _ _ s
    refine wpAny_bind (W.done s _ _ hst fun s' hm => ?_)
    show wpAny _ A.in1 (ret Value.none) _ _ s'
    have kp' := old hm kp
    exact wpAny_pure (hR s' L es ep t (hm.mono up) (Z.moved (fun o e => hm.heap S o nSw e) fun p hp => (hk p (List.mem_of_mem_take (g.sub p hp))).keep kp') g kp')
  | succ k ih =>
    intro i s hk' hi hst kp ⟨L, es, ep, t, Z, g⟩ hR
    have lt : i < n := by omega
    refine codeAny_builtin F.entry_set_update_loop ?_
    rw [Around.under_plainId F.plain_set_update_loop _]
    show wpAny _ A.in1 (pyNext (.ref I) >>= _) _ _ s
    refine wpAny_bind (W.item i s _ _ lt hst fun v s' hP hst' hm => ?_)
    obtain ⟨p, hp, rfl⟩ := hval i v hP
    have kp' := old hm kp
    have Z' : SetW w s'.heap S L es ep t := Z.moved (fun o e => hm.heap S o nSw e) fun q hq => (hk q (List.mem_of_mem_take (g.sub q hq))).keep kp'
    have hx : IsR s'.heap p.2 p.1 := (hk p (List.mem_of_getElem? hp)).keep kp'
    show wpAny _ A.in1 (holding [Value.ref p.1] (setAdd S (.ref p.1)) >>= _) _ _ s'
    refine wpAny_bind (wpAny_holding ?_)
    unfold setAdd
    refine wpAny_holding (wpAny_bind (pyHash_key (kR p.2) _ _ _ _ hx.n (by rw [kR_depth]; exact hu) ?_))
    refine put_ok (s := { s' with toks := s'.toks + (kR p.2).draws }) Z' hx hu (by have := g.len; omega) fun b h' L' es' ep' t' sb Z2 c1 c2 => ?_
    have g' : Has ks (i + 1) L' := by
      rcases Classical.em (p.2 ∈ L.map (·.2)) with c | c
      · rw [c1 c]; exact g.same hp c
      · exact g.more hp (c2 c)
    have kp2 : ∀ b o, h0.get? b = some o → h'.get? b = some o := fun b o e => (sb.2 b (fun z => by rw [z, hS0] at e; cases e)).trans (kp' b o e)
    refine wpAny_pure ⟨plainId_quiet F.plain_set_update_loop _, ih (i + 1) _ (by omega) lt (W.frame _ s' _ _ hst' (Nat.le_add_right _ _) fun b hb o e => ?_) kp2 ⟨L', es', ep', t', Z2, g'⟩ fun s2 L2' es2 ep2 t2 hm2 Z3 g2 kp3 => ?_⟩
    · exact (sb.2 b (fun h => hSf (h ▸ hb))).trans e
    · exact hR s2 L2' es2 ep2 t2 (Moved.trans W.gtrans ((hm.mono up).then_heap (Nat.le_add_right _ _) fun b o hb e => (sb.2 b (fun h => hb (h ▸ List.mem_cons_self))).trans e) hm2) Z3 g2 kp3

set_option maxRecDepth 100000 in
set_option maxHeartbeats 3200000 in
/-- set(xs) -/
theorem call_set_rules {l : Addr} {items : Array Value} (ks : List Ent) {Q : Value → Shared → Prop} (hh : A.handled = none) (hl : s.heap.IsList l items) (hit : items.toList = ks.map fun p => Value.ref p.1)
    (hk : ∀ p ∈ ks, IsR s.heap p.2 p.1) (few : ks.length < 64) (hu : A.units + 8 < cLine)
    (fin : ∀ (h' : Heap) (tk : Nat) L es ep t, SetW w h' s.heap.objs.size L es ep t → Has ks ks.length L → (∀ b o, s.heap.get? b = some o → h'.get? b = some o) → Q (.ref s.heap.objs.size) { s with heap := h', toks := tk }) :
    wpAny (model P w) A (call (.type "set") [.ref l]) Q E s := by
  have isz : items.size = ks.length := by rw [← Array.length_toList, hit, List.length_map]
  obtain ⟨c, tl, hmro⟩ := F.called_set.mro
  have hmade := F.called_set.made
  have hsub := F.called_set.sub
  refine wpAny_call (codeAny_of_tree ?_)
  show wpAny _ _ (callAny (.type "set") _) _ _ _
  refine wpAny_pure ⟨Code.quiet_builtin _ (by decide +kernel), codeAny_builtin F.entry_type_call ?_⟩
  rw [Around.under_plain (weight_type_call_type "set" [.ref l] []) rfl]
  have h1 := F.called_set.notType
  have h2 := F.called_set.canCreate
  have hct := F.typeCall_set_1 (.ref l)
  repeat (any_goals (first | assumption | wp_step))

  refine codeAny_mono (code_set_led1 (.ref l) (E := E) (Q₁ := fun obj s₁ => obj = .ref s.heap.objs.size ∧ s₁ = { s with heap := s.heap.push (set0 w) }) ⟨rfl, rfl⟩) fun r s₁ hr => ?_
  cases r with
  | error e => exact hr
  | ok fl =>
    cases fl with
    | ret obj =>
      obtain ⟨rfl, rfl⟩ := hr
      have hS : (s.heap.push (set0 w)).get? s.heap.objs.size = some (set0 w) := Heap.get?_push_size _ rfl
      have hT : Shared.TypeIs { s with heap := s.heap.push (set0 w) } (.ref s.heap.objs.size) "set" := ⟨_, hS, rfl⟩
      have hli := F.called_set.init.lookup
      have hbi := F.called_set.init.bind (.ref s.heap.objs.size)
      repeat (any_goals (first | assumption | wp_step))

      refine codeAny_mono (codeAny_call_builtin (R := wants (fun r s₂ => r = .none ∧ ∃ h' tk L es ep t, s₂ = { s with heap := h', toks := tk } ∧ SetW w h' s.heap.objs.size L es ep t ∧ Has ks ks.length L ∧
          (∀ b o, s.heap.get? b = some o → h'.get? b = some o)) E) F.called_set.init.plain F.entry_set_init (check_set_init_1 hT ?_)) fun r₂ s₂ hr₂ => ?_
      · obtain ⟨ol, hol, hcl, nl, hdl⟩ := hl
        obtain ⟨ocls, odict, odata, oslots⟩ := ol
        simp only at hcl hdl
        subst hcl; subst hdl
        have hol' : (s.heap.push (set0 w)).get? l = some { cls := .type "list", dict := odict, data := .seq items nl, slots := oslots } := Heap.get?_push_of_some _ hol
        have hsls := F.sub_list_set
        have hslf := F.sub_list_frozenset
        have hne : (Value.type "list" == Value.type "dict") = false := by decide
        have hl1 : (s.heap.push (set0 w)).IsList l items := ⟨_, hol', rfl, nl, rfl⟩
        unfold Builtin.«set.__init__» noKeywords Builtin.Frozenset.updateFrom
        generalize hPI : pyIter = PI
        wp_walk
        subst hPI

        refine wpAny_pyIter_list hl1 ?_
        refine wpAny_bind (wpAny_runValue ?_)
        have hlS : l < s.heap.objs.size := Heap.lt_size hol
        have hh3 : A.in1.in1.in1.handled = none := by simp [hh]
        have hneI : l ≠ (s.heap.push (set0 w)).objs.size := by
          rw [Heap.size_push]; exact Nat.ne_of_lt (Nat.lt_succ_of_lt hlS)
        have hSf : s.heap.objs.size ∉ [(s.heap.push (set0 w)).objs.size, l] := by
          rw [Heap.size_push]; simp only [List.mem_cons, List.mem_singleton, List.not_mem_nil, or_false, not_or]
          exact ⟨Nat.ne_of_lt (Nat.lt_succ_self _), Nat.ne_of_gt hlS⟩
        have hval : ∀ (i : Nat) (v : Value), items[i]? = some v → ∃ p, ks[i]? = some p ∧ v = .ref p.1 := fun i v hv => by
          have q : items.toList[i]? = some v := by rw [Array.getElem?_toList]; exact hv
          rw [hit, List.getElem?_map] at q
          obtain ⟨p, hp, e⟩ := Option.map_eq_some_iff.mp q
          exact ⟨p, hp, e.symm⟩
        have young : ∀ b, s.heap.objs.size ≤ b → s.heap.get? b = none := fun b hb => by
          cases q : s.heap.get? b with
          | none => rfl
          | some o => exact absurd (Nat.lt_of_lt_of_le (Heap.lt_size q) hb) (Nat.lt_irrefl _)
        refine fill_loop ((Walks.list hh3 _ l hneI items).toS) s.heap.objs.size
          hSf ks isz few hval s.heap hk (young _ (Nat.le_refl _)) (fun b hb => young b (by
            rw [List.mem_singleton.mp hb, Heap.size_push]
            exact Nat.le_succ _)) (by simp only [Around.in1_units]; omega) (items.size - 0) 0 _ (by omega) (Nat.zero_le _)
          ⟨⟨_, Heap.get?_push_size _ rfl, rfl, rfl⟩, (hl1.push _)⟩ (fun b o e => Heap.get?_push_of_some _ (Heap.get?_push_of_some _ e)) ?hS0 ?hR
        case hS0 => exact ⟨[], #[], 0, _, set_fresh (Heap.get?_push_of_some _ hS), Has.zero ks⟩
        case hR =>
          intro s' L es ep t hm Z g kp
          obtain ⟨h', g2, d', tk', os'⟩ := s'
          obtain rfl : g2 = s.gens := hm.gens
          obtain rfl : d' = s.drawn := hm.drawn
          obtain rfl : os' = s.os := hm.os
          show wpAny _ _ _ _ _ _
          refine wpAny_pure ?_
          show wpAny _ _ (ret Value.none) _ _ _
          rw [isz] at g
          exact wpAny_pure ⟨rfl, h', tk', L, es, ep, t, rfl, Z, g, kp⟩

      · cases r₂ with
        | error e => exact hr₂
        | ok fl₂ =>
          cases fl₂ with
          | ret r =>
            obtain ⟨rfl, h', tk, L, es, ep, t, rfl, Z, g, k⟩ := hr₂
            repeat (any_goals (first | assumption | wp_step))
            exact fin _ _ _ _ _ _ Z g k
          | _ => exact hr₂.elim
    | _ => exact hr.elim
end
end Mr

/-! Mr.S4: sorted(set(xs)), xs a list of rules, as one rule of the layer. -/
namespace Mr
open PySem PySem.Spec PyProof.Rows L2

/-! ### the order of rules -/
theorem want_lt {w u : Want} (h : WOk w) (k : WOk u) : PySem.W.dataLt (wantD w) (wantD u) = decide (wcode w < wcode u) := by
  unfold wantD
  rw [PySem.W.dataLt_ii]
  obtain ⟨a, b, c⟩ := h
  obtain ⟨a', b', c'⟩ := k
  unfold wcode
  exact decide_eq_decide.mpr (by omega)
theorem want_eqv (w u : Want) : PyData.eqv (wantD w) (wantD u) = decide (w = u) := by
  obtain ⟨a, b⟩ := w
  obtain ⟨c, d⟩ := u
  show (PyData.eqvAll [.int a, .int b] [.int c, .int d]) = _
  simp only [PyData.eqvAll, PyData.eqv, Bool.and_true, Prod.mk.injEq]
  by_cases h1 : a = c <;> by_cases h2 : b = d <;> simp [h1, h2]
theorem want_alike (w u : Want) : PySem.W.alike (wantD w) (wantD u) = true := by simp [wantD, PySem.W.alike, PySem.W.alikeAll]
theorem rule_alike (r t : Rule) : PySem.W.alike (ruleD r) (ruleD t) = true := by simp [ruleD, wantD, PySem.W.alike, PySem.W.alikeAll]
theorem rule_lt {r t : Rule} (h : ROk r) (k : ROk t) : PySem.W.dataLt (ruleD r) (ruleD t) = decide (rcode r < rcode t) := by
  unfold ruleD
  rw [PySem.W.dataLt_pair (want_alike _ _) (want_alike _ _), want_eqv, want_eqv, want_lt h.1 k.1, want_lt h.2 k.2]
  have b1 := wcode_bd h.1
  have b2 := wcode_bd h.2
  have b3 := wcode_bd k.1
  have b4 := wcode_bd k.2
  unfold rcode
  by_cases e1 : r.1 = t.1
  · simp only [e1, decide_true, if_true]
    by_cases e2 : r.2 = t.2
    · simp [e2]
    · simp [e2]
  · have n1 : wcode r.1 ≠ wcode t.1 := fun z => e1 (wcode_inj h.1 k.1 z)
    simp [e1]
    omega
theorem rule_le {r t : Rule} (h : ROk r) (k : ROk t) : PySem.W.dataLe false ruleD r t = decide (rcode r ≤ rcode t) := by
  rw [PySem.W.dataLe_eq]
  show (!PySem.W.dataLt (ruleD t) (ruleD r)) = _
  rw [rule_lt k h, PySem.W.not_lt_int]

section
variable {P : Program} {w : World} {A : Around} {E : Value → Shared → Prop} {s : Shared} {fn : Rule → Int} {a : Addr} {L : List Ent} {es : Array (Int × Value)} {ep : Nat} {t : SetTable}
theorem refs_back : ∀ {vs : List Value} {L : List Ent}, (∀ v ∈ vs, ∃ q ∈ L, v = Value.ref q.1) → ∃ M : List Ent, vs = M.map (fun q => Value.ref q.1) ∧ ∀ q ∈ M, q ∈ L
  | [], _, _ => ⟨[], rfl, fun q hq => (by cases hq)⟩
  | v :: vs, L, h => by
    obtain ⟨q, hq, e⟩ := h v List.mem_cons_self
    obtain ⟨M, e1, hs⟩ := refs_back fun u hu => h u (List.mem_cons_of_mem _ hu)
    refine ⟨q :: M, by rw [List.map_cons, e, e1], fun r hr => ?_⟩
    rcases List.mem_cons.mp hr with z | z
    · rw [z]; exact hq
    · exact hs r z
theorem SetR.one (Z : SetR fn w s.heap a L es ep t) {q r : Ent} (hq : q ∈ L) (hr : r ∈ L) (e : q.1 = r.1) : q = r := by
  have a1 := Z.each q hq
  rw [e] at a1
  exact Prod.ext e (a1.inj (Z.each r hr))
theorem SetR.nodupL (Z : SetR fn w s.heap a L es ep t) : L.Nodup := nodup_of_map Z.nd
theorem SetR.permOf (Z : SetR fn w s.heap a L es ep t) {M : List Ent} (hs : ∀ q ∈ M, q ∈ L) (pm : (M.map fun q => Value.ref q.1).Perm (L.map fun q => Value.ref q.1)) : M.Perm L := by
  have nref : (L.map fun q => Value.ref q.1).Nodup := List.pairwise_map.mpr (List.Pairwise.imp_of_mem (fun {q r} hq hr hne e => by
    injection e with e
    exact hne (Z.one hq hr e)) Z.nodupL)
  refine (List.perm_ext_iff_of_nodup (nodup_of_map (pm.nodup_iff.mpr nref)) Z.nodupL).mpr fun q => ⟨hs q, fun hq => ?_⟩
  obtain ⟨r, hr, e⟩ := List.mem_map.mp (pm.mem_iff.mpr (List.mem_map.mpr ⟨q, hq, rfl⟩))
  injection e with e
  rw [← Z.one (hs r hr) hq e]
  exact hr
theorem each_refs {R : Value → Ent → Prop} : ∀ {M : List Ent}, (∀ q ∈ M, R (.ref q.1) q) → PySem.W.EachIs R (M.map fun q => Value.ref q.1) M
  | [], _ => .nil
  | q :: M, h => .cons (h q List.mem_cons_self) (each_refs fun r hr => h r (List.mem_cons_of_mem _ hr))
theorem refs_each : ∀ {vs : List Value} {M : List Ent}, PySem.W.EachIs (fun v (q : Ent) => v = Value.ref q.1) vs M → vs = M.map fun q => Value.ref q.1
  | _, _, .nil => rfl
  | _, _, .cons h t => by rw [List.map_cons, h, refs_each t]
/-- sorted(set) -/
theorem sorted_rules {Q : Value → Shared → Prop} (Z : SetR fn w s.heap a L es ep t) (hh : A.handled = none) (ok : ∀ p ∈ L, ROk p.2) (hu : A.units + 16 < cLine)
    (hQ : ∀ s' p (out : Array Value) (c : Nat) (M : List Ent), (∀ b o, s.heap.get? b = some o → s'.heap.get? b = some o) → s'.gens = s.gens → s'.os = s.os → s.heap.objs.size ≤ p →
      s'.heap.get? p = some (seqObj "list" out c) → out.toList = M.map (fun q => Value.ref q.1) → M.Perm L → M.Pairwise (fun q r => rcode q.2 ≤ rcode r.2) → Q (.ref p) s') :
    wpAny (model P w) A (call (.builtin "sorted") [.ref a]) Q E s := by
  obtain ⟨o, ho, hex, hd⟩ := Z.ob
  have few := Z.few
  have esz := Z.size
  refine Calls.call_function_entry kind_sorted plain_sorted entry_sorted (args_sorted1 _) ?_
  unfold Builtin.«sorted»
  refine wpAny_bind (m := checkCount "sorted" 1 1 _) (wpAny_pure ?_)
  refine wpAny_bind (collect_set (A := A.in1) hh ⟨o, ho, hex.1, hd⟩ Z.fits (by unfold scanBound; omega) Z.tab.ris Z.led fun s1 vs k1 hz g1 o1 pm => ?_)
  have em : es.toList.map (·.2) = L.map fun q => Value.ref q.1 := by
    rw [Z.rows, List.map_map]
    rfl
  rw [em] at pm
  obtain ⟨M, rfl, sub⟩ := refs_back (L := L) fun v hv => by
    obtain ⟨q, hq, e⟩ := List.mem_map.mp (pm.mem_iff.mp hv)
    exact ⟨q, hq, e.symm⟩
  have pM : M.Perm L := Z.permOf sub pm
  have mlen : M.length < 64 := by rw [pM.length_eq]; exact few
  refine wpAny_bind (wpAny_newList ?_ (by rw [List.length_map, sizeLine_eq]; omega))
  have hoL : (s1.heap.push (seqObj "list" (M.map fun q => Value.ref q.1).toArray 0)).get? s1.heap.objs.size = some (seqObj "list" (M.map fun q => Value.ref q.1).toArray 0) := Heap.get?_push_size _ rfl
  refine wpAny_bind (wpAny_holding (PySem.W.list_sort_data (s := { s1 with heap := s1.heap.push (seqObj "list" (M.map fun q => Value.ref q.1).toArray 0) }) (bs := M) (enc := fun q : Ent => ruleD q.2) (R := fun v (q : Ent) => v = .ref q.1) hoL (each_refs fun q _ => rfl)
    (each_refs fun q hq => ⟨[], ((Z.each q (sub q hq)).keep fun b u e => Heap.get?_push_of_some _ (k1 b u e)).reads, by simp⟩) (PySem.W.AllAlike.of fun b b' => rule_alike _ _) (PySem.W.Sortable.tuples fun b => ⟨_, _, rfl⟩) (by rw [sizeLine_eq]; omega)
    (fun b _ => by simp [ruleD, wantD, PyData.depth, PyData.depthAll]; omega) fun out hl eo => ?_))
  have ec := refs_each eo
  have srt : M.mergeSort (PySem.W.dataLe false fun q : Ent => ruleD q.2) = M.mergeSort fun q r => decide (rcode q.2 ≤ rcode r.2) := PySem.W.sort_congr fun p hp q hq => by
    show PySem.W.dataLe false ruleD p.2 q.2 = _
    exact rule_le (ok p (sub p hp)) (ok q (sub q hq))
  rw [srt] at ec
  obtain ⟨c, hc⟩ := sortedHeap_at (vs := M.map fun q => Value.ref q.1) (out := out.toArray) hoL
  refine wpAny_pure ⟨_, rfl, hQ _ s1.heap.objs.size out.toArray c _ (fun b u e => ?_) g1 o1 hz hc (by simpa using ec) ((List.mergeSort_perm _ _).trans pM) ?_⟩
  · have q := k1 b u e
    have lt := Heap.lt_size q
    show (sortedHeap (s1.heap.push _) s1.heap.objs.size _ _).get? b = some u
    rw [sortedHeap_old (Nat.ne_of_lt lt) (by rw [size_push']; exact Nat.lt_succ_of_lt lt)]
    exact Heap.get?_push_of_some _ q
  · refine List.Pairwise.imp (fun h => of_decide_eq_true h) (List.pairwise_mergeSort (fun a b c h1 h2 => ?_) (fun a b => ?_) M)
    · have h1 := of_decide_eq_true h1
      have h2 := of_decide_eq_true h2
      exact decide_eq_true (by omega)
    · rw [Bool.or_eq_true, decide_eq_true_eq, decide_eq_true_eq]
      omega
end
section
variable {X : Cx}
theorem Inv.rule_raw {pins : List (Addr × Obj)} {σ : L2.St} {H : Hp} {s : Shared} (I : Inv X pins σ H s) {x : V} {r : Rule} (h : Dt H x (ruleD r)) : ∃ a, x = .ref a ∧ IsR s.heap r a := by
  obtain ⟨a, b, c, rfl, ha, hb, hc⟩ := h.of_rule
  obtain ⟨t1, t2, pb⟩ := Inv.want_raw I hb
  obtain ⟨t3, t4, pc⟩ := Inv.want_raw I hc
  obtain ⟨its, rv, p, _⟩ := I.tuple (SqT.of ha)
  cases rv with
  | cons r1 rv =>
    cases rv with
    | cons r2 rv =>
      cases rv
      cases r1
      cases r2
      exact ⟨a, rfl, b, c, t1, t2, t3, t4, p, pb, pc⟩
/-- the rules of a list, with their addresses -/
theorem ents_of {pins : List (Addr × Obj)} {σ : L2.St} {H : Hp} {s : Shared} (I : Inv X pins σ H s) : ∀ {xs : List V} {us : List Value} {rs : List Rule}, Vals xs us → Da H xs (rs.map ruleD) →
    ∃ ks : List Ent, us = ks.map (fun p => Value.ref p.1) ∧ ks.map (·.2) = rs ∧ ∀ p ∈ ks, IsR s.heap p.2 p.1 ∧ Dt H (.ref p.1) (ruleD p.2)
  | _, _, [], .nil, _ => ⟨[], rfl, rfl, fun p hp => (by cases hp)⟩
  | _, _, r :: rs, .nil, d => nomatch (show Da H [] (ruleD r :: rs.map ruleD) from d)
  | _, _, [], .cons _ _, d => nomatch (show Da H (_ :: _) [] from d)
  | _, _, r :: rs, .cons r1 rv, d => by
    have d' : Da H (_ :: _) (ruleD r :: rs.map ruleD) := d
    cases d' with
    | cons h q =>
      obtain ⟨a, rfl, x⟩ := Inv.rule_raw I h
      cases r1
      obtain ⟨ks, e1, e2, e3⟩ := ents_of I rv q
      refine ⟨(a, r) :: ks, by rw [e1]; rfl, by rw [List.map_cons, e2], fun p hp => ?_⟩
      rcases List.mem_cons.mp hp with e | hp
      · rw [e]; exact ⟨x, h⟩
      · exact e3 p hp
theorem da_ents {H : Hp} : ∀ {M : List Ent}, (∀ p ∈ M, Dt H (.ref p.1) (ruleD p.2)) → Da H (M.map fun p => V.ref p.1) ((M.map (·.2)).map ruleD)
  | [], _ => .nil
  | p :: M, h => .cons (h p List.mem_cons_self) (da_ents fun q hq => h q (List.mem_cons_of_mem _ hq))
theorem vals_ents : ∀ (M : List Ent), Vals (M.map fun p => V.ref p.1) (M.map fun p => Value.ref p.1)
  | [] => .nil
  | p :: M => .cons rfl (vals_ents M)
theorem strict_of {M : List Ent} (h : M.Pairwise (fun q r => rcode q.2 ≤ rcode r.2)) (nd : (M.map (·.2)).Nodup) (ok : ∀ p ∈ M, ROk p.2) : (M.map (·.2)).Pairwise (fun r t => rcode r < rcode t) := by
  have n2 : M.Pairwise (fun q r => q.2 ≠ r.2) := List.pairwise_map.mp nd
  refine List.pairwise_map.mpr ((h.and n2).imp_of_mem fun {p q} hp hq z => ?_)
  have ne : rcode p.2 ≠ rcode q.2 := fun e => z.2 (rcode_inj (ok p hp) (ok q hq) e)
  have := z.1
  omega
/-- sorted(set(e)), e a list of rules: a new list of them, each once, ascending -/
def tSortSet (te : TE) : TE := fun σ H Q => te σ H fun x H1 => ∃ (l : Addr) (rs : List Rule), x = V.ref l ∧ Ls H1 l (rs.map ruleD) ∧ rs.length < 64 ∧ (∀ r ∈ rs, ROk r) ∧
  ∀ (p : Addr) (xs : List V) (ts : List Rule), H1 p = none → Da H1 xs (ts.map ruleD) → ts.length < 64 → (∀ r ∈ ts, r ∈ rs) → ts.Pairwise (fun r t => rcode r < rcode t) → Q (.ref p) (upd H1 p (.lst xs))
theorem pe_sortSet {a : Expr} {ta : TE} {p p2 q pos : Pos} (hu : X.A.units + 64 < cLine) (hc : X.calm = true) (hg : Gl X "sorted") (hm : X.mg "sorted" = none) (hg2 : Gl X "set") (hm2 : X.mg "set" = none) (ha : PE X a ta)
    (na : starEach [a] X.env = (false, eval a X.env) :: starEach [] X.env := by rfl) (nb : starEach [.Call (.Name "set" p2) [a] [] q] X.env = (false, eval (.Call (.Name "set" p2) [a] [] q) X.env) :: starEach [] X.env := by rfl) :
    PE X (.Call (.Name "sorted" p) [.Call (.Name "set" p2) [a] [] q] [] pos) (tSortSet ta) := by
  refine ⟨fun pins s σ H Q I h => ?_⟩
  refine Call_ (ld_blt I hg hm (by decide +kernel : bootBuiltins "sorted" = some (.builtin "sorted")) ?_)
  refine PyProof.Rows.callWith_builtin1 (PyProof.Rows.args_cons ?_ rfl) nb rfl
  refine Call_ (ld_blt I hg2 hm2 PyProof.Rows.boot_set ?_)
  refine PyProof.Rows.callWith_type1 (PyProof.Rows.args_cons (thn (ha.run pins s σ H _ I h) fun v s1 ⟨x, H1, I1, r1, l, rs, ex, hl, few, ok, q1⟩ => PyProof.Rows.args_nil ?_) na) na rfl
  subst ex
  cases r1
  obtain ⟨xs, hxl, hxd⟩ := hl
  obtain ⟨its, rv, pl, hz⟩ := I1.list (SqL.of hxl)
  obtain ⟨ks, e1, e2, e3⟩ := ents_of I1 rv hxd
  subst e1
  have klen : ks.length = rs.length := by rw [← e2, List.length_map]
  refine call_set_rules ks (I1.ok.hd hc) pl.isList (by simp) (fun p hp => (e3 p hp).1) (by omega) (by omega) fun h' tk L es ep t Z g k => ?_
  have I2 : Inv X pins σ H1 { s1 with heap := h', toks := tk } := I1.kept k
  have sub : ∀ p ∈ L, p ∈ ks := fun p hp => List.mem_of_mem_take (g.sub p hp)
  have okL : ∀ p ∈ L, ROk p.2 := fun p hp => ok p.2 (by rw [← e2]; exact List.mem_map.mpr ⟨p, sub p hp, rfl⟩)
  refine PyProof.Rows.args_nil (sorted_rules (s := { s1 with heap := h', toks := tk }) Z (I1.ok.hd hc) okL (by omega) fun s' pp out c M k2 gg oo hp hg' hout pm pw => ?_)
  have subM : ∀ p ∈ M, p ∈ ks := fun p hp => sub p (pm.mem_iff.mp hp)
  have few2 : M.length < 64 := by rw [pm.length_eq]; exact Z.few
  have hn : H1 pp = none := I2.hok.fresh hp
  have hv : Vals (M.map fun q => V.ref q.1) out.toList := by rw [hout]; exact vals_ents M
  have J : Inv X pins σ (upd H1 pp (.lst (M.map fun q => V.ref q.1))) { ({ s1 with heap := h', toks := tk } : Shared) with heap := s'.heap, gens := s'.gens, drawn := s'.drawn, toks := s'.toks } :=
    I2.call (ch := []) (Un.laid k2 hp hn) (I2.hok.laid k2 hp ⟨by rw [List.length_map, sizeLine_eq]; omega, out.toList, c, hv, hg'⟩) (by rw [gg]; exact I2.bare) (fun _ z => nomatch z)
  have e : s' = { ({ s1 with heap := h', toks := tk } : Shared) with heap := s'.heap, gens := s'.gens, drawn := s'.drawn, toks := s'.toks } := by
    cases s'
    cases s1
    cases oo
    rfl
  rw [e]
  refine ⟨.ref pp, _, J, rfl, q1 pp _ (M.map (·.2)) hn (da_ents fun p hp => (e3 p (subM p hp)).2) (by rw [List.length_map]; exact few2) (fun r hr => ?_) (strict_of pw ((pm.map (·.2)).nodup_iff.mpr Z.nd) fun p hp => okL p (pm.mem_iff.mp hp))⟩
  obtain ⟨p, hp, e⟩ := List.mem_map.mp hr
  rw [← e2, ← e]
  exact List.mem_map.mpr ⟨p, subM p hp, rfl⟩
end
end Mr

/-! Mr.T: the text by places, its scopes, and what the top leaves. Printed by gen_t.py. -/
namespace Mr
open PySem PySem.Spec PyProof.Rows L2
def topM (i : Nat) : Stmt := PySem.Challenge.pw_middlerows_k69_whole_cheapest_rows.main.body.getD i (.Pass ⟨0, 0, 0, 0⟩)
abbrev sIsFrom : Stmt := topM 9
abbrev sIsWantOf : Stmt := topM 10
abbrev sOff : Stmt := topM 11
abbrev sIsRuleOf : Stmt := topM 12
abbrev sNeedRules : Stmt := topM 14
abbrev sHas : Stmt := topM 15
abbrev sIsKept : Stmt := topM 16
abbrev sAreKept : Stmt := topM 17
abbrev sAllRows : Stmt := topM 18
abbrev sKeptRows : Stmt := topM 19
abbrev sNeedPrices : Stmt := topM 22
abbrev sCostOf : Stmt := topM 23
abbrev sBestRows : Stmt := topM 24
abbrev sCheapest : Stmt := topM 25
abbrev sAllCheapest : Stmt := topM 26
abbrev sDearestOne : Stmt := topM 27
abbrev sLTaken : Stmt := topM 29
abbrev sLPick : Stmt := topM 30
abbrev sLAlike : Stmt := topM 31
abbrev sLAllRules : Stmt := topM 32
abbrev sLRows : Stmt := topM 33
abbrev sLKeeps : Stmt := topM 34
abbrev sLKept : Stmt := topM 35
abbrev sLSomeRules : Stmt := topM 36
abbrev sLDrawn : Stmt := topM 37
abbrev sLPrices : Stmt := topM 38
abbrev sLCost : Stmt := topM 39
abbrev sLaw : Stmt := topM 40
abbrev sInit : Stmt := inClass (topM 13) 0
abbrev nIsFrom : List Str := ["value", "low", "high"]
theorem scIsFrom : FnScope nIsFrom ["value", "low", "high"] (defScope sIsFrom) := ⟨rfl, rfl, rfl, by decide +kernel, rfl, by decide +kernel, by decide +kernel⟩
abbrev nIsWantOf : List Str := ["many", "value"]
theorem scIsWantOf : FnScope nIsWantOf ["many", "value"] (defScope sIsWantOf) := ⟨rfl, rfl, rfl, by decide +kernel, rfl, by decide +kernel, by decide +kernel⟩
abbrev nOff : List Str := ["want"]
theorem scOff : FnScope nOff ["want"] (defScope sOff) := ⟨rfl, rfl, rfl, by decide +kernel, rfl, by decide +kernel, by decide +kernel⟩
abbrev nIsRuleOf : List Str := ["many", "value", "want"]
theorem scIsRuleOf : FnScope nIsRuleOf ["many", "value"] (defScope sIsRuleOf) := ⟨rfl, rfl, rfl, by decide +kernel, rfl, by decide +kernel, by decide +kernel⟩
abbrev nNeedRules : List Str := ["rules"]
theorem scNeedRules : FnScope nNeedRules ["rules"] (defScope sNeedRules) := ⟨rfl, rfl, rfl, by decide +kernel, rfl, by decide +kernel, by decide +kernel⟩
abbrev nHas : List Str := ["row", "want"]
theorem scHas : FnScope nHas ["row", "want"] (defScope sHas) := ⟨rfl, rfl, rfl, by decide +kernel, rfl, by decide +kernel, by decide +kernel⟩
abbrev nIsKept : List Str := ["rule", "row"]
theorem scIsKept : FnScope nIsKept ["rule", "row"] (defScope sIsKept) := ⟨rfl, rfl, rfl, by decide +kernel, rfl, by decide +kernel, by decide +kernel⟩
abbrev nAreKept : List Str := ["told", "row", "rule"]
theorem scAreKept : FnScope nAreKept ["told", "row"] (defScope sAreKept) := ⟨rfl, rfl, rfl, by decide +kernel, rfl, by decide +kernel, by decide +kernel⟩
abbrev nAllRows : List Str := ["many", "found", "place", "row", "value"]
theorem scAllRows : FnScope nAllRows ["many"] (defScope sAllRows) := ⟨rfl, rfl, rfl, by decide +kernel, rfl, by decide +kernel, by decide +kernel⟩
abbrev nKeptRows : List Str := ["rules", "row"]
theorem scKeptRows : FnScope nKeptRows ["rules"] (defScope sKeptRows) := ⟨rfl, rfl, rfl, by decide +kernel, rfl, by decide +kernel, by decide +kernel⟩
abbrev nNeedPrices : List Str := ["rules", "prices", "price"]
theorem scNeedPrices : FnScope nNeedPrices ["rules", "prices"] (defScope sNeedPrices) := ⟨rfl, rfl, rfl, by decide +kernel, rfl, by decide +kernel, by decide +kernel⟩
abbrev nCostOf : List Str := ["prices", "row", "price", "value"]
theorem scCostOf : FnScope nCostOf ["prices", "row"] (defScope sCostOf) := ⟨rfl, rfl, rfl, by decide +kernel, rfl, by decide +kernel, by decide +kernel⟩
abbrev nBestRows : List Str := ["rules", "prices", "rows", "least", "row"]
theorem scBestRows : FnScope nBestRows ["rules", "prices"] (defScope sBestRows) := ⟨rfl, rfl, rfl, by decide +kernel, rfl, by decide +kernel, by decide +kernel⟩
abbrev nCheapest : List Str := ["rules", "prices", "found"]
theorem scCheapest : FnScope nCheapest ["rules", "prices"] (defScope sCheapest) := ⟨rfl, rfl, rfl, by decide +kernel, rfl, by decide +kernel, by decide +kernel⟩
abbrev nAllCheapest : List Str := ["rules", "prices", "found"]
theorem scAllCheapest : FnScope nAllCheapest ["rules", "prices"] (defScope sAllCheapest) := ⟨rfl, rfl, rfl, by decide +kernel, rfl, by decide +kernel, by decide +kernel⟩
abbrev nDearestOne : List Str := ["rules", "prices", "place", "free", "rows", "ones", "others", "most", "row"]
theorem scDearestOne : FnScope nDearestOne ["rules", "prices", "place"] (defScope sDearestOne) := ⟨rfl, rfl, rfl, by decide +kernel, rfl, by decide +kernel, by decide +kernel⟩
abbrev nLTaken : List Str := ["_law_row", "_law_many", "_law_found", "_law_cell"]
theorem scLTaken : FnScope nLTaken ["_law_row", "_law_many"] (defScope sLTaken) := ⟨rfl, rfl, rfl, by decide +kernel, rfl, by decide +kernel, by decide +kernel⟩
abbrev nLPick : List Str := ["_law_row", "_law_things"]
theorem scLPick : FnScope nLPick ["_law_row", "_law_things"] (defScope sLPick) := ⟨rfl, rfl, rfl, by decide +kernel, rfl, by decide +kernel, by decide +kernel⟩
abbrev nLAlike : List Str := ["_law_found", "_law_due", "_law_k"]
theorem scLAlike : FnScope nLAlike ["_law_found", "_law_due"] (defScope sLAlike) := ⟨rfl, rfl, rfl, by decide +kernel, rfl, by decide +kernel, by decide +kernel⟩
abbrev nLAllRules : List Str := ["_law_many", "_law_wants", "_law_found", "_law_place", "_law_at", "_law_other"]
theorem scLAllRules : FnScope nLAllRules ["_law_many"] (defScope sLAllRules) := ⟨rfl, rfl, rfl, by decide +kernel, rfl, by decide +kernel, by decide +kernel⟩
abbrev nLRows : List Str := ["_law_many", "_law_found", "_law_place", "_law_row"]
theorem scLRows : FnScope nLRows ["_law_many"] (defScope sLRows) := ⟨rfl, rfl, rfl, by decide +kernel, rfl, by decide +kernel, by decide +kernel⟩
abbrev nLKeeps : List Str := ["_law_rules", "_law_row", "_law_one", "_law_other"]
theorem scLKeeps : FnScope nLKeeps ["_law_rules", "_law_row"] (defScope sLKeeps) := ⟨rfl, rfl, rfl, by decide +kernel, rfl, by decide +kernel, by decide +kernel⟩
abbrev nLKept : List Str := ["_law_many", "_law_rules", "_law_row"]
theorem scLKept : FnScope nLKept ["_law_many", "_law_rules"] (defScope sLKept) := ⟨rfl, rfl, rfl, by decide +kernel, rfl, by decide +kernel, by decide +kernel⟩
abbrev nLSomeRules : List Str := ["_law_row", "_law_many", "_law_every", "_law_found", "_law_way", "_law_planted", "_law_size", "_law_turn", "_law_at", "_law_rule"]
theorem scLSomeRules : FnScope nLSomeRules ["_law_row", "_law_many"] (defScope sLSomeRules) := ⟨rfl, rfl, rfl, by decide +kernel, rfl, by decide +kernel, by decide +kernel⟩
abbrev nLDrawn : List Str := ["_law_row", "_law_most", "_law_many"]
theorem scLDrawn : FnScope nLDrawn ["_law_row", "_law_most"] (defScope sLDrawn) := ⟨rfl, rfl, rfl, by decide +kernel, rfl, by decide +kernel, by decide +kernel⟩
abbrev nLPrices : List Str := ["_law_row", "_law_many", "_law_low", "_law_high", "_law_place"]
theorem scLPrices : FnScope nLPrices ["_law_row", "_law_many"] (defScope sLPrices) := ⟨rfl, rfl, rfl, by decide +kernel, rfl, by decide +kernel, by decide +kernel⟩
abbrev nLCost : List Str := ["_law_prices_here", "_law_row", "_law_at"]
theorem scLCost : FnScope nLCost ["_law_prices_here", "_law_row"] (defScope sLCost) := ⟨rfl, rfl, rfl, by decide +kernel, rfl, by decide +kernel, by decide +kernel⟩
abbrev nLaw : List Str := ["_law_script", "_law_row", "_law_many", "_law_told", "_law_rules", "_law_rows_here", "_law_prices_here", "_law_costs", "_law_due", "_law_place", "_law_free", "_law_ones", "_law_others", "_law_some", "_law_one", "_law_cost_here", "_law_price"]
theorem scLaw : FnScope nLaw ["_law_script"] (defScope sLaw) := ⟨rfl, rfl, rfl, by decide +kernel, rfl, by decide +kernel, by decide +kernel⟩
abbrev nInit : List Str := ["self", "many", "rules", "index", "rule"]
theorem scInit : FnScope nInit ["self", "many", "rules"] (defScope sInit) := ⟨rfl, rfl, rfl, by decide +kernel, rfl, by decide +kernel, by decide +kernel⟩
/-- a def of the top: where it stands, how it is called -/
structure Df (K : PySem.W.Frag) (mg : Str → Option Value) (x : Str) (ps : List Str) (st : Stmt) where
  f : Addr
  fd : FuncData
  F : Fun K x x st f fd
  b : Binds K fd ps []
  g : mg x = some (.ref f)
theorem Df.kp {K : PySem.W.Frag} {mg : Str → Option Value} {x : Str} {ps : List Str} {st : Stmt} (D : Df K mg x ps st) : PySem.W.keepIn K (.ref D.f) = true := D.F.kp
/-- what the top leaves -/
structure Prog (K : PySem.W.Frag) (mg : Str → Option Value) where
  dIsFrom : Df K mg "is_from" ["value", "low", "high"] sIsFrom
  dIsWantOf : Df K mg "is_want_of" ["many", "value"] sIsWantOf
  dOff : Df K mg "off" ["want"] sOff
  dIsRuleOf : Df K mg "is_rule_of" ["many", "value"] sIsRuleOf
  dNeedRules : Df K mg "need_rules" ["rules"] sNeedRules
  dHas : Df K mg "has" ["row", "want"] sHas
  dIsKept : Df K mg "is_kept" ["rule", "row"] sIsKept
  dAreKept : Df K mg "are_kept" ["told", "row"] sAreKept
  dAllRows : Df K mg "all_rows" ["many"] sAllRows
  dKeptRows : Df K mg "kept_rows" ["rules"] sKeptRows
  dNeedPrices : Df K mg "need_prices" ["rules", "prices"] sNeedPrices
  dCostOf : Df K mg "cost_of" ["prices", "row"] sCostOf
  dBestRows : Df K mg "best_rows" ["rules", "prices"] sBestRows
  dCheapest : Df K mg "cheapest" ["rules", "prices"] sCheapest
  dAllCheapest : Df K mg "all_cheapest" ["rules", "prices"] sAllCheapest
  dDearestOne : Df K mg "dearest_one" ["rules", "prices", "place"] sDearestOne
  dLTaken : Df K mg "_law_taken" ["_law_row", "_law_many"] sLTaken
  dLPick : Df K mg "_law_pick" ["_law_row", "_law_things"] sLPick
  dLAlike : Df K mg "_law_alike" ["_law_found", "_law_due"] sLAlike
  dLAllRules : Df K mg "_law_all_rules" ["_law_many"] sLAllRules
  dLRows : Df K mg "_law_rows" ["_law_many"] sLRows
  dLKeeps : Df K mg "_law_keeps" ["_law_rules", "_law_row"] sLKeeps
  dLKept : Df K mg "_law_kept" ["_law_many", "_law_rules"] sLKept
  dLSomeRules : Df K mg "_law_some_rules" ["_law_row", "_law_many"] sLSomeRules
  dLDrawn : Df K mg "_law_drawn" ["_law_row", "_law_most"] sLDrawn
  dLPrices : Df K mg "_law_prices" ["_law_row", "_law_many"] sLPrices
  dLCost : Df K mg "_law_cost" ["_law_prices_here", "_law_row"] sLCost
  dLaw : Df K mg "law" ["_law_script"] sLaw
  C : Addr
  fI : Addr
  fdI : FuncData
  FI : Fun K "__init__" "Rules.__init__" sInit fI fdI
  bI : Binds K fdI ["self", "many", "rules"] []
  M : Mk K C fI
  ic : C8.InsC K C
  nW : NoAttr K C "wide"
  nT : NoAttr K C "told"
  gC : mg "Rules" = some (.ref C)

  gMOSTPLACES : ∃ t, mg "MOST_PLACES" = some (.int 8 t)
  gMOSTPRICE : ∃ t, mg "MOST_PRICE" = some (.int 50 t)
  z_isinstance : mg "isinstance" = none
  z_int : mg "int" = none
  z_bool : mg "bool" = none
  z_tuple : mg "tuple" = none
  z_len : mg "len" = none
  z_all : mg "all" = none
  z_enumerate : mg "enumerate" = none
  z_range : mg "range" = none
  z_zip : mg "zip" = none
  z_sum : mg "sum" = none
  z_min : mg "min" = none
  z_list : mg "list" = none
  z_str : mg "str" = none
  z_sorted : mg "sorted" = none
  z_set : mg "set" = none
end Mr

/-! Mr.D1: is_from, off, has, is_want_of, need_rules, is_kept. -/
namespace Mr
open PySem PySem.Spec PyProof.Rows L2
section
variable {P : Program} {w : World} {K : PySem.W.Frag} {mg : Str → Option Value} {base : Heap}

def spIsFrom : Sp := fun vs H Q _ => ∃ v lo hi : Int, vs = [.int v, .int lo, .int hi] ∧ Q (.bl (decide (lo ≤ v) && decide (v ≤ hi))) H
theorem ok_is_from (T : Prog K mg) : FnOk P w K mg base CX0 1 T.dIsFrom.f T.dIsFrom.fd ["value", "low", "high"] spIsFrom := by
  refine T.dIsFrom.F.ok scIsFrom (fun vs H Q E h => ?_) (fun cdv A outer s H vs Q E hr h => ?_)
  · obtain ⟨_, _, _, rfl, _⟩ := h
    rfl
  · obtain ⟨v, lo, hi, rfl, q⟩ := h
    refine ⟨_, pss_one (ps_ret (pe_and (pe_callB call_isi (by rfl) T.z_isinstance PyProof.Rows.boot_isinstance (pa_cons (pv 0) (pa_cons (pe_bltn (v := .ty "int") (by rfl) T.z_int (by decide +kernel) rfl) pa_nil)))
      (pe_and (pe_not (pe_callB call_isi (by rfl) T.z_isinstance PyProof.Rows.boot_isinstance (pa_cons (pv 0) (pa_cons (pe_bltn (v := .ty "bool") (by rfl) T.z_bool (by decide +kernel) rfl) pa_nil))))
        (pe_one (pe_chain op_le op_le (pv 1) (pv 0) (pv 2)))))), ?_⟩
    refine ⟨_, rfl, _, _, _, _, true, rfl, .ty "int", .base (.int v), kit_ty (by decide +kernel), true, rfl, iteT ?_⟩
    refine ⟨_, rfl, _, _, _, _, false, rfl, .ty "bool", .base (.int v), kit_ty (by decide +kernel), false, rfl, true, rfl, iteT ?_⟩
    refine ⟨_, rfl, _, rfl, lo, v, rfl, rfl, _, rfl, ?_⟩
    by_cases h1 : lo ≤ v
    · rw [decide_eq_true h1] at q ⊢
      refine iteT ⟨_, rfl, v, hi, rfl, rfl, ?_⟩
      rw [Bool.true_and] at q
      exact q
    · rw [decide_eq_false h1] at q ⊢
      exact iteF q

def spOff : Sp := fun vs H Q _ => ∃ (a : Addr) (u : Want), vs = [.ref a] ∧ H a = some (.tup [.int u.1, .int u.2]) ∧ ∀ p, H p = none → Q (.ref p) (upd H p (.tup [.int u.1, .int (1 - u.2)]))
theorem ok_off (T : Prog K mg) : FnOk P w K mg base CX0 1 T.dOff.f T.dOff.fd ["want"] spOff := by
  refine T.dOff.F.ok scOff (fun vs H Q E h => ?_) (fun cdv A outer s H vs Q E hr h => ?_)
  · obtain ⟨_, _, rfl, _⟩ := h
    rfl
  · obtain ⟨a, u, rfl, ha, q⟩ := h
    refine ⟨_, pss_one (ps_ret (pe_tup (pa_cons (pe_ix ix_tup (pv 0) pe_int (fun _ _ => rfl)) (pa_cons (pe_op op_sub pe_int (pe_ix ix_tup (pv 0) pe_int (fun _ _ => rfl))) pa_nil)))), ?_⟩
    refine ⟨_, rfl, a, _, 0, _, rfl, rfl, SqT.of ha, atI_nat (j := 0) rfl, _, rfl, a, _, 1, _, rfl, rfl, SqT.of ha, atI_nat (j := 1) rfl, 1, u.2, rfl, rfl, by show 2 ≤ sizeLine; decide, fun p np => ?_⟩
    exact q p np

/-- what stands at a place of a row -/
def at0 (row : Row) (p : Int) : Int := row.getD p.toNat 0
def hasW (row : Row) (u : Want) : Bool := decide (at0 row u.1 = u.2)
theorem at0_get {row : Row} {p : Int} (h0 : 0 ≤ p) (h1 : p < row.length) : atI (row.map V.int) p = some (.int (at0 row p)) := by
  obtain ⟨n, rfl⟩ : ∃ n : Nat, p = n := ⟨p.toNat, by omega⟩
  have hn : n < row.length := by omega
  refine atI_nat (j := n) ?_
  rw [List.getElem?_map, List.getElem?_eq_getElem hn]
  show some (V.int row[n]) = some (V.int (row.getD n 0))
  rw [List.getD_eq_getElem?_getD, List.getElem?_eq_getElem hn]
  rfl
def spHas : Sp := fun vs H Q _ => ∃ (a b : Addr) (row : Row) (u : Want), vs = [.ref a, .ref b] ∧ H a = some (.tup (row.map V.int)) ∧ H b = some (.tup [.int u.1, .int u.2]) ∧ 0 ≤ u.1 ∧ u.1 < row.length ∧ Q (.bl (hasW row u)) H
theorem ok_has (T : Prog K mg) : FnOk P w K mg base CX0 1 T.dHas.f T.dHas.fd ["row", "want"] spHas := by
  refine T.dHas.F.ok scHas (fun vs H Q E h => ?_) (fun cdv A outer s H vs Q E hr h => ?_)
  · obtain ⟨_, _, _, _, rfl, _⟩ := h
    rfl
  · obtain ⟨a, b, row, u, rfl, ha, hb, h0, h1, q⟩ := h
    refine ⟨_, pss_one (ps_ret (pe_cmp (pc_eqI (pe_ix ix_tup (pv 0) (pe_ix ix_tup (pv 1) pe_int (fun _ _ => rfl)) (fun _ _ => rfl)) (pe_ix ix_tup (pv 1) pe_int (fun _ _ => rfl))))), ?_⟩
    refine ⟨_, rfl, _, rfl, b, _, 0, _, rfl, rfl, SqT.of hb, atI_nat (j := 0) rfl, a, _, u.1, _, rfl, rfl, SqT.of ha, at0_get h0 h1, _, rfl, b, _, 1, _, rfl, rfl, SqT.of hb, atI_nat (j := 1) rfl, _, _, rfl, rfl, ?_⟩
    exact q

def WIn (m : Int) (u : Want) : Prop := 0 ≤ u.1 ∧ u.1 < m ∧ (u.2 = 0 ∨ u.2 = 1)
def spIsWantOf : Sp := fun vs H Q _ => ∃ (m : Int) (a : Addr) (u : Want), vs = [.int m, .ref a] ∧ H a = some (.tup [.int u.1, .int u.2]) ∧ WIn m u ∧ Q (.bl true) H
theorem ok_is_want_of (T : Prog K mg) : FnOk P w K mg base CX0 2 T.dIsWantOf.f T.dIsWantOf.fd ["many", "value"] spIsWantOf := by
  have G : FnOk P w K mg base CX0 1 T.dIsFrom.f T.dIsFrom.fd ["value", "low", "high"] spIsFrom := ok_is_from T
  refine T.dIsWantOf.F.ok scIsWantOf (fun vs H Q E h => ?_) (fun cdv A outer s H vs Q E hr h => ?_)
  · obtain ⟨_, _, _, rfl, _⟩ := h
    rfl
  · obtain ⟨m, a, u, rfl, ha, ⟨h0, h1, h2⟩, q⟩ := h
    refine ⟨_, pss_cons (ps_if (PW.pt (pw_or (pt_not (pt_val (pe_callB call_isi (by rfl) T.z_isinstance PyProof.Rows.boot_isinstance (pa_cons (pv 1) (pa_cons (pe_bltn (v := .ty "tuple") (by rfl) T.z_tuple (by decide +kernel) rfl) pa_nil)))))
        (pw_or1 (pt_cmpR op_ne (pe_callB call_len_seq (by rfl) T.z_len PySem.boot_len (pa_cons (pv 1) pa_nil)) pe_int (nomark _))))) pss_never pss_nil)
      (pss_one (ps_ret (pe_and (pe_call G hr (by rfl) T.dIsFrom.g T.dIsFrom.kp T.dIsFrom.b .nil pass0 (pa_cons (pe_ix ix_tup (pv 1) pe_int (fun _ _ => rfl)) (pa_cons pe_int (pa_cons (pe_op op_sub (pv 0) pe_int) pa_nil))))
        (pe_one (pe_call G hr (by rfl) T.dIsFrom.g T.dIsFrom.kp T.dIsFrom.b .nil pass0 (pa_cons (pe_ix ix_tup (pv 1) pe_int (fun _ _ => rfl)) (pa_cons pe_int (pa_cons pe_int pa_nil)))))))), ?_⟩
    refine ⟨_, rfl, _, _, _, _, true, rfl, .ty "tuple", .base (.tup ha), kit_ty (by decide +kernel), true, rfl, iteF ?_⟩
    refine ⟨_, rfl, a, _, rfl, .inr (SqT.of ha), rfl, false, rfl, iteF ?_⟩
    refine ⟨_, rfl, a, _, 0, _, rfl, rfl, SqT.of ha, atI_nat (j := 0) rfl, _, rfl, m, 1, rfl, rfl, u.1, 0, m - 1, rfl, true, ?_, iteT ?_⟩
    · rw [decide_eq_true h0, decide_eq_true (show u.1 ≤ m - 1 by omega)]
      rfl
    · refine ⟨_, rfl, a, _, 1, _, rfl, rfl, SqT.of ha, atI_nat (j := 1) rfl, u.2, 0, 1, rfl, ?_⟩
      rw [decide_eq_true (show (0 : Int) ≤ u.2 by omega), decide_eq_true (show u.2 ≤ 1 by omega)]
      exact q

/-- a Rules object: its places, its rules -/
def RulesAt (C : Addr) (H : Hp) (a : Addr) (m : Int) (rs : List Rule) : Prop := ∃ (dx t : Addr) (fs : List (Str × V)), H a = some (.ins C dx fs) ∧ fs.lookup ("wide" : Str) = some (.int m) ∧ fs.lookup ("told" : Str) = some (.ref t) ∧ Tp H t (rs.map ruleD)
theorem RulesAt.same {C : Addr} {H H' : Hp} {a : Addr} {m : Int} {rs : List Rule} (x : RulesAt C H a m rs) (s : Same H H') : RulesAt C H' a m rs :=
  let ⟨dx, t, fs, h, l1, l2, d⟩ := x
  ⟨dx, t, fs, s _ _ h, l1, l2, d.same s⟩
theorem RulesAt.but {p : Addr} {C : Addr} {H H' : Hp} {a : Addr} {m : Int} {rs : List Rule} {ys : List V} (x : RulesAt C H a m rs) (b : But p H H') (hp : H p = some (.lst ys)) : RulesAt C H' a m rs := by
  obtain ⟨dx, t, fs, h, l1, l2, xs, ht, d⟩ := x
  exact ⟨dx, t, fs, b a _ (ne_of h hp (by intro z; cases z)) h, l1, l2, xs, b t _ (ne_of ht hp (by intro z; cases z)) ht, d.k (b.kt hp)⟩
def spNeedRules (C : Addr) : Sp := fun vs H Q _ => ∃ (a : Addr) (m : Int) (rs : List Rule), vs = [.ref a] ∧ RulesAt C H a m rs ∧ Q .non H
theorem ok_need_rules (T : Prog K mg) : FnOk P w K mg base CX0 1 T.dNeedRules.f T.dNeedRules.fd ["rules"] (spNeedRules T.C) := by
  refine T.dNeedRules.F.ok scNeedRules (fun vs H Q E h => ?_) (fun cdv A outer s H vs Q E hr h => ?_)
  · obtain ⟨_, _, _, rfl, _⟩ := h
    rfl
  · obtain ⟨a, m, rs, rfl, ⟨dx, t, fs, ha, _⟩, q⟩ := h
    refine ⟨_, pss_one (ps_if (pt_not (pt_val (pe_callB (C8.call_isC T.ic) (by rfl) T.z_isinstance PyProof.Rows.boot_isinstance (pa_cons (pv 0) (pa_cons (pe_glob (v := .ref T.C) (by rfl) T.gC rfl) pa_nil))))) pss_never pss_nil), ?_⟩
    exact ⟨_, rfl, a, dx, fs, rfl, ha, true, rfl, iteF q⟩

def keepR (r : Rule) (row : Row) : Bool := hasW row r.1 || hasW row r.2
def RIn (m : Int) (r : Rule) : Prop := WIn m r.1 ∧ WIn m r.2
def spIsKept : Sp := fun vs H Q _ => ∃ (x y : V) (row : Row) (r : Rule), vs = [x, y] ∧ Dt H x (ruleD r) ∧ Dt H y (rowD row) ∧ RIn row.length r ∧ Q (.bl (keepR r row)) H
theorem ok_is_kept (T : Prog K mg) : FnOk P w K mg base CX0 2 T.dIsKept.f T.dIsKept.fd ["rule", "row"] spIsKept := by
  have G : FnOk P w K mg base CX0 1 T.dHas.f T.dHas.fd ["row", "want"] spHas := ok_has T
  refine T.dIsKept.F.ok scIsKept (fun vs H Q E h => ?_) (fun cdv A outer s H vs Q E hr h => ?_)
  · obtain ⟨_, _, _, _, rfl, _⟩ := h
    rfl
  · obtain ⟨x, y, row, r, rfl, hx, hy, ⟨i1, i2⟩, q⟩ := h
    obtain ⟨a, b, c, rfl, ha, hb, hc⟩ := hx.of_rule
    obtain ⟨d, rfl, hd⟩ := hy.of_row
    refine ⟨_, pss_one (ps_ret (pe_or (pe_call G hr (by rfl) T.dHas.g T.dHas.kp T.dHas.b .nil pass0 (pa_cons (pv 1) (pa_cons (pe_ix ix_tup (pv 0) pe_int (fun _ _ => rfl)) pa_nil)))
      (pe_one (pe_call G hr (by rfl) T.dHas.g T.dHas.kp T.dHas.b .nil pass0 (pa_cons (pv 1) (pa_cons (pe_ix ix_tup (pv 0) pe_int (fun _ _ => rfl)) pa_nil)))))), ?_⟩
    refine ⟨_, rfl, _, rfl, a, _, 0, _, rfl, rfl, SqT.of ha, atI_nat (j := 0) rfl, d, b, row, r.1, rfl, hd, hb, i1.1, i1.2.1, _, rfl, ?_⟩
    unfold keepR at q
    cases e : hasW row r.1 with
    | true =>
      rw [e, Bool.true_or] at q
      exact iteT q
    | false =>
      rw [e, Bool.false_or] at q
      exact iteF ⟨_, rfl, _, rfl, a, _, 1, _, rfl, rfl, SqT.of ha, atI_nat (j := 1) rfl, d, c, row, r.2, rfl, hd, hc, i2.1, i2.2.1, q⟩
end
end Mr

/-! Mr.D2: is_rule_of, are_kept. -/
namespace Mr
open PySem PySem.Spec PyProof.Rows L2
theorem shaped_want (u : Want) : SeqAt.shaped (wantD u) = true := rfl
theorem shaped_rule (r : Rule) : SeqAt.shaped (ruleD r) = true := rfl
theorem lex_want {u v : Want} (h : u.2 = 0 ∨ u.2 = 1) (k : v.2 = 0 ∨ v.2 = 1) :
    Ob.lexAt (fun j => decide (([u.1, u.2] : List Int).getD j 0 = ([v.1, v.2] : List Int).getD j 0)) (fun j => decide (([u.1, u.2] : List Int).getD j 0 ≤ ([v.1, v.2] : List Int).getD j 0)) (decide (([u.1, u.2] : List Int).length ≤ ([v.1, v.2] : List Int).length)) 0 (min ([u.1, u.2] : List Int).length ([v.1, v.2] : List Int).length) = decide (wcode u ≤ wcode v) := by
  show Ob.lexAt _ _ _ 0 2 = _
  simp only [Ob.lexAt]
  unfold wcode
  by_cases e1 : u.1 = v.1
  · by_cases e2 : u.2 = v.2
    · simp [e1, e2]
    · simp [e1, e2]
  · simp [e1]
    omega
section
variable {P : Program} {w : World} {K : PySem.W.Frag} {mg : Str → Option Value} {base : Heap}
/-- a rule of m places as the document says -/
structure RGood (m : Int) (r : Rule) : Prop where
  i : RIn m r
  le : wcode r.1 ≤ wcode r.2
  ne : r.2 ≠ (r.1.1, 1 - r.1.2)
def spIsRuleOf : Sp := fun vs H Q _ => ∃ (m : Int) (x : V) (r : Rule), vs = [.int m, x] ∧ Dt H x (ruleD r) ∧ RGood m r ∧ ∀ H', Same H H' → Q (.bl true) H'
theorem ok_is_rule_of (T : Prog K mg) : FnOk P w K mg base CX0 3 T.dIsRuleOf.f T.dIsRuleOf.fd ["many", "value"] spIsRuleOf := by
  have G : FnOk P w K mg base CX0 2 T.dIsWantOf.f T.dIsWantOf.fd ["many", "value"] spIsWantOf := ok_is_want_of T
  have G1 : FnOk P w K mg base CX0 1 T.dOff.f T.dOff.fd ["want"] spOff := ok_off T
  refine T.dIsRuleOf.F.ok scIsRuleOf (fun vs H Q E h => ?_) (fun cdv A outer s H vs Q E hr h => ?_)
  · obtain ⟨_, _, _, rfl, _⟩ := h
    rfl
  · obtain ⟨m, x, r, rfl, hx, good, q⟩ := h
    obtain ⟨a, b, c, rfl, ha, hb, hc⟩ := hx.of_rule
    have hr1 : Room 1 _ := hr.mono (by decide)
    refine ⟨_, pss_cons (ps_if (PW.pt (pw_or (pt_not (pt_val (pe_callB call_isi (by rfl) T.z_isinstance PyProof.Rows.boot_isinstance (pa_cons (pv 1) (pa_cons (pe_bltn (v := .ty "tuple") (by rfl) T.z_tuple (by decide +kernel) rfl) pa_nil)))))
        (pw_or (pt_cmpR op_ne (pe_callB call_len_seq (by rfl) T.z_len PySem.boot_len (pa_cons (pv 1) pa_nil)) pe_int (nomark _))
        (pw_or1 (pt_not (pt_val (pe_callB (cr_all rfl) (by rfl) T.z_all (by decide +kernel) (pa_cons (pe_lc (own := [("want", 2)]) (g := gName 2) (tt := tYes) rfl scIsRuleOf.nd (pi_tup (pv 1)) (blkOk_by (N := nIsRuleOf) (sc := defScope sIsRuleOf) (by decide +kernel))
          (fun _ _ _ _ _ => pg_name (i := 2) scIsRuleOf.nd rfl (Or.inl rfl)) (fun _ _ _ _ _ => pts_nil) (fun _ _ _ _ _ => pe_call G hr (by rfl) T.dIsWantOf.g T.dIsWantOf.kp T.dIsWantOf.b .nil pass0 (pa_cons (pv 0) (pa_cons (pv 2) pa_nil)))) pa_nil)))))))) pss_never pss_nil)
      (pss_one (ps_ret (pe_and (pe_cmpR (op_leT hr.units0) (pe_ix ix_tup (pv 1) pe_int (fun _ _ => rfl)) (pe_ix ix_tup (pv 1) pe_int (fun _ _ => rfl)) (nomark _))
        (pe_one (pe_cmpR (op_neD hr.units) (pe_ix ix_tup (pv 1) pe_int (fun _ _ => rfl)) (pe_call G1 hr1 (by rfl) T.dOff.g T.dOff.kp T.dOff.b .nil pass0 (pa_cons (pe_ix ix_tup (pv 1) pe_int (fun _ _ => rfl)) pa_nil)) (nomark _)))))), ?_⟩
    refine ⟨_, rfl, _, _, _, _, true, rfl, .ty "tuple", .base (.tup ha), kit_ty (by decide +kernel), true, rfl, iteF ?_⟩
    refine ⟨_, rfl, a, _, rfl, .inr (SqT.of ha), rfl, false, rfl, iteF ?_⟩
    refine ⟨_, rfl, a, rfl, ⟨_, SqT.of ha⟩, fun D hD => lc_dt (walk_tup (K := K) (xs := [V.ref b, V.ref c])) ([r.1, r.2] : List Want) (fun _ => true) (fun _ => .bool true) rfl (by show 2 < sizeLine; decide) hD (fun H' sm => SqT.of (sm _ _ ha)) (fun i u y H1 H1' Yes No hu sm yy yes no => ?_) (fun H1 ys sm hy dy => ?_)⟩
    · obtain ⟨rfl, hi⟩ := yy
      refine ⟨rfl, ?_⟩
      have hw : ∃ d, y = .ref d ∧ H1' d = some (.tup [.int u.1, .int u.2]) ∧ WIn m u := by
        match i, hu, hi with
        | 0, hu, hi =>
          cases hu
          cases hi
          exact ⟨b, rfl, sm _ _ hb, good.i.1⟩
        | 1, hu, hi =>
          cases hu
          cases hi
          exact ⟨c, rfl, sm _ _ hc, good.i.2⟩
        | i + 2, hu, _ => simp at hu
      obtain ⟨d, rfl, hd, hin⟩ := hw
      exact ⟨_, rfl, _, rfl, m, d, u, rfl, hd, hin, yes rfl _ _ (Same.refl _) (.bl true)⟩
    · have e : ys = ([true, true] : List Bool).map V.bl := dy.of_bools
      subst e
      refine ⟨D, [true, true], rfl, SqL.of hy, true, rfl, iteF ?_⟩
      have ha1 := sm _ _ ha
      have hb1 := sm _ _ hb
      have hc1 := sm _ _ hc
      refine ⟨_, rfl, a, _, 0, _, rfl, rfl, SqT.of ha1, atI_nat (j := 0) rfl, _, rfl, a, _, 1, _, rfl, rfl, SqT.of ha1, atI_nat (j := 1) rfl, b, c, [r.1.1, r.1.2], [r.2.1, r.2.2], rfl, rfl, SqT.of hb1, SqT.of hc1, true, ?_, iteT ?_⟩
      · rw [lex_want good.i.1.2.2 good.i.2.2.2, decide_eq_true good.le]
      · refine ⟨_, rfl, a, _, 1, _, rfl, rfl, SqT.of ha1, atI_nat (j := 1) rfl, _, rfl, a, _, 0, _, rfl, rfl, SqT.of ha1, atI_nat (j := 0) rfl, b, r.1, rfl, hb1, fun p np => ?_⟩
        have s2 : Same H1 (upd H1 p (.tup [.int r.1.1, .int (1 - r.1.2)])) := same_new np
        refine ⟨wantD r.2, wantD (r.1.1, 1 - r.1.2), (Dt.want (s2 _ _ hc1)).dp, (Dt.want (w := (r.1.1, 1 - r.1.2)) upd_same).dp, shaped_want _, shaped_want _, ?_⟩
        rw [want_eqv, decide_eq_false good.ne]
        exact q _ (sm.trans s2)

def keepAll (rs : List Rule) (row : Row) : Bool := rs.all fun r => keepR r row
def spAreKept : Sp := fun vs H Q _ => ∃ (t : Addr) (y : V) (rs : List Rule) (row : Row), vs = [.ref t, y] ∧ Tp H t (rs.map ruleD) ∧ rs.length ≤ 1000 ∧ Dt H y (rowD row) ∧ (∀ r ∈ rs, RIn row.length r) ∧ ∀ H', Same H H' → Q (.bl (keepAll rs row)) H'
theorem ok_are_kept (T : Prog K mg) : FnOk P w K mg base CX0 3 T.dAreKept.f T.dAreKept.fd ["told", "row"] spAreKept := by
  have G : FnOk P w K mg base CX0 2 T.dIsKept.f T.dIsKept.fd ["rule", "row"] spIsKept := ok_is_kept T
  refine T.dAreKept.F.ok scAreKept (fun vs H Q E h => ?_) (fun cdv A outer s H vs Q E hr h => ?_)
  · obtain ⟨_, _, _, _, rfl, _⟩ := h
    rfl
  · obtain ⟨t, y, rs, row, rfl, ⟨xs, ht, dx⟩, few, hy, hin, q⟩ := h
    refine ⟨_, pss_one (ps_ret (pe_callB (cr_all rfl) (by rfl) T.z_all (by decide +kernel) (pa_cons (pe_lc (own := [("rule", 2)]) (g := gName 2) (tt := tYes) rfl scAreKept.nd (pi_tup (pv 0)) (blkOk_by (N := nAreKept) (sc := defScope sAreKept) (by decide +kernel))
          (fun _ _ _ _ _ => pg_name (i := 2) scAreKept.nd rfl (Or.inl rfl)) (fun _ _ _ _ _ => pts_nil) (fun _ _ _ _ _ => pe_call G hr (by rfl) T.dIsKept.g T.dIsKept.kp T.dIsKept.b .nil pass0 (pa_cons (pv 2) (pa_cons (pv 1) pa_nil)))) pa_nil))), ?_⟩
    have hlen : xs.length = rs.length := by rw [dx.length, List.length_map]
    refine ⟨_, rfl, t, rfl, ⟨_, SqT.of ht⟩, fun D hD => lc_dt (walk_tup (K := K) (xs := xs)) rs (fun _ => true) (fun r => .bool (keepR r row)) hlen (small1000 few) hD (fun H' sm => SqT.of (sm _ _ ht)) (fun i r x H1 H1' Yes No hu sm yy yes no => ?_) (fun H1 ys sm hys dy => ?_)⟩
    · obtain ⟨rfl, hi⟩ := yy
      obtain ⟨d, hd, hdt⟩ := dx.got hi
      rw [List.getElem?_map, hu] at hd
      cases hd
      refine ⟨rfl, ?_⟩
      exact ⟨_, rfl, _, rfl, x, y, row, r, rfl, hdt.k (kt_same sm), hy.k (kt_same sm), hin r (List.mem_of_getElem? hu), yes rfl _ _ (Same.refl _) (.bl _)⟩
    · rw [List.filter_eq_self.mpr (fun _ _ => rfl)] at dy
      have e : ys = (rs.map fun r => keepR r row).map V.bl := by
        refine Da.of_bools (H := H1) ?_
        rw [List.map_map]
        exact dy
      subst e
      refine ⟨D, _, rfl, SqL.of hys, ?_⟩
      rw [List.all_map]
      exact q _ sm
end
end Mr

/-! Mr.D3: Rules.__init__. -/
namespace Mr
open PySem PySem.Spec PyProof.Rows L2
section
variable {P : Program} {w : World} {K : PySem.W.Frag} {mg : Str → Option Value} {base : Heap}
theorem tw_ne : ¬ (("wide" : Str) = "told") := by decide +kernel
def rulF (m : Int) (t : Addr) : List (Str × V) := putF "told" (.ref t) (putF "wide" (.int m) [])
theorem rulF_wide (m : Int) (t : Addr) : (rulF m t).lookup ("wide" : Str) = some (.int m) := by
  unfold rulF
  rw [lookup_putF, if_neg tw_ne, lookup_putF, if_pos rfl]
theorem rulF_told (m : Int) (t : Addr) : (rulF m t).lookup ("told" : Str) = some (.ref t) := by
  unfold rulF
  rw [lookup_putF, if_pos rfl]
theorem pair_lt {rs : List Rule} (h : rs.Pairwise (fun r t => rcode r < rcode t)) {i : Nat} {r t : Rule} (hr : rs[i]? = some r) (ht : rs[i + 1]? = some t) : rcode r < rcode t := by
  obtain ⟨h1, e1⟩ := List.getElem?_eq_some_iff.mp hr
  obtain ⟨h2, e2⟩ := List.getElem?_eq_some_iff.mp ht
  rw [← e1, ← e2]
  exact List.pairwise_iff_getElem.mp h i (i + 1) h1 h2 (Nat.lt_succ_self i)
theorem RIn.ok {m : Int} {r : Rule} (h : RIn m r) (hm : m ≤ 8) : ROk r := ⟨⟨h.1.1, by have := h.1.2.1; omega, h.1.2.2⟩, ⟨h.2.1, by have := h.2.2.1; omega, h.2.2.2⟩⟩
/-- rules that the class takes -/
structure RsGood (m : Int) (rs : List Rule) : Prop where
  lo : 1 ≤ m
  hi : m ≤ 8
  few : rs.length ≤ 1000
  good : ∀ r ∈ rs, RGood m r
  asc : rs.Pairwise (fun r t => rcode r < rcode t)
def spInit (C : Addr) : Sp := fun vs H Q _ => ∃ (p dx t : Addr) (m : Int) (rs : List Rule), vs = [.ref p, .int m, .ref t] ∧ H p = some (.ins C dx []) ∧ Tp H t (rs.map ruleD) ∧ RsGood m rs ∧ ∀ H', But p H H' → RulesAt C H' p m rs → Q .non H'
theorem ok_init (T : Prog K mg) : FnOk P w K mg base CX0 4 T.fI T.fdI ["self", "many", "rules"] (spInit T.C) := by
  have G : FnOk P w K mg base CX0 3 T.dIsRuleOf.f T.dIsRuleOf.fd ["many", "value"] spIsRuleOf := ok_is_rule_of T
  have G1 : FnOk P w K mg base CX0 1 T.dIsFrom.f T.dIsFrom.fd ["value", "low", "high"] spIsFrom := ok_is_from T
  obtain ⟨t8, g8⟩ := T.gMOSTPLACES
  refine T.FI.ok scInit (fun vs H Q E h => ?_) (fun cdv A outer s H vs Q E hr h => ?_)
  · obtain ⟨_, _, _, _, _, rfl, _⟩ := h
    rfl
  · obtain ⟨p, dx, t, m, rs, rfl, hp, ⟨xs, ht, dt⟩, g, q⟩ := h
    have hr1 : Room 1 _ := hr.mono (by decide)
    have hlen : xs.length = rs.length := by rw [dt.length, List.length_map]
    refine ⟨_, pss_cons (ps_if (pt_not (pt_val (pe_call G1 hr1 (by rfl) T.dIsFrom.g T.dIsFrom.kp T.dIsFrom.b .nil pass0 (pa_cons (pv 1) (pa_cons pe_int (pa_cons (pe_glob (v := .int 8) (by rfl) g8 ⟨_, rfl⟩) pa_nil)))))) pss_never pss_nil)
      (pss_cons (ps_if (pt_not (pt_val (pe_callB call_isi (by rfl) T.z_isinstance PyProof.Rows.boot_isinstance (pa_cons (pv 2) (pa_cons (pe_bltn (v := .ty "tuple") (by rfl) T.z_tuple (by decide +kernel) rfl) pa_nil))))) pss_never pss_nil)
      (pss_cons (ps_for PassesOwn.never rfl (pi_enumT (by rfl) T.z_enumerate (pa_cons (pv 2) pa_nil)) (pg_tup rfl (pgs_cons (pg_name (i := 3) scInit.nd rfl (.inl rfl)) (pgs_cons (pg_name (i := 4) scInit.nd rfl (.inl rfl)) pgs_nil)))
        (pss_one (ps_if (PW.pt (pw_or (pt_not (pt_val (pe_call G hr (by rfl) T.dIsRuleOf.g T.dIsRuleOf.kp T.dIsRuleOf.b .nil pass0 (pa_cons (pv 1) (pa_cons (pv 4) pa_nil)))))
          (pw_or1 (PW.pt (pw_and (pt_cmpR op_gt (pv 3) pe_int (nomark _)) (pw_and1 (pt_cmpR (op_geR hr.units) (pe_ix ix_tup (pv 2) (pe_op op_sub (pv 3) pe_int) (fun _ _ => rfl)) (pv 4) (nomark _)))))))) pss_never pss_nil)))
      (pss_cons (ps_fld (pv 0) (pv 1) rfl) (pss_one (ps_fld (pv 0) (pv 2) rfl))))), ?_⟩
    refine ⟨_, rfl, m, 1, 8, rfl, true, ?_, iteF ?_⟩
    · rw [decide_eq_true g.lo, decide_eq_true g.hi]
      rfl
    refine ⟨_, rfl, _, _, _, _, true, rfl, .ty "tuple", .base (.tup ht), kit_ty (by decide +kernel), true, rfl, iteF ?_⟩
    refine ⟨_, rfl, t, xs, rfl, ht, for_it (walk_enumT (a := t) (xs := xs)) (fun i σ H' => ∃ v3 v4, σ = [some (.ref p), some (.int m), some (.ref t), v3, v4] ∧ Same H H') ⟨none, none, rfl, Same.refl _⟩ (fun i σ H' _ ⟨_, _, _, sm⟩ => sm _ _ ht) (fun i x σ H1 H1' hi ⟨v3, v4, e, sm⟩ y => ?_) (fun σ H1 ⟨v3, v4, e, sm⟩ => ?_)⟩
    · subst e
      obtain ⟨T', x1, x2, rfl, nT, rfl, e1, hx2⟩ := y
      cases e1
      have smT : Same H (upd H1 T' (.tup [.int (i : Nat), x2])) := sm.trans (same_new nT)
      refine ⟨T', [.int (i : Nat), x2], rfl, SqT.of upd_same, rfl, _, _, rfl, _, _, rfl, rfl, ?_⟩
      obtain ⟨d, hd, hdt⟩ := dt.got hx2
      have hri : rs[i]? = some rs[i] := List.getElem?_eq_getElem (by omega)
      rw [List.getElem?_map, hri] at hd
      cases hd
      have hmem := List.mem_of_getElem? hri
      refine ⟨_, rfl, _, rfl, m, x2, rs[i], rfl, hdt.k (kt_same smT), g.good _ hmem, fun H2 s2 => ⟨true, rfl, iteF ?_⟩⟩
      refine ⟨_, rfl, (i : Int), 0, rfl, rfl, _, rfl, ?_⟩
      by_cases h0 : (0 : Int) < (i : Int)
      · rw [decide_eq_true h0]
        obtain ⟨j, rfl⟩ : ∃ j, i = j + 1 := ⟨i - 1, by omega⟩
        have hj : j < xs.length := by omega
        have hrj : rs[j]? = some rs[j] := List.getElem?_eq_getElem (by omega)
        obtain ⟨y, hy, hyd⟩ := dt.get (i := j) (d := ruleD rs[j]) (by rw [List.getElem?_map, hrj]; rfl)
        have ei : atI xs (((j + 1 : Nat) : Int) - 1) = some y := by
          rw [show (((j + 1 : Nat) : Int) - 1) = (j : Int) by omega]
          exact atI_nat hy
        refine iteT ⟨_, rfl, _, rfl, _, _, rfl, rfl, t, xs, _, y, rfl, rfl, SqT.of ((smT.trans s2) _ _ ht), ei, _, rfl, rs[j], rs[j + 1], hyd.k (kt_same (smT.trans s2)), hdt.k (kt_same (smT.trans s2)), (g.good _ (List.mem_of_getElem? hrj)).i.ok g.hi, (g.good _ hmem).i.ok g.hi, _, rfl, ?_⟩
        have lt := pair_lt g.asc hrj hri
        rw [decide_eq_false (by omega)]
        exact iteF ⟨_, _, rfl, smT.trans s2⟩
      · rw [decide_eq_false h0]
        exact iteF (iteF ⟨_, _, rfl, smT.trans s2⟩)
    · subst e
      have h1 := sm _ _ hp
      refine ⟨_, rfl, _, rfl, p, T.C, dx, [], rfl, h1, T.ic.cl, T.nW, (by show 0 < 1000; decide), _, rfl, _, rfl, p, T.C, dx, _, rfl, upd_same, T.ic.cl, T.nT, (by show 1 < 1000; decide), ?_⟩
      have ntp : t ≠ p := ne_of ht hp (by intro z; cases z)
      have b : But p H (upd (upd H1 p (.ins T.C dx (putF "wide" (.int m) []))) p (.ins T.C dx (putF "told" (.ref t) (putF "wide" (.int m) [])))) := fun c o nc e => by
        rw [upd_ne nc, upd_ne nc]
        exact sm _ _ e
      have kt : KT H (upd (upd H1 p (.ins T.C dx (putF "wide" (.int m) []))) p (.ins T.C dx (putF "told" (.ref t) (putF "wide" (.int m) [])))) := fun c ys e => b c _ (ne_of e hp (by intro z; cases z)) e
      exact q _ b ⟨dx, t, _, upd_same, rulF_wide m t, rulF_told m t, xs, b _ _ ntp ht, dt.k kt⟩
end
end Mr

/-! Mr.D4: all_rows, kept_rows. -/
namespace Mr
open PySem PySem.Spec PyProof.Rows L2
/-- a walk within a comprehension, whatever its turn does -/
theorem it_any {J : It} {n : Nat} {G : Hp → Prop} {Y : Nat → Hp → V → Hp → Prop} (w : Walk J n G Y) {Body : V → Hp → (Hp → Prop) → Prop} {Nx : Hp → Prop} {H4 : Hp} (Pv : Nat → Hp → Prop) (h0 : Pv 0 H4) (hG : ∀ i H, i ≤ n → Pv i H → G H)
    (hs : ∀ j x H H', j < n → Pv j H → Y j H x H' → Body x H' (Pv (j + 1))) (hd : ∀ H, Pv n H → Nx H) :
    ∃ W1 : Nat → Nat → Hp → Prop, (∃ m, W1 0 m H4) ∧ ∀ j k H, W1 j k H →
      (J.stop j H ∧ Nx H) ∨ (J.go j H ∧ ∃ Nx1 : Hp → Prop, (∀ H', Nx1 H' → ∃ k', k' < k ∧ W1 (j + 1) k' H') ∧ ∀ x H', J.yld j H x H' → Body x H' Nx1) := by
  refine ⟨fun j k H => k = n - j ∧ j ≤ n ∧ Pv j H, ⟨n, by simp, Nat.zero_le _, h0⟩, ?_⟩
  rintro j k H ⟨rfl, hj, p⟩
  by_cases lt : j < n
  · exact .inr ⟨w.goes j H lt (hG j H hj p), Pv (j + 1), fun H' p' => ⟨n - (j + 1), by omega, rfl, lt, p'⟩, fun x H' y => hs j x H H' lt p (w.yields j H x H' lt (hG j H hj p) y)⟩
  · obtain rfl : j = n := by omega
    exact .inl ⟨w.stops H (hG j H hj p), hd H p⟩

def allRows : Nat → List Row
  | 0 => [[]]
  | m + 1 => (allRows m).flatMap fun r => [r ++ [0], r ++ [1]]
theorem flat_len : ∀ l : List Row, (l.flatMap fun r => [r ++ [(0 : Int)], r ++ [1]]).length = 2 * l.length
  | [] => rfl
  | r :: l => by
    have ih := flat_len l
    simp only [List.flatMap_cons, List.length_append, ih, List.length_cons, List.length_nil]
    omega
theorem allRows_len : ∀ m, (allRows m).length = 2 ^ m
  | 0 => rfl
  | m + 1 => by
    show ((allRows m).flatMap _).length = _
    rw [flat_len, allRows_len m, Nat.pow_succ]
    omega
theorem allRows_small {m : Nat} (h : m ≤ 8) : (allRows m).length ≤ 256 := by
  rw [allRows_len]
  exact Nat.pow_le_pow_right (by decide) h
theorem allRows_mem : ∀ {m : Nat} {r : Row}, r ∈ allRows m → r.length = m ∧ ∀ x ∈ r, x = 0 ∨ x = 1
  | 0, r, h => by
    have e : r = [] := by simpa [allRows] using h
    subst e
    exact ⟨rfl, fun x hx => (by cases hx)⟩
  | m + 1, r, h => by
    obtain ⟨q, hq, hr⟩ := List.mem_flatMap.mp h
    obtain ⟨l, v⟩ := allRows_mem hq
    have hr' : r = q ++ [0] ∨ r = q ++ [1] := by simpa using hr
    rcases hr' with e | e
    · subst e
      refine ⟨by rw [List.length_append, l]; rfl, fun x hx => ?_⟩
      rcases List.mem_append.mp hx with z | z
      · exact v x z
      · exact .inl (List.mem_singleton.mp z)
    · subst e
      refine ⟨by rw [List.length_append, l]; rfl, fun x hx => ?_⟩
      rcases List.mem_append.mp hx with z | z
      · exact v x z
      · exact .inr (List.mem_singleton.mp z)
theorem flat_take {l : List Row} {i : Nat} {r : Row} (h : l[i]? = some r) : (l.take (i + 1)).flatMap (fun r => [r ++ [0], r ++ [1]]) = (l.take i).flatMap (fun r => [r ++ [(0 : Int)], r ++ [1]]) ++ [r ++ [0], r ++ [1]] := by
  rw [List.take_succ, h]
  show (l.take i ++ [r]).flatMap _ = _
  rw [List.flatMap_append]
  simp
section
variable {P : Program} {w : World} {K : PySem.W.Frag} {mg : Str → Option Value} {base : Heap}
def spAllRows : Sp := fun vs H Q _ => ∃ m : Nat, vs = [.int (m : Int)] ∧ m ≤ 8 ∧ ∀ H' l, Same H H' → H l = none → Ls H' l ((allRows m).map rowD) → Q (.ref l) H'
theorem ok_all_rows (T : Prog K mg) : FnOk P w K mg base CX0 1 T.dAllRows.f T.dAllRows.fd ["many"] spAllRows := by
  refine T.dAllRows.F.ok scAllRows (fun vs H Q E h => ?_) (fun cdv A outer s H vs Q E hr h => ?_)
  · obtain ⟨_, rfl, _⟩ := h
    rfl
  · obtain ⟨m, rfl, hm, q⟩ := h
    refine ⟨_, pss_cons (ps_set (i := 1) scAllRows.nd rfl (.inl rfl) (pe_lst (pa_cons (pe_tup pa_nil) pa_nil)))
      (pss_cons (ps_for PassesOwn.never rfl (pi_range1 rfl T.z_range (pa_cons (pv 0) pa_nil)) (pg_name (i := 2) scAllRows.nd rfl (.inl rfl))
        (pss_one (ps_setLc2 (i := 1) (own := [("row", 3), ("value", 4)]) (vs1 := [4]) (g := gName 3) (tt := tYes) (g1 := gName 4) (tt1 := tYes) (wi1 := iTup K (tTup (tCons (tC (.int 0)) (tCons (tC (.int 1)) tNil)))) (te := tTup (StX.tStar K (tVar 3) (tCons (tVar 4) tNil))) rfl scAllRows.nd rfl rfl (sw_true rfl rfl rfl (by decide +kernel)) (pi_list (pv 1))
          (blkOk_by (N := nAllRows) (sc := defScope sAllRows) (by decide +kernel)) (by decide) (fun _ _ _ _ _ => pg_name (i := 3) scAllRows.nd rfl (Or.inl rfl)) (fun _ _ _ _ _ => pts_nil)
          (fun _ _ _ _ _ => pi_tup (pe_tup (pa_cons pe_int (pa_cons pe_int pa_nil)))) (fun _ _ _ _ _ => pg_name (i := 4) scAllRows.nd rfl (Or.inl rfl)) (fun _ _ _ _ _ => pts_nil)
          (fun _ _ _ _ _ => pe_tup (StX.pa_star (pv 3) (pa_cons (pv 4) pa_nil))))))
      (pss_one (ps_ret (pv 1)))), ?_⟩
    refine ⟨Nat.zero_le _, fun e ne => ⟨by show 1 ≤ sizeLine; decide, fun l0 nl => ?_⟩⟩
    have s1 : Same H (upd H e (.tup [])) := same_new ne
    have s2 : Same H (upd (upd H e (.tup [])) l0 (.lst [.ref e])) := s1.trans (same_new nl)
    have d0 : Ls (upd (upd H e (.tup [])) l0 (.lst [.ref e])) l0 ((allRows 0).map rowD) := ⟨_, upd_same, .cons (Dt.row (r := []) ((same_new nl) e _ upd_same)) .nil⟩
    refine ⟨_, rfl, (m : Int), rfl, by omega, by omega, for_range (lo := 0) (n := (m : Int).toNat) (fun i σ H' => ∃ l v, σ = [some (.int (m : Int)), some (.ref l), v, none, none] ∧ Same H H' ∧ H l = none ∧ Ls H' l ((allRows i).map rowD)) ⟨l0, none, rfl, s2, s1.free nl, d0⟩ (fun i σ H1 hi hP => ?_) (fun σ H1 hP => ?_)⟩
    · obtain ⟨l, v, rfl, sm, hl, ⟨xs, hxl, hxd⟩⟩ := hP
      have him : i ≤ 8 := by omega
      have hlen : xs.length = (allRows i).length := by rw [hxd.length, List.length_map]
      refine ⟨_, rfl, l, rfl, ⟨_, SqL.of hxl⟩, fun D hD => it_any (walk_list (K := K) (xs := xs)) (fun j H' => Same H1 H' ∧ ∃ ys, H' D = some (.lst ys) ∧ Da H' ys ((((allRows i).take j).flatMap fun r => [r ++ [0], r ++ [1]]).map rowD)) ⟨same_new hD, [], upd_same, .nil⟩ (fun j H' _ z => SqL.of (z.1 _ _ hxl)) (fun j x H2 H2' hj hP y => ?_) (fun H2 hP => ?_)⟩
      · obtain ⟨rfl, hx⟩ := y
        obtain ⟨s3, ys, hy, dy⟩ := hP
        obtain ⟨d, hd, hdt⟩ := hxd.got hx
        have hr : (allRows i)[j]? = some (allRows i)[j] := List.getElem?_eq_getElem (by omega)
        rw [List.getElem?_map, hr] at hd
        cases hd
        obtain ⟨a, rfl, ha⟩ := hdt.of_row
        refine ⟨rfl, by show 2 ≤ sizeLine; decide, fun p2 n2 => ⟨p2, rfl, ⟨_, SqT.of upd_same⟩, ?_⟩⟩
        have s4 : Same H2' (upd H2' p2 (.tup [.int 0, .int 1])) := same_new n2
        have ylen : ys.length ≤ 512 := by
          rw [dy.length, List.length_map]
          have := allRows_small him
          rw [flat_len, List.length_take]
          omega
        refine it_any (walk_tup (K := K) (xs := [.int 0, .int 1])) (fun k H' => Same (upd H2' p2 (.tup [.int 0, .int 1])) (upd H' D (.lst ys)) ∧ ∃ zs : List V, H' D = some (.lst (ys ++ zs)) ∧ zs.length = k ∧ Da H' zs (([(allRows i)[j] ++ [0], (allRows i)[j] ++ [1]].take k).map rowD) ∧ KT (upd H2' p2 (.tup [.int 0, .int 1])) H' ∧ Same H1 H') ?_ (fun k H' _ z => SqT.of (z.2.elim fun zs q => q.2.2.2.1 _ _ upd_same)) (fun k x H3 H3' hk hP y => ?_) (fun H3 hP => ?_)
        · have hyD := s4 D _ hy
          refine ⟨?_, [], by rw [List.append_nil]; exact hyD, rfl, .nil, KT.rfl' _, s3.trans s4⟩
          intro b o eb
          by_cases hbD : b = D
          · subst hbD
            rw [hyD] at eb
            cases eb
            exact upd_same
          · rw [upd_ne hbD]
            exact eb
        · obtain ⟨s5, zs, hz, lz, dz, kt5, s6⟩ := hP
          obtain ⟨rfl, hx3⟩ := y
          have ha3 : H3' a = some (.tup ((allRows i)[j].map V.int)) := kt5 _ _ (s4 _ _ (s3 _ _ ha))
          obtain ⟨v, rfl, hv⟩ : ∃ v : Int, x = .int v ∧ [(allRows i)[j] ++ [0], (allRows i)[j] ++ [1]][k]? = some ((allRows i)[j] ++ [v]) := by
            match k, hx3 with
            | 0, e => cases e; exact ⟨0, rfl, rfl⟩
            | 1, e => cases e; exact ⟨1, rfl, rfl⟩
            | k + 2, e => simp at e
          have rlen : ((allRows i)[j]).length ≤ 8 := by rw [(allRows_mem (List.mem_of_getElem? hr)).1]; exact him
          refine ⟨rfl, _, rfl, a, _, rfl, .inl (SqT.of ha3), _, rfl, ?_, fun p4 n4 => ?_⟩
          · rw [List.length_append, List.length_map]
            exact Nat.le_of_lt (small1000 (by show _ + 1 ≤ 1000; omega))
          · have s7 : Same H3' (upd H3' p4 (.tup ((allRows i)[j].map V.int ++ [.int v]))) := same_new n4
            have hz4 := s7 D _ hz
            have nD : p4 ≠ D := ne_of (H := upd H3' p4 (.tup ((allRows i)[j].map V.int ++ [.int v]))) upd_same hz4 (by intro z; cases z)
            have klst : KT (upd H3' p4 (.tup ((allRows i)[j].map V.int ++ [.int v]))) (upd (upd H3' p4 (.tup ((allRows i)[j].map V.int ++ [.int v]))) D (.lst (ys ++ zs ++ [.ref p4]))) := kt_lst hz4
            refine ⟨ys ++ zs, hz4, ?_, ?_, zs ++ [.ref p4], by rw [upd_same, List.append_assoc], by rw [List.length_append, lz]; rfl, ?_, (kt5.trans (kt_same s7)).trans klst, ?_⟩
            · rw [List.length_append, lz]
              have hk2 : k < 2 := hk
              exact small1000 (by omega)
            · intro b o eb
              have e5 := s5 b o eb
              by_cases hbD : b = D
              · subst hbD
                rw [upd_same] at e5 ⊢
                exact e5
              · rw [upd_ne hbD] at e5
                rw [upd_ne hbD, upd_ne hbD]
                exact s7 _ _ e5
            · rw [List.take_succ, hv, List.map_append]
              refine ((dz.k (kt_same s7)).app (.one (Dt.row (r := (allRows i)[j] ++ [v]) ?_))).k klst
              rw [upd_same, List.map_append]
              rfl
            · exact same_young (s6.trans s7) hD
        · obtain ⟨s5, zs, hz, lz, dz, kt5, s6⟩ := hP
          refine ⟨s6, ys ++ zs, hz, ?_⟩
          rw [flat_take hr, List.map_append]
          exact (dy.k ((kt_same s4).trans kt5)).app dz
      · obtain ⟨s3, ys, hy, dy⟩ := hP
        rw [hlen, List.take_length] at dy
        exact ⟨D, _, rfl, sm.trans s3, sm.free hD, ys, hy, dy⟩
    · obtain ⟨l, v, rfl, sm, hl, hL⟩ := hP
      rw [Int.toNat_natCast] at hL
      exact ⟨_, rfl, q _ l sm hl hL⟩

def keptRows (m : Nat) (rs : List Rule) : List Row := (allRows m).filter (keepAll rs)
def spKeptRows (C : Addr) : Sp := fun vs H Q _ => ∃ (a : Addr) (m : Nat) (rs : List Rule), vs = [.ref a] ∧ RulesAt C H a (m : Int) rs ∧ RsGood (m : Int) rs ∧ ∀ H' l, Same H H' → H l = none → Ls H' l ((keptRows m rs).map rowD) → Q (.ref l) H'
theorem ok_kept_rows (T : Prog K mg) : FnOk P w K mg base CX0 4 T.dKeptRows.f T.dKeptRows.fd ["rules"] (spKeptRows T.C) := by
  have G : FnOk P w K mg base CX0 1 T.dAllRows.f T.dAllRows.fd ["many"] spAllRows := ok_all_rows T
  have G2 : FnOk P w K mg base CX0 3 T.dAreKept.f T.dAreKept.fd ["told", "row"] spAreKept := ok_are_kept T
  refine T.dKeptRows.F.ok scKeptRows (fun vs H Q E h => ?_) (fun cdv A outer s H vs Q E hr h => ?_)
  · obtain ⟨_, _, _, rfl, _⟩ := h
    rfl
  · obtain ⟨a, m, rs, rfl, ra, g, q⟩ := h
    have hr1 : Room 1 _ := hr.mono (by decide)
    obtain ⟨dx, t, fs, ha, lw, lt, ht⟩ := id ra
    have hm : m ≤ 8 := by have := g.hi; omega
    refine ⟨_, pss_one (ps_ret (pe_lc (own := [("row", 1)]) (g := gName 1) (tt := tB (tCall spAreKept [] E0 (tCons (tFld K (tVar 0) "told") (tCons (tVar 1) tNil)))) rfl scKeptRows.nd (pi_list (pe_call G hr1 (by rfl) T.dAllRows.g T.dAllRows.kp T.dAllRows.b .nil pass0 (pa_cons (pe_fld (pv 0) (by rfl)) pa_nil))) (blkOk_by (N := nKeptRows) (sc := defScope sKeptRows) (by decide +kernel))
          (fun _ _ _ _ _ => pg_name (i := 1) scKeptRows.nd rfl (Or.inl rfl)) (fun _ _ _ _ _ => pts_one (pt_val (pe_call G2 hr (by rfl) T.dAreKept.g T.dAreKept.kp T.dAreKept.b .nil pass0 (pa_cons (pe_fld (pv 0) (by rfl)) (pa_cons (pv 1) pa_nil))))) (fun _ _ _ _ _ => pv 1))), ?_⟩
    refine ⟨_, rfl, a, T.C, dx, _, _, rfl, ha, T.ic.cl, T.nW, lw, m, rfl, hm, fun H1 l s1 nl hl => ?_⟩
    obtain ⟨xs, hxl, hxd⟩ := hl
    have hlen : xs.length = (allRows m).length := by rw [hxd.length, List.length_map]
    refine ⟨l, rfl, ⟨_, SqL.of hxl⟩, fun D hD => lc_dt (walk_list (K := K) (xs := xs)) (allRows m) (keepAll rs) rowD hlen (small1000 (by have := allRows_small hm; omega)) hD (fun H' sm => SqL.of (sm _ _ hxl)) (fun i r x H2 H2' Yes No hu sm yy yes no => ?_) (fun H2 ys sm hys dy => ?_)⟩
    · obtain ⟨rfl, hi⟩ := yy
      obtain ⟨d, hd, hdt⟩ := hxd.got hi
      rw [List.getElem?_map, hu] at hd
      cases hd
      have s2 := s1.trans sm
      have hrow := allRows_mem (List.mem_of_getElem? hu)
      refine ⟨rfl, _, rfl, a, T.C, dx, _, _, rfl, s2 _ _ ha, T.ic.cl, T.nT, lt, _, rfl, t, x, rs, r, rfl, ht.same s2, g.few, hdt.k (kt_same sm), fun r' hr' => by rw [hrow.1]; exact (g.good r' hr').i, fun H3 s3 => ⟨keepAll rs r, rfl, ?_⟩⟩
      refine ite2 (fun hk => ?_) (fun hk => ?_)
      · exact ⟨x, rfl, yes hk x H3 s3 ((hdt.k (kt_same sm)).k (kt_same s3))⟩
      · exact no (by simpa using hk) H3 s3
    · exact q H2 D (s1.trans sm) (s1.free hD) ⟨ys, hys, dy⟩
end
end Mr

/-! Mr.D5: tuple slices and sums told as data; need_prices, cost_of. -/
namespace Mr
open PySem PySem.Spec PyProof.Rows L2
section
variable {X : Cx}
/-- t[lo:hi], told without asking whether it is a new tuple -/
def rSlC : V → Option Int → Option Int → Hp → VK → Prop := fun x lo hi H Q => ∃ a xs, x = .ref a ∧ H a = some (.tup xs) ∧ ∀ p H', Same H H' → H' p = some (.tup (cutV xs lo hi)) → Q (.ref p) H'
theorem sIx_whole {xs : List V} {lo hi : Option Int} (h : HT.sIx xs.length 0 lo = 0 ∧ HT.sIx xs.length xs.length hi = xs.length) : cutV xs lo hi = xs := by
  unfold cutV
  rw [h.1, h.2]
  simp
theorem sl_tupC : L2.SlR X rSlC := by
  intro pins s σ H x v vl vu lo hi sl Q I rx hs hl hu h
  obtain ⟨a, xs, rfl, ha, q⟩ := h
  refine sl_tupA pins s σ H (.ref a) v vl vu lo hi sl Q I rx hs hl hu ⟨a, xs, rfl, SqT.of ha, fun w => ?_, fun _ p np => q p _ (same_new np) upd_same⟩
  exact q a H (Same.refl H) (by rw [sIx_whole w]; exact ha)
/-- t + u of tuples, told likewise -/
def rCatC : R2 := fun x y H Q => ∃ a b xs ys, x = .ref a ∧ y = .ref b ∧ H a = some (.tup xs) ∧ H b = some (.tup ys) ∧ xs.length + ys.length ≤ sizeLine ∧ ∀ p H', Same H H' → H' p = some (.tup (xs ++ ys)) → Q (.ref p) H'
theorem op_catC : OpR X (binaryOp .Add) rCatC := by
  intro pins s σ H x y v u Q I rx ry h
  obtain ⟨a, b, xs, ys, rfl, rfl, ha, hb, hz, q⟩ := h
  refine op_catA pins s σ H _ _ v u Q I rx ry ⟨a, b, xs, ys, rfl, rfl, SqT.of ha, SqT.of hb, hz, fun e => ?_, fun _ e => ?_, fun _ _ p np => q p _ (same_new np) upd_same⟩
  · exact q b H (Same.refl H) (by rw [e]; exact hb)
  · exact q a H (Same.refl H) (by rw [e, List.append_nil]; exact ha)
end
theorem cut_take (xs : List V) (n : Nat) (h : n ≤ xs.length) : cutV xs none (some (n : Int)) = xs.take n := by
  unfold cutV
  rw [HT.sIx_nat, HT.sIx_none, Nat.min_eq_left h]
  simp
theorem cut_drop (xs : List V) (n : Nat) (h : n ≤ xs.length) : cutV xs (some (n : Int)) none = xs.drop n := by
  unfold cutV
  rw [HT.sIx_nat, HT.sIx_none, Nat.min_eq_left h]
  exact List.take_of_length_le (by rw [List.length_drop]; exact Nat.le_refl _)
theorem shaped_ints (ns : List Int) : PyData.canLayAll0 (ns.map .int) = true ∧ PyData.depthAll (ns.map .int) = 0 := by
  induction ns with
  | nil => exact ⟨rfl, rfl⟩
  | cons n ns ih =>
    refine ⟨?_, ?_⟩
    · show (PyData.canLay0 (.int n) && PyData.canLayAll0 (ns.map .int)) = true
      rw [ih.1]
      rfl
    · show max (PyData.depth (.int n)) (PyData.depthAll (ns.map .int)) = 0
      rw [ih.2]
      rfl
theorem shaped_rows (rs : List Row) : PyData.canLayAll0 (rs.map rowD) = true ∧ PyData.depthAll (rs.map rowD) ≤ 1 := by
  induction rs with
  | nil => exact ⟨rfl, Nat.zero_le _⟩
  | cons r rs ih =>
    refine ⟨?_, ?_⟩
    · show (PyData.canLayAll0 (r.map .int) && PyData.canLayAll0 (rs.map rowD)) = true
      rw [ih.1, (shaped_ints r).1]
      rfl
    · show max (PyData.depthAll (r.map .int) + 1) (PyData.depthAll (rs.map rowD)) ≤ 1
      rw [(shaped_ints r).2]
      exact Nat.max_le.mpr ⟨Nat.le_refl _, ih.2⟩
theorem shaped_lrows (rs : List Row) : SeqAt.shaped (.list (rs.map rowD)) = true := by
  show (PyData.canLayAll0 (rs.map rowD) && decide (PyData.depthAll (rs.map rowD) + 1 ≤ 64)) = true
  rw [(shaped_rows rs).1, decide_eq_true (by have := (shaped_rows rs).2; omega)]
  rfl
theorem shaped_lints (ns : List Int) : SeqAt.shaped (.list (ns.map .int)) = true := by
  show (PyData.canLayAll0 (ns.map .int) && decide (PyData.depthAll (ns.map .int) + 1 ≤ 64)) = true
  rw [(shaped_ints ns).1, (shaped_ints ns).2]
  rfl
theorem eqv_nil (ds : List PyData) : PyData.eqv (.list ds) (.list []) = ds.isEmpty := by
  cases ds with
  | nil => rfl
  | cons d ds => rfl

/-- prices as the document says -/
structure PGood (m : Nat) (ps : List Int) : Prop where
  len : ps.length = m
  lo : ∀ p ∈ ps, -50 ≤ p
  hi : ∀ p ∈ ps, p ≤ 50
section
variable {P : Program} {w : World} {K : PySem.W.Frag} {mg : Str → Option Value} {base : Heap}
def spNeedPrices (C : Addr) : Sp := fun vs H Q _ => ∃ (a t : Addr) (m : Nat) (rs : List Rule) (ps : List Int), vs = [.ref a, .ref t] ∧ RulesAt C H a (m : Int) rs ∧ H t = some (.tup (ps.map V.int)) ∧ PGood m ps ∧ m ≤ 8 ∧ ∀ H', Same H H' → Q .non H'
theorem ok_need_prices (T : Prog K mg) : FnOk P w K mg base CX0 2 T.dNeedPrices.f T.dNeedPrices.fd ["rules", "prices"] (spNeedPrices T.C) := by
  have G : FnOk P w K mg base CX0 1 T.dNeedRules.f T.dNeedRules.fd ["rules"] (spNeedRules T.C) := ok_need_rules T
  have G1 : FnOk P w K mg base CX0 1 T.dIsFrom.f T.dIsFrom.fd ["value", "low", "high"] spIsFrom := ok_is_from T
  obtain ⟨t50, g50⟩ := T.gMOSTPRICE
  refine T.dNeedPrices.F.ok scNeedPrices (fun vs H Q E h => ?_) (fun cdv A outer s H vs Q E hr h => ?_)
  · obtain ⟨_, _, _, _, _, rfl, _⟩ := h
    rfl
  · obtain ⟨a, t, m, rs, ps, rfl, ra, ht, g, hm, q⟩ := h
    obtain ⟨dx, tt, fs, ha, lw, lt, hT⟩ := id ra
    refine ⟨_, pss_cons (ps_expr (pe_call G hr (by rfl) T.dNeedRules.g T.dNeedRules.kp T.dNeedRules.b .nil pass0 (pa_cons (pv 0) pa_nil)))
      (pss_cons (ps_if (PW.pt (pw_or (pt_not (pt_val (pe_callB call_isi (by rfl) T.z_isinstance PyProof.Rows.boot_isinstance (pa_cons (pv 1) (pa_cons (pe_bltn (v := .ty "tuple") (by rfl) T.z_tuple (by decide +kernel) rfl) pa_nil)))))
        (pw_or1 (pt_cmpR op_ne (pe_callB call_len_seq (by rfl) T.z_len PySem.boot_len (pa_cons (pv 1) pa_nil)) (pe_fld (pv 0) (by rfl)) (nomark _))))) pss_never pss_nil)
      (pss_one (ps_if (pt_not (pt_val (pe_callB (cr_all rfl) (by rfl) T.z_all (by decide +kernel) (pa_cons (pe_lc (own := [("price", 2)]) (g := gName 2) (tt := tYes) rfl scNeedPrices.nd (pi_tup (pv 1)) (blkOk_by (N := nNeedPrices) (sc := defScope sNeedPrices) (by decide +kernel))
          (fun _ _ _ _ _ => pg_name (i := 2) scNeedPrices.nd rfl (Or.inl rfl)) (fun _ _ _ _ _ => pts_nil) (fun _ _ _ _ _ => pe_call G1 hr (by rfl) T.dIsFrom.g T.dIsFrom.kp T.dIsFrom.b .nil pass0 (pa_cons (pv 2) (pa_cons (pe_un un_neg (pe_glob (v := .int 50) (by rfl) g50 ⟨_, rfl⟩)) (pa_cons (pe_glob (v := .int 50) (by rfl) g50 ⟨_, rfl⟩) pa_nil))))) pa_nil)))) pss_never pss_nil))), ?_⟩
    refine ⟨_, rfl, a, _, rs, rfl, ra, _, rfl, _, _, _, _, true, rfl, .ty "tuple", .base (.tup ht), kit_ty (by decide +kernel), true, rfl, iteF ?_⟩
    refine ⟨_, rfl, t, _, rfl, .inr (SqT.of ht), _, rfl, a, T.C, dx, _, _, rfl, ha, T.ic.cl, T.nW, lw, rfl, false, ?_, iteF ?_⟩
    · rw [List.length_map, g.len, decide_eq_true rfl]
      rfl
    refine ⟨_, rfl, t, rfl, ⟨_, SqT.of ht⟩, fun D hD => lc_dt (walk_tup (K := K) (xs := ps.map V.int)) ps (fun _ => true) (fun _ => .bool true) (List.length_map ..) (small1000 (by rw [g.len]; omega)) hD (fun H' sm => SqT.of (sm _ _ ht)) (fun i u y H1 H1' Yes No hu sm yy yes no => ?_) (fun H1 ys sm hy dy => ?_)⟩
    · obtain ⟨rfl, hi⟩ := yy
      rw [List.getElem?_map, hu] at hi
      cases hi
      have hm := List.mem_of_getElem? hu
      refine ⟨rfl, _, rfl, 50, rfl, u, -50, 50, rfl, ?_⟩
      rw [decide_eq_true (g.lo u hm), decide_eq_true (g.hi u hm)]
      exact yes rfl _ _ (Same.refl _) (.bl true)
    · rw [List.filter_eq_self.mpr (fun _ _ => rfl)] at dy
      have e : ys = (ps.map fun _ => true).map V.bl := Da.of_bools (H := H1) (by rw [List.map_map]; exact dy)
      subst e
      refine ⟨D, _, rfl, SqL.of hy, _, rfl, ?_⟩
      have ea : (List.map (fun _ => true) ps).all id = true := by
        rw [List.all_map]
        exact List.all_eq_true.mpr fun _ _ => rfl
      rw [ea]
      exact iteF (q _ sm)

def cost (ps : List Int) (row : Row) : Int := ((ps.zip row).map fun z => z.1 * z.2).sum
def Bits (row : Row) : Prop := ∀ x ∈ row, x = 0 ∨ x = 1
def spCostOf : Sp := fun vs H Q _ => ∃ (x y : V) (ps : List Int) (row : Row), vs = [x, y] ∧ Dt H x (rowD ps) ∧ Dt H y (rowD row) ∧ ps.length = row.length ∧ row.length ≤ 8 ∧ Bits row ∧ ∀ H', Same H H' → Q (.int (cost ps row)) H'
theorem ok_cost_of (T : Prog K mg) : FnOk P w K mg base CX0 1 T.dCostOf.f T.dCostOf.fd ["prices", "row"] spCostOf := by
  refine T.dCostOf.F.ok scCostOf (fun vs H Q E h => ?_) (fun cdv A outer s H vs Q E hr h => ?_)
  · obtain ⟨_, _, _, _, rfl, _⟩ := h
    rfl
  · obtain ⟨x, y, ps, row, rfl, hx, hy, hl, h8, hb, q⟩ := h
    obtain ⟨a, rfl, ha⟩ := hx.of_row
    obtain ⟨b, rfl, hb'⟩ := hy.of_row
    refine ⟨_, pss_one (ps_ret (pe_callB (cr_sum rfl) (by rfl) T.z_sum (by decide +kernel) (pa_cons (pe_lc (own := [("price", 2), ("value", 3)]) (g := gTup K 2 (gCons (gName 2) (gCons (gName 3) gNil))) (tt := tYes) rfl scCostOf.nd (RZ.pi_zipA (by rfl) T.z_zip (pa_cons (pv 0) (pa_cons (pv 1) pa_nil))) (blkOk_by (N := nCostOf) (sc := defScope sCostOf) (by decide +kernel))
          (fun _ _ _ _ _ => pg_tup rfl (pgs_cons (pg_name (i := 2) scCostOf.nd rfl (Or.inl rfl)) (pgs_cons (pg_name (i := 3) scCostOf.nd rfl (Or.inl rfl)) pgs_nil))) (fun _ _ _ _ _ => pts_nil) (fun _ _ _ _ _ => pe_op op_mul (pv 2) (pv 3))) pa_nil))), ?_⟩
    have hlz : (ps.map V.int).length = (ps.zip row).length := by rw [List.length_map, List.length_zip, hl, Nat.min_self]
    refine ⟨_, rfl, _, rfl, a, b, ps.map V.int, row.map V.int, rfl, .inr ⟨SqT.of ha, SqT.of hb', fun D hD => lc_dt (walk_zipT (K := K) (xs := ps.map V.int) (ys := row.map V.int) (by rw [List.length_map, List.length_map, hl])) (ps.zip row) (fun _ => true) (fun z => .int (z.1 * z.2)) hlz (small1000 (by rw [List.length_zip]; omega)) hD (fun H' sm => ⟨SqT.of (sm _ _ ha), SqT.of (sm _ _ hb')⟩) (fun i z v H1 H1' Yes No hz sm yy yes no => ?_) (fun H1 ys sm hys dy => ?_)⟩⟩
    · obtain ⟨U, v1, v2, rfl, nU, rfl, h1, h2⟩ := yy
      obtain ⟨e1, e2⟩ := List.getElem?_zip_eq_some.mp hz
      have h1 : (ps.map V.int)[i]? = some v1 := h1
      have h2 : (row.map V.int)[i]? = some v2 := h2
      rw [List.getElem?_map, e1] at h1
      rw [List.getElem?_map, e2] at h2
      cases h1
      cases h2
      have hbit := hb z.2 (List.mem_of_getElem? e2)
      refine ⟨U, [.int z.1, .int z.2], rfl, SqT.of upd_same, rfl, _, _, rfl, _, _, rfl, rfl, rfl, _, rfl, _, rfl, z.1, z.2, rfl, rfl, .inr ⟨by omega, by omega⟩, ?_⟩
      exact yes rfl _ _ (same_new nU) (.int _)
    · rw [List.filter_eq_self.mpr (fun _ _ => rfl)] at dy
      have e : ys = ((ps.zip row).map fun z => z.1 * z.2).map V.int := Da.of_ints (H := H1) (by rw [List.map_map]; exact dy)
      subst e
      exact ⟨D, _, rfl, SqL.of hys, q _ sm⟩
end
end Mr

/-! Mr.D6: best_rows, cheapest, all_cheapest. -/
namespace Mr
open PySem PySem.Spec PyProof.Rows L2
def IsMin (ns : List Int) (m : Int) : Prop := m ∈ ns ∧ ∀ y ∈ ns, m ≤ y
def bestOf (ps : List Int) (rows : List Row) (least : Int) : List Row := rows.filter fun r => decide (cost ps r = least)
theorem bestOf_ne {ps : List Int} {rows : List Row} {least : Int} (h : IsMin (rows.map (cost ps)) least) : bestOf ps rows least ≠ [] := by
  obtain ⟨h1, _⟩ := h
  obtain ⟨r, hr, e⟩ := List.mem_map.mp h1
  exact List.ne_nil_of_mem (List.mem_filter.mpr ⟨hr, decide_eq_true e⟩)
theorem kept_mem {m : Nat} {rs : List Rule} {r : Row} (h : r ∈ keptRows m rs) : r.length = m ∧ Bits r := allRows_mem (List.mem_filter.mp h).1
theorem kept_small {m : Nat} {rs : List Rule} (h : m ≤ 8) : (keptRows m rs).length ≤ 256 := Nat.le_trans (List.length_filter_le _ _) (allRows_small h)
section
variable {P : Program} {w : World} {K : PySem.W.Frag} {mg : Str → Option Value} {base : Heap}
/-- what is handed to the functions over prices -/
structure PArgs (C : Addr) (H : Hp) (a t : Addr) (m : Nat) (rs : List Rule) (ps : List Int) : Prop where
  ra : RulesAt C H a (m : Int) rs
  g : RsGood (m : Int) rs
  ht : H t = some (.tup (ps.map V.int))
  pg : PGood m ps
theorem PArgs.m8 {C : Addr} {H : Hp} {a t : Addr} {m : Nat} {rs : List Rule} {ps : List Int} (x : PArgs C H a t m rs ps) : m ≤ 8 := by
  have := x.g.hi
  omega
theorem PArgs.same {C : Addr} {H H' : Hp} {a t : Addr} {m : Nat} {rs : List Rule} {ps : List Int} (x : PArgs C H a t m rs ps) (s : Same H H') : PArgs C H' a t m rs ps := ⟨x.ra.same s, x.g, s _ _ x.ht, x.pg⟩
def spBestRows (C : Addr) : Sp := fun vs H Q _ => ∃ (a t : Addr) (m : Nat) (rs : List Rule) (ps : List Int), vs = [.ref a, .ref t] ∧ PArgs C H a t m rs ps ∧ (keptRows m rs = [] → ∀ H', Same H H' → Q .non H') ∧
  ∀ H' u l least, Same H H' → H l = none → H' u = some (.tup [.int least, .ref l]) → IsMin ((keptRows m rs).map (cost ps)) least → Ls H' l ((bestOf ps (keptRows m rs) least).map rowD) → Q (.ref u) H'
theorem ok_best_rows (T : Prog K mg) : FnOk P w K mg base CX0 5 T.dBestRows.f T.dBestRows.fd ["rules", "prices"] (spBestRows T.C) := by
  have G : FnOk P w K mg base CX0 4 T.dKeptRows.f T.dKeptRows.fd ["rules"] (spKeptRows T.C) := ok_kept_rows T
  have G1 : FnOk P w K mg base CX0 1 T.dCostOf.f T.dCostOf.fd ["prices", "row"] spCostOf := ok_cost_of T
  refine T.dBestRows.F.ok scBestRows (fun vs H Q E h => ?_) (fun cdv A outer s H vs Q E hr h => ?_)
  · obtain ⟨_, _, _, _, _, rfl, _⟩ := h
    rfl
  · obtain ⟨a, t, m, rs, ps, rfl, pa, q0, q1⟩ := h
    have hr1 : Room 1 _ := hr.mono (by decide)
    refine ⟨_, pss_cons (ps_set (i := 2) scBestRows.nd rfl (.inl rfl) (pe_call G hr (by rfl) T.dKeptRows.g T.dKeptRows.kp T.dKeptRows.b .nil pass0 (pa_cons (pv 0) pa_nil)))
      (pss_cons (ps_if (pt_cmpR (op_eqD hr.units) (pv 2) (pe_lst pa_nil) (nomark _)) (pss_one (ps_ret pe_non)) pss_nil)
      (pss_cons (ps_set (i := 3) scBestRows.nd rfl (.inr rfl) (pe_callB (cr_min rfl) (by rfl) T.z_min (by decide +kernel) (pa_cons (pe_lc (own := [("row", 4)]) (g := gName 4) (tt := tYes) rfl scBestRows.nd (pi_list (pv 2)) (blkOk_by (N := nBestRows) (sc := defScope sBestRows) (by decide +kernel))
          (fun _ _ _ _ _ => pg_name (i := 4) scBestRows.nd rfl (Or.inl rfl)) (fun _ _ _ _ _ => pts_nil) (fun _ _ _ _ _ => pe_call G1 hr1 (by rfl) T.dCostOf.g T.dCostOf.kp T.dCostOf.b .nil pass0 (pa_cons (pv 1) (pa_cons (pv 4) pa_nil)))) pa_nil)))
      (pss_one (ps_ret (pe_tup (pa_cons (pv 3) (pa_cons (pe_lc (own := [("row", 4)]) (g := gName 4) rfl scBestRows.nd (pi_list (pv 2)) (blkOk_by (N := nBestRows) (sc := defScope sBestRows) (by decide +kernel))
          (fun _ _ _ _ _ => pg_name (i := 4) scBestRows.nd rfl (Or.inl rfl)) (fun _ _ _ _ _ => pts_one (pt_cmpR op_eq (pe_call G1 hr1 (by rfl) T.dCostOf.g T.dCostOf.kp T.dCostOf.b .nil pass0 (pa_cons (pv 1) (pa_cons (pv 4) pa_nil))) (pv 3) (nomark _))) (fun _ _ _ _ _ => pv 4)) pa_nil))))))), ?_⟩
    refine ⟨_, rfl, a, m, rs, rfl, pa.ra, pa.g, fun H1 l s1 nl hl => ?_⟩
    have hrow : ∀ r ∈ keptRows m rs, ps.length = r.length ∧ r.length ≤ 8 ∧ Bits r := fun r hr => by
      have z := kept_mem hr
      have := pa.m8
      exact ⟨by rw [pa.pg.len, z.1], by rw [z.1]; exact this, z.2⟩
    have few := kept_small (rs := rs) pa.m8
    refine ⟨_, rfl, Nat.zero_le _, fun e ne => ?_⟩
    have s2 : Same H1 (upd H1 e (.lst [])) := same_new ne
    refine ⟨_, .list [], (hl.same s2).dp, .lst (SqL.of upd_same) .nil, shaped_lrows _, rfl, _, rfl, ?_⟩
    rw [eqv_nil]
    refine ite2 (fun hk => ?_) (fun hk => ?_)
    · have hk0 : keptRows m rs = [] := by simpa using hk
      exact q0 hk0 _ (s1.trans s2)
    · have hk0 : keptRows m rs ≠ [] := by simpa using hk
      obtain ⟨xs, hxl, hxd⟩ := hl.same s2
      have s3 := s1.trans s2
      have hlen : xs.length = (keptRows m rs).length := by rw [hxd.length, List.length_map]
      refine ⟨_, rfl, l, rfl, ⟨_, SqL.of hxl⟩, fun D hD => lc_dt (walk_list (K := K) (xs := xs)) (keptRows m rs) (fun _ => true) (fun r => .int (cost ps r)) hlen (small1000 (by omega)) hD (fun H' sm => SqL.of (sm _ _ hxl)) (fun i r x H2 H2' Yes No hu sm yy yes no => ?_) (fun H2 ys sm hys dy => ?_)⟩
      · obtain ⟨rfl, hi⟩ := yy
        obtain ⟨d, hd, hdt⟩ := hxd.got hi
        rw [List.getElem?_map, hu] at hd
        cases hd
        have hm := hrow r (List.mem_of_getElem? hu)
        exact ⟨rfl, _, rfl, _, rfl, _, x, ps, r, rfl, Dt.row (sm _ _ (s3 _ _ pa.ht)), hdt.k (kt_same sm), hm.1, hm.2.1, hm.2.2, fun H3 s4 => yes rfl _ H3 s4 (.int _)⟩
      · rw [List.filter_eq_self.mpr (fun _ _ => rfl)] at dy
        have e : ys = ((keptRows m rs).map (cost ps)).map V.int := Da.of_ints (H := H2) (by rw [List.map_map]; exact dy)
        subst e
        refine ⟨D, _, rfl, SqL.of hys, by rw [List.length_map]; exact List.length_pos_iff.mpr hk0, fun least hm hle => ?_⟩
        refine ⟨_, rfl, _, rfl, l, rfl, ⟨_, SqL.of (sm _ _ hxl)⟩, fun D2 hD2 => lc_dt (walk_list (K := K) (xs := xs)) (keptRows m rs) (fun r => decide (cost ps r = least)) rowD hlen (small1000 (by omega)) hD2 (fun H' sm2 => SqL.of (sm2 _ _ (sm _ _ hxl))) (fun i r x H3 H3' Yes No hu sm2 yy yes no => ?_) (fun H3 ys2 sm2 hys2 dy2 => ?_)⟩
        · obtain ⟨rfl, hi⟩ := yy
          obtain ⟨d, hd, hdt⟩ := hxd.got hi
          rw [List.getElem?_map, hu] at hd
          cases hd
          have hm2 := hrow r (List.mem_of_getElem? hu)
          have s5 := sm.trans sm2
          refine ⟨rfl, _, rfl, _, rfl, _, x, ps, r, rfl, Dt.row (s5 _ _ (s3 _ _ pa.ht)), hdt.k (kt_same s5), hm2.1, hm2.2.1, hm2.2.2, fun H4 s4 => ⟨_, rfl, rfl, _, rfl, ?_⟩⟩
          refine ite2 (fun hk => ?_) (fun hk => ?_)
          · have hk2 : cost ps r = least := V.int.inj (of_decide_eq_true hk)
            exact ⟨x, rfl, yes (decide_eq_true hk2) x H4 s4 ((hdt.k (kt_same s5)).k (kt_same s4))⟩
          · exact no (decide_eq_false fun e => hk (decide_eq_true (by rw [e]))) H4 s4
        · refine ⟨by show 2 ≤ sizeLine; decide, fun u nu => ?_⟩
          have s6 : Same H3 (upd H3 u (.tup [.int least, .ref D2])) := same_new nu
          exact q1 _ u D2 least (((s3.trans sm).trans sm2).trans s6) ((s3.trans sm).free hD2) upd_same ⟨hm, hle⟩ ⟨ys2, s6 _ _ hys2, dy2.k (kt_same s6)⟩

def spCheapest (C : Addr) : Sp := fun vs H Q _ => ∃ (a t : Addr) (m : Nat) (rs : List Rule) (ps : List Int), vs = [.ref a, .ref t] ∧ PArgs C H a t m rs ps ∧ (keptRows m rs = [] → ∀ H', Same H H' → Q .non H') ∧
  ∀ H' u least r0 rest, Same H H' → IsMin ((keptRows m rs).map (cost ps)) least → bestOf ps (keptRows m rs) least = r0 :: rest → Dt H' (.ref u) (costD (least, r0)) → Q (.ref u) H'
theorem ok_cheapest (T : Prog K mg) : FnOk P w K mg base CX0 6 T.dCheapest.f T.dCheapest.fd ["rules", "prices"] (spCheapest T.C) := by
  have G : FnOk P w K mg base CX0 5 T.dBestRows.f T.dBestRows.fd ["rules", "prices"] (spBestRows T.C) := ok_best_rows T
  have G1 : FnOk P w K mg base CX0 2 T.dNeedPrices.f T.dNeedPrices.fd ["rules", "prices"] (spNeedPrices T.C) := ok_need_prices T
  refine T.dCheapest.F.ok scCheapest (fun vs H Q E h => ?_) (fun cdv A outer s H vs Q E hr h => ?_)
  · obtain ⟨_, _, _, _, _, rfl, _⟩ := h
    rfl
  · obtain ⟨a, t, m, rs, ps, rfl, pa, q0, q1⟩ := h
    have hr1 : Room 2 _ := hr.mono (by decide)
    refine ⟨_, pss_cons (ps_expr (pe_call G1 hr1 (by rfl) T.dNeedPrices.g T.dNeedPrices.kp T.dNeedPrices.b .nil pass0 (pa_cons (pv 0) (pa_cons (pv 1) pa_nil))))
      (pss_cons (ps_set (i := 2) scCheapest.nd rfl (.inl rfl) (pe_call G hr (by rfl) T.dBestRows.g T.dBestRows.kp T.dBestRows.b .nil pass0 (pa_cons (pv 0) (pa_cons (pv 1) pa_nil))))
      (pss_one (ps_ret (pe_ifExp (pt_cmp (pc_notN (pv 2)) rfl) (pe_tup (pa_cons (pe_ix ix_tup (pv 2) pe_int (fun _ _ => rfl)) (pa_cons (pe_ix ix_list (pe_ix ix_tup (pv 2) pe_int (fun _ _ => rfl)) pe_int (fun _ _ => rfl)) pa_nil))) pe_non)))), ?_⟩
    refine ⟨_, rfl, _, rfl, a, t, m, rs, ps, rfl, pa.ra, pa.ht, pa.pg, pa.m8, fun H1 s1 => ?_⟩
    refine ⟨_, rfl, _, rfl, a, t, m, rs, ps, rfl, pa.same s1, fun hk H2 s2 => ?_, fun H2 u l least s2 nl hu hmin hl => ?_⟩
    · exact ⟨_, rfl, false, rfl, iteF (q0 hk H2 (s1.trans s2))⟩
    · refine ⟨_, rfl, true, rfl, iteT ?_⟩
      obtain ⟨r0, rest, er⟩ : ∃ r0 rest, bestOf ps (keptRows m rs) least = r0 :: rest := by
        cases e : bestOf ps (keptRows m rs) least with
        | nil => exact absurd e (bestOf_ne hmin)
        | cons r0 rest => exact ⟨r0, rest, rfl⟩
      obtain ⟨xs, hxl, hxd⟩ := hl
      rw [er] at hxd
      have hxd' : Da H2 xs (rowD r0 :: rest.map rowD) := hxd
      cases hxd' with
      | @cons x xs _ _ hx hxr =>
        refine ⟨_, rfl, u, _, 0, _, rfl, rfl, SqT.of hu, atI_nat (j := 0) rfl, _, rfl, u, _, 1, _, rfl, rfl, SqT.of hu, atI_nat (j := 1) rfl, l, _, 0, x, rfl, rfl, SqL.of hxl, atI_nat (j := 0) rfl, by show 2 ≤ sizeLine; decide, fun v nv => ?_⟩
        have s3 : Same H2 (upd H2 v (.tup [.int least, x])) := same_new nv
        exact q1 _ v least r0 rest ((s1.trans s2).trans s3) hmin er (.pair upd_same (.int _) (hx.k (kt_same s3)))

def spAllCheapest (C : Addr) : Sp := fun vs H Q _ => ∃ (a t : Addr) (m : Nat) (rs : List Rule) (ps : List Int), vs = [.ref a, .ref t] ∧ PArgs C H a t m rs ps ∧ (keptRows m rs = [] → ∀ H', Same H H' → Q .non H') ∧
  ∀ H' l least, Same H H' → IsMin ((keptRows m rs).map (cost ps)) least → Ls H' l ((bestOf ps (keptRows m rs) least).map rowD) → Q (.ref l) H'
theorem ok_all_cheapest (T : Prog K mg) : FnOk P w K mg base CX0 6 T.dAllCheapest.f T.dAllCheapest.fd ["rules", "prices"] (spAllCheapest T.C) := by
  have G : FnOk P w K mg base CX0 5 T.dBestRows.f T.dBestRows.fd ["rules", "prices"] (spBestRows T.C) := ok_best_rows T
  have G1 : FnOk P w K mg base CX0 2 T.dNeedPrices.f T.dNeedPrices.fd ["rules", "prices"] (spNeedPrices T.C) := ok_need_prices T
  refine T.dAllCheapest.F.ok scAllCheapest (fun vs H Q E h => ?_) (fun cdv A outer s H vs Q E hr h => ?_)
  · obtain ⟨_, _, _, _, _, rfl, _⟩ := h
    rfl
  · obtain ⟨a, t, m, rs, ps, rfl, pa, q0, q1⟩ := h
    have hr1 : Room 2 _ := hr.mono (by decide)
    refine ⟨_, pss_cons (ps_expr (pe_call G1 hr1 (by rfl) T.dNeedPrices.g T.dNeedPrices.kp T.dNeedPrices.b .nil pass0 (pa_cons (pv 0) (pa_cons (pv 1) pa_nil))))
      (pss_cons (ps_set (i := 2) scAllCheapest.nd rfl (.inl rfl) (pe_call G hr (by rfl) T.dBestRows.g T.dBestRows.kp T.dBestRows.b .nil pass0 (pa_cons (pv 0) (pa_cons (pv 1) pa_nil))))
      (pss_one (ps_ret (pe_ifExp (pt_cmp (pc_notN (pv 2)) rfl) (pe_ix ix_tup (pv 2) pe_int (fun _ _ => rfl)) pe_non)))), ?_⟩
    refine ⟨_, rfl, _, rfl, a, t, m, rs, ps, rfl, pa.ra, pa.ht, pa.pg, pa.m8, fun H1 s1 => ?_⟩
    refine ⟨_, rfl, _, rfl, a, t, m, rs, ps, rfl, pa.same s1, fun hk H2 s2 => ?_, fun H2 u l least s2 nl hu hmin hl => ?_⟩
    · exact ⟨_, rfl, false, rfl, iteF (q0 hk H2 (s1.trans s2))⟩
    · exact ⟨_, rfl, true, rfl, iteT ⟨_, rfl, u, _, 1, _, rfl, rfl, SqT.of hu, atI_nat (j := 1) rfl, q1 _ l least (s1.trans s2) hmin hl⟩⟩
end
end Mr

/-! Mr.D7: dearest_one. -/
namespace Mr
open PySem PySem.Spec PyProof.Rows L2
/-- the prices with nothing at a place -/
def setZ (ps : List Int) (p : Nat) : List Int := ps.take p ++ (0 :: ps.drop (p + 1))
theorem setZ_len {ps : List Int} {p : Nat} (h : p < ps.length) : (setZ ps p).length = ps.length := by
  unfold setZ
  rw [List.length_append, List.length_cons, List.length_take, List.length_drop]
  omega
/-- what the rows with a value at a place cost without it -/
def withV (ps : List Int) (rows : List Row) (p : Nat) (v : Int) : List Int := (rows.filter fun r => decide (at0 r (p : Int) = v)).map (cost (setZ ps p))
def DearV (ones others : List Int) (v : V) : Prop := (ones = [] ∧ v = .non) ∨ (∃ mn, IsMin ones mn ∧ others = [] ∧ v = .int 50) ∨
  ∃ mn mo, IsMin ones mn ∧ IsMin others mo ∧ v = if -50 ≤ mo - mn then .int (if 50 < mo - mn then 50 else mo - mn) else .non
section
variable {P : Program} {w : World} {K : PySem.W.Frag} {mg : Str → Option Value} {base : Heap}
def spDearestOne (C : Addr) : Sp := fun vs H Q _ => ∃ (a t : Addr) (m p : Nat) (rs : List Rule) (ps : List Int), vs = [.ref a, .ref t, .int (p : Int)] ∧ PArgs C H a t m rs ps ∧ p < m ∧
  ∀ H' v, Same H H' → DearV (withV ps (keptRows m rs) p 1) (withV ps (keptRows m rs) p 0) v → Q v H'
theorem ok_dearest_one (T : Prog K mg) : FnOk P w K mg base CX0 5 T.dDearestOne.f T.dDearestOne.fd ["rules", "prices", "place"] (spDearestOne T.C) := by
  have G : FnOk P w K mg base CX0 4 T.dKeptRows.f T.dKeptRows.fd ["rules"] (spKeptRows T.C) := ok_kept_rows T
  have G1 : FnOk P w K mg base CX0 1 T.dCostOf.f T.dCostOf.fd ["prices", "row"] spCostOf := ok_cost_of T
  have G2 : FnOk P w K mg base CX0 2 T.dNeedPrices.f T.dNeedPrices.fd ["rules", "prices"] (spNeedPrices T.C) := ok_need_prices T
  have G3 : FnOk P w K mg base CX0 1 T.dIsFrom.f T.dIsFrom.fd ["value", "low", "high"] spIsFrom := ok_is_from T
  obtain ⟨t50, g50⟩ := T.gMOSTPRICE
  refine T.dDearestOne.F.ok scDearestOne (fun vs H Q E h => ?_) (fun cdv A outer s H vs Q E hr h => ?_)
  · obtain ⟨_, _, _, _, _, _, rfl, _⟩ := h
    rfl
  · obtain ⟨a, t, m, p, rs, ps, rfl, pa, hp, q⟩ := h
    have hr1 : Room 1 _ := hr.mono (by decide)
    have hr2 : Room 2 _ := hr.mono (by decide)
    obtain ⟨dx, tt, fs, ha, lw, lt, hT⟩ := id pa.ra
    refine ⟨_, pss_cons (ps_expr (pe_call G2 hr2 (by rfl) T.dNeedPrices.g T.dNeedPrices.kp T.dNeedPrices.b .nil pass0 (pa_cons (pv 0) (pa_cons (pv 1) pa_nil))))
      (pss_cons (ps_if (pt_not (pt_val (pe_call G3 hr1 (by rfl) T.dIsFrom.g T.dIsFrom.kp T.dIsFrom.b .nil pass0 (pa_cons (pv 2) (pa_cons pe_int (pa_cons (pe_op op_sub (pe_fld (pv 0) (by rfl)) pe_int) pa_nil)))))) pss_never pss_nil)
      (pss_cons (ps_set (i := 3) scDearestOne.nd rfl (.inr rfl) (pe_tup (StX.pa_star (pe_slice sl_tupC (pv 1) po_none (po_some (pv 2))) (pa_cons pe_int (StX.pa_star (pe_slice sl_tupC (pv 1) (po_some (pe_op op_add (pv 2) pe_int)) po_none) pa_nil)))))
      (pss_cons (ps_set (i := 4) scDearestOne.nd rfl (.inl rfl) (pe_call G hr (by rfl) T.dKeptRows.g T.dKeptRows.kp T.dKeptRows.b .nil pass0 (pa_cons (pv 0) pa_nil)))
      (pss_cons (ps_setLc (i := 5) (own := [("row", 8)]) (g := gName 8) (tt := tTest (tOp rEq (tOp (rIxT K) (tVar 8) (tVar 2)) (tC (.int 1)))) rfl scDearestOne.nd rfl rfl (sw_true rfl rfl rfl (by decide +kernel)) (pi_list (pv 4)) (blkOk_by (N := nDearestOne) (sc := defScope sDearestOne) (by decide +kernel))
          (fun _ _ _ _ _ => pg_name (i := 8) scDearestOne.nd rfl (Or.inl rfl)) (fun _ _ _ _ _ => pts_one (pt_cmpR op_eq (pe_ix ix_tup (pv 8) (pv 2) (fun _ _ => rfl)) pe_int (nomark _))) (fun _ _ _ _ _ => pe_call G1 hr1 (by rfl) T.dCostOf.g T.dCostOf.kp T.dCostOf.b .nil pass0 (pa_cons (pv 3) (pa_cons (pv 8) pa_nil))))
      (pss_cons (ps_setLc (i := 6) (own := [("row", 8)]) (g := gName 8) (tt := tTest (tOp rEq (tOp (rIxT K) (tVar 8) (tVar 2)) (tC (.int 0)))) rfl scDearestOne.nd rfl rfl (sw_true rfl rfl rfl (by decide +kernel)) (pi_list (pv 4)) (blkOk_by (N := nDearestOne) (sc := defScope sDearestOne) (by decide +kernel))
          (fun _ _ _ _ _ => pg_name (i := 8) scDearestOne.nd rfl (Or.inl rfl)) (fun _ _ _ _ _ => pts_one (pt_cmpR op_eq (pe_ix ix_tup (pv 8) (pv 2) (fun _ _ => rfl)) pe_int (nomark _))) (fun _ _ _ _ _ => pe_call G1 hr1 (by rfl) T.dCostOf.g T.dCostOf.kp T.dCostOf.b .nil pass0 (pa_cons (pv 3) (pa_cons (pv 8) pa_nil))))
      (pss_cons (ps_if (pt_cmpR (op_eqD hr.units) (pv 5) (pe_lst pa_nil) (nomark _)) (pss_one (ps_ret pe_non)) pss_nil)
      (pss_cons (ps_set (i := 7) scDearestOne.nd rfl (.inl rfl) (pe_ifExp (pt_cmpR (op_neD hr.units) (pv 6) (pe_lst pa_nil) (nomark _)) (pe_op op_sub (pe_callB (cr_min rfl) (by rfl) T.z_min (by decide +kernel) (pa_cons (pv 6) pa_nil)) (pe_callB (cr_min rfl) (by rfl) T.z_min (by decide +kernel) (pa_cons (pv 5) pa_nil))) (pe_glob (v := .int 50) (by rfl) g50 ⟨_, rfl⟩)))
      (pss_one (ps_ret (pe_ifExp (pt_cmpR op_ge (pv 7) (pe_un un_neg (pe_glob (v := .int 50) (by rfl) g50 ⟨_, rfl⟩)) (nomark _)) (pe_callB (call_min2 rfl) (by rfl) T.z_min (by decide +kernel) (pa_cons (pv 7) (pa_cons (pe_glob (v := .int 50) (by rfl) g50 ⟨_, rfl⟩) pa_nil))) pe_non)))))))))), ?_⟩
    refine ⟨_, rfl, _, rfl, a, t, m, rs, ps, rfl, pa.ra, pa.ht, pa.pg, pa.m8, fun H1 s1 => ?_⟩
    refine ⟨_, rfl, _, rfl, a, T.C, dx, _, _, rfl, s1 _ _ ha, T.ic.cl, T.nW, lw, m, 1, rfl, rfl, p, 0, (m : Int) - 1, rfl, true, ?_, iteF ?_⟩
    · rw [decide_eq_true (show (0 : Int) ≤ p by omega), decide_eq_true (show (p : Int) ≤ (m : Int) - 1 by omega)]
      rfl
    have plen : p < ps.length := by rw [pa.pg.len]; exact hp
    have vlen : p < (ps.map V.int).length := by rw [List.length_map]; exact plen
    have m8 := pa.m8
    refine ⟨_, rfl, _, rfl, _, rfl, t, _, rfl, s1 _ _ pa.ht, fun u1 H2 s2 hu1 => ⟨u1, _, rfl, .inl (SqT.of hu1), _, rfl, _, rfl, _, _, rfl, rfl, _, rfl, t, _, rfl, s2 _ _ (s1 _ _ pa.ht), fun u2 H3 s3 hu2 => ⟨u2, _, rfl, .inl (SqT.of hu2), ?_⟩⟩⟩
    have ez : cutV (ps.map V.int) none (some (p : Int)) ++ (V.int 0 :: (cutV (ps.map V.int) (some ((p : Int) + 1)) none ++ [])) = (setZ ps p).map V.int := by
      rw [cut_take _ p (by omega), show (p : Int) + 1 = ((p + 1 : Nat) : Int) by omega, cut_drop _ (p + 1) (by omega)]
      unfold setZ
      rw [List.append_nil, List.map_append, List.map_cons, List.map_take, List.map_drop]
    have hlen0 : ((setZ ps p).map V.int).length ≤ sizeLine := by
      rw [List.length_map, setZ_len plen, pa.pg.len]
      exact Nat.le_of_lt (small1000 (by omega))
    refine ⟨Nat.le_trans (Nat.le_of_eq (congrArg List.length ez)) hlen0, fun f nf => ?_⟩
    have s4 := ((s1.trans s2).trans s3).trans (same_new (o := .tup (cutV (ps.map V.int) none (some (p : Int)) ++ (V.int 0 :: (cutV (ps.map V.int) (some ((p : Int) + 1)) none ++ [])))) nf)
    refine ⟨_, rfl, a, m, rs, rfl, (pa.same s4).ra, pa.g, fun H5 l s5 nl hl => ?_⟩
    have hf : H5 f = some (.tup ((setZ ps p).map V.int)) := by
      rw [← ez]
      exact s5 _ _ upd_same
    obtain ⟨xs, hxl, hxd⟩ := hl
    have few := kept_small (rs := rs) m8
    have hlen : xs.length = (keptRows m rs).length := by rw [hxd.length, List.length_map]
    have hrow : ∀ r ∈ keptRows m rs, (setZ ps p).length = r.length ∧ r.length ≤ 8 ∧ Bits r ∧ p < r.length := fun r hr => by
      have z := kept_mem hr
      exact ⟨by rw [setZ_len plen, pa.pg.len, z.1], by rw [z.1]; exact m8, z.2, by rw [z.1]; exact hp⟩
    refine ⟨_, rfl, l, rfl, ⟨_, SqL.of hxl⟩, fun D hD => lc_dt (walk_list (K := K) (xs := xs)) (keptRows m rs) (fun r => decide (at0 r (p : Int) = 1)) (fun r => .int (cost (setZ ps p) r)) hlen (small1000 (by omega)) hD (fun H' sm => SqL.of (sm _ _ hxl)) (fun i r x H6 H6' Yes No hu sm yy yes no => ?_) (fun H6 ys s6 hys dy => ?_)⟩
    · obtain ⟨rfl, hi⟩ := yy
      obtain ⟨d, hd, hdt⟩ := hxd.got hi
      rw [List.getElem?_map, hu] at hd
      cases hd
      have hm := hrow r (List.mem_of_getElem? hu)
      have hdt' := hdt.k (kt_same sm)
      obtain ⟨b, rfl, hb⟩ := hdt'.of_row
      refine ⟨rfl, _, rfl, _, rfl, b, _, _, _, rfl, rfl, SqT.of hb, at0_get (by omega) (by omega), rfl, _, rfl, ite2 (fun hk => ?_) (fun hk => ?_)⟩
      · have hk2 : at0 r (p : Int) = 1 := V.int.inj (of_decide_eq_true hk)
        exact ⟨_, rfl, _, rfl, _, _, setZ ps p, r, rfl, Dt.row (sm _ _ hf), hdt', hm.1, hm.2.1, hm.2.2.1, fun H7 s7 => yes (decide_eq_true hk2) _ H7 s7 (.int _)⟩
      · exact no (decide_eq_false fun e => hk (decide_eq_true (by rw [e]))) _ (Same.refl _)
    have e1 : ys = (withV ps (keptRows m rs) p 1).map V.int := Da.of_ints (H := H6) (by unfold withV; rw [List.map_map]; exact dy)
    subst e1
    refine ⟨_, rfl, l, rfl, ⟨_, SqL.of (s6 _ _ hxl)⟩, fun D2 hD2 => lc_dt (walk_list (K := K) (xs := xs)) (keptRows m rs) (fun r => decide (at0 r (p : Int) = 0)) (fun r => .int (cost (setZ ps p) r)) hlen (small1000 (by omega)) hD2 (fun H' sm => SqL.of (sm _ _ (s6 _ _ hxl))) (fun i r x H7 H7' Yes No hu sm yy yes no => ?_) (fun H7 ys s7 hys2 dy2 => ?_)⟩
    · obtain ⟨rfl, hi⟩ := yy
      obtain ⟨d, hd, hdt⟩ := hxd.got hi
      rw [List.getElem?_map, hu] at hd
      cases hd
      have hm := hrow r (List.mem_of_getElem? hu)
      have s67 := s6.trans sm
      have hdt' := hdt.k (kt_same s67)
      obtain ⟨b, rfl, hb⟩ := hdt'.of_row
      refine ⟨rfl, _, rfl, _, rfl, b, _, _, _, rfl, rfl, SqT.of hb, at0_get (by omega) (by omega), rfl, _, rfl, ite2 (fun hk => ?_) (fun hk => ?_)⟩
      · have hk2 : at0 r (p : Int) = 0 := V.int.inj (of_decide_eq_true hk)
        exact ⟨_, rfl, _, rfl, _, _, setZ ps p, r, rfl, Dt.row (s67 _ _ hf), hdt', hm.1, hm.2.1, hm.2.2.1, fun H8 s8 => yes (decide_eq_true hk2) _ H8 s8 (.int _)⟩
      · exact no (decide_eq_false fun e => hk (decide_eq_true (by rw [e]))) _ (Same.refl _)
    have e2 : ys = (withV ps (keptRows m rs) p 0).map V.int := Da.of_ints (H := H7) (by unfold withV; rw [List.map_map]; exact dy2)
    subst e2
    have sAll := ((s4.trans s5).trans s6).trans s7
    -- if ones == []: return None
    refine ⟨_, rfl, Nat.zero_le _, fun e ne => ?_⟩
    have s8 : Same H7 (upd H7 e (.lst [])) := same_new ne
    have hones := s8 _ _ (s7 _ _ hys)
    have hoth := s8 _ _ hys2
    refine ⟨.list ((withV ps (keptRows m rs) p 1).map .int), .list [], .lst (SqL.of hones) (Da.ints _).dp, .lst (SqL.of upd_same) .nil, shaped_lints _, rfl, _, rfl, ?_⟩
    rw [eqv_nil]
    refine ite2 (fun hk => ?_) (fun hk => ?_)
    · have hk0 : withV ps (keptRows m rs) p 1 = [] := by simpa using hk
      exact q _ _ (sAll.trans s8) (.inl ⟨hk0, rfl⟩)
    · have hk0 : withV ps (keptRows m rs) p 1 ≠ [] := by simpa using hk
      refine ⟨_, rfl, Nat.zero_le _, fun e2 ne2 => ?_⟩
      have s9 : Same (upd H7 e (.lst [])) (upd (upd H7 e (.lst [])) e2 (.lst [])) := same_new ne2
      refine ⟨.list ((withV ps (keptRows m rs) p 0).map .int), .list [], .lst (SqL.of (s9 _ _ hoth)) (Da.ints _).dp, .lst (SqL.of upd_same) .nil, shaped_lints _, rfl, _, rfl, ?_⟩
      rw [eqv_nil]
      have sEnd := (sAll.trans s8).trans s9
      refine ite2 (fun hj => ?_) (fun hj => ?_)
      · have hj0 : withV ps (keptRows m rs) p 0 ≠ [] := by simpa using hj
        refine ⟨_, rfl, D2, _, rfl, SqL.of (s9 _ _ hoth), List.length_pos_iff.mpr hj0, fun mo ho1 ho2 => ⟨_, rfl, D, _, rfl, SqL.of (s9 _ _ hones), List.length_pos_iff.mpr hk0, fun mn hn1 hn2 => ⟨_, _, rfl, rfl, ?_⟩⟩⟩
        refine ⟨_, rfl, 50, rfl, _, _, rfl, rfl, _, rfl, ite2 (fun hc => ?_) (fun hc => ?_)⟩
        · have hc2 : -50 ≤ mo - mn := of_decide_eq_true hc
          refine ⟨_, rfl, mo - mn, 50, rfl, q _ _ sEnd (.inr (.inr ⟨mn, mo, ⟨hn1, hn2⟩, ⟨ho1, ho2⟩, ?_⟩))⟩
          rw [if_pos hc2]
        · have hc2 : ¬ -50 ≤ mo - mn := fun z => hc (decide_eq_true z)
          refine q _ _ sEnd (.inr (.inr ⟨mn, mo, ⟨hn1, hn2⟩, ⟨ho1, ho2⟩, ?_⟩))
          rw [if_neg hc2]
      · have hj0 : withV ps (keptRows m rs) p 0 = [] := by simpa using hj
        refine ⟨_, rfl, 50, rfl, _, _, rfl, rfl, _, rfl, iteT ⟨_, rfl, 50, 50, rfl, ?_⟩⟩
        obtain ⟨mn, hmn⟩ : ∃ mn, IsMin (withV ps (keptRows m rs) p 1) mn := by
          generalize withV ps (keptRows m rs) p 1 = ns at hk0
          clear hk hones q
          induction ns with
          | nil => exact absurd rfl hk0
          | cons x xs ih =>
            by_cases hx : xs = []
            · subst hx
              exact ⟨x, List.mem_cons_self, fun y hy => by rw [List.mem_singleton.mp hy]; exact Int.le_refl _⟩
            · obtain ⟨y, h1, h2⟩ := ih hx
              by_cases hxy : x ≤ y
              · exact ⟨x, List.mem_cons_self, fun z hz => by
                  rcases List.mem_cons.mp hz with e | e
                  · rw [e]; exact Int.le_refl _
                  · exact Int.le_trans hxy (h2 z e)⟩
              · exact ⟨y, List.mem_cons_of_mem _ h1, fun z hz => by
                  rcases List.mem_cons.mp hz with e | e
                  · rw [e]; omega
                  · exact h2 z e⟩
        exact q _ _ sEnd (.inr (.inl ⟨mn, hmn, hj0, rfl⟩))
end
end Mr

/-! Mr.D8: the law's draws: _law_taken, _law_pick. What is drawn is left open. -/
namespace Mr
open PySem PySem.Spec PyProof.Rows L2
/-- the draws' own list: the script, how far it was read, the mixed number, a cell's rest -/
def RowAt (K : PySem.W.Frag) (H : Hp) (p s : Addr) : Prop := ∃ (ns : List Int) (i c r : Int), H p = some (.lst [.ref s, .int i, .int c, .int r]) ∧ SqL K H s (ns.map V.int) ∧ (s ≠ p ∨ ∀ H', SqL K H' s (ns.map V.int)) ∧ 0 ≤ i
theorem sql_but {K : PySem.W.Frag} {p a : Addr} {H H' : Hp} {xs : List V} (b : But p H H') (n : a ≠ p ∨ ∀ H', SqL K H' a xs) (h : SqL K H a xs) : SqL K H' a xs := by
  rcases n with n | n
  rotate_left
  · exact n H'
  rcases h with (h | ⟨o, h⟩) | h
  · exact .inl (.inl (b _ _ n h))
  · exact .inl (.inr ⟨o, b _ _ n h⟩)
  · exact .inr h
theorem RowAt.lst {K : PySem.W.Frag} {H : Hp} {p s : Addr} (x : RowAt K H p s) : ∃ ys, H p = some (.lst ys) := let ⟨_, _, _, _, h, _⟩ := x; ⟨_, h⟩
theorem RowAt.same {K : PySem.W.Frag} {H H' : Hp} {p s0 : Addr} (x : RowAt K H p s0) (s : Same H H') : RowAt K H' p s0 :=
  let ⟨ns, i, c, r, h, h1, h2, h3⟩ := x
  ⟨ns, i, c, r, s _ _ h, s.seq h1, h2, h3⟩
/-- what is written is younger than the draws' list -/
theorem RowAt.young {K : PySem.W.Frag} {H H1 : Hp} {p s f : Addr} {o : HO} (x : RowAt K H p s) (y : RowAt K H1 p s) (hf : H f = none) : RowAt K (upd H1 f o) p s := by
  obtain ⟨ns, _, _, _, hp, hS, n, _⟩ := x
  obtain ⟨ns1, i, c, r, hp1, hS1, n1, i0⟩ := y
  have pf : p ≠ f := ne_of_none hp hf
  have hp2 : upd H1 f o p = some (.lst [.ref s, .int i, .int c, .int r]) := by rw [upd_ne pf]; exact hp1
  have old : s ≠ f → RowAt K (upd H1 f o) p s := fun sf => by
    refine ⟨ns1, i, c, r, hp2, ?_, n1, i0⟩
    rcases hS1 with (h | ⟨q, h⟩) | h
    · exact .inl (.inl (by rw [upd_ne sf]; exact h))
    · exact .inl (.inr ⟨q, by rw [upd_ne sf]; exact h⟩)
    · exact .inr h
  rcases hS with (h | ⟨q, h⟩) | h
  · exact old (ne_of_none h hf)
  · exact old (ne_of_none h hf)
  · exact ⟨ns, i, c, r, hp2, .inr h, .inr fun _ => .inr h, i0⟩
section
variable {P : Program} {w : World} {K : PySem.W.Frag} {mg : Str → Option Value} {base : Heap}
def spTaken (K : PySem.W.Frag) : Sp := fun vs H Q _ => ∃ (p s : Addr) (m : Int), vs = [.ref p, .int m] ∧ RowAt K H p s ∧ 1 ≤ m ∧ m < 1000000 ∧ ∀ x H', 0 ≤ x → x < m → But p H H' → RowAt K H' p s → Q (.int x) H'
theorem ok_taken (T : Prog K mg) : FnOk P w K mg base CX0 1 T.dLTaken.f T.dLTaken.fd ["_law_row", "_law_many"] (spTaken K) := by
  refine T.dLTaken.F.ok scLTaken (fun vs H Q E h => ?_) (fun cdv A outer s H vs Q E hr h => ?_)
  · obtain ⟨_, _, _, rfl, _⟩ := h
    rfl
  · obtain ⟨p, s0, m, rfl, ⟨ns, i, c, r, hp, hS, nsp, hi⟩, m1, m2, q⟩ := h
    refine ⟨_, pss_cons (ps_if (pt_cmpR op_gt (pe_ix ix_list (pv 0) pe_int (fun _ _ => rfl)) pe_int (nomark _))
        (pss_cons (ps_set (i := 2) scLTaken.nd rfl (.inl rfl) (pe_op op_mod (pe_callTy call_int1 (by rfl) T.z_int (by decide +kernel) (pa_cons (pe_ix ix_list (pv 0) pe_int (fun _ _ => rfl)) pa_nil)) (pv 1)))
        (pss_cons (ps_asg (pe_op op_fdiv (pe_ix ix_list (pv 0) pe_int (fun _ _ => rfl)) (pv 1)) (pg_sub (pv 0) pe_int set_list))
        (pss_one (ps_ret (pv 2))))) pss_nil)
      (pss_cons (ps_asg (pe_op op_add (pe_ix ix_list (pv 0) pe_int (fun _ _ => rfl)) pe_int) (pg_sub (pv 0) pe_int set_list))
      (pss_cons (ps_if (pt_cmpR op_gt (pe_ix ix_list (pv 0) pe_int (fun _ _ => rfl)) (pe_callB call_len_seq (by rfl) T.z_len PySem.boot_len (pa_cons (pe_ix ix_list (pv 0) pe_int (fun _ _ => rfl)) pa_nil)) (nomark _))
        (pss_cons (ps_asg (pe_op op_mod (pe_callTy call_int1 (by rfl) T.z_int (by decide +kernel) (pa_cons (pe_op op_add (pe_op op_mul (pe_ix ix_list (pv 0) pe_int (fun _ _ => rfl)) pe_int) pe_int) pa_nil)) pe_int) (pg_sub (pv 0) pe_int set_list))
        (pss_one (ps_ret (pe_op op_mod (pe_callTy call_int1 (by rfl) T.z_int (by decide +kernel) (pa_cons (pe_op op_fdiv (pe_ix ix_list (pv 0) pe_int (fun _ _ => rfl)) pe_int) pa_nil)) (pv 1))))) pss_nil)
      (pss_cons (ps_set (i := 3) scLTaken.nd rfl (.inl rfl) (pe_ix ix_list (pe_ix ix_list (pv 0) pe_int (fun _ _ => rfl)) (pe_op op_sub (pe_ix ix_list (pv 0) pe_int (fun _ _ => rfl)) pe_int) (fun _ _ => rfl)))
      (pss_cons (ps_asg (pe_op op_mod (pe_callTy call_int1 (by rfl) T.z_int (by decide +kernel) (pa_cons (pe_op op_add (pe_op op_add (pe_op op_mul (pe_ix ix_list (pv 0) pe_int (fun _ _ => rfl)) pe_int) (pv 3)) pe_int) pa_nil)) pe_int) (pg_sub (pv 0) pe_int set_list))
      (pss_cons (ps_if (pt_cmpR op_ge (pv 3) (pe_op op_pow pe_int pe_int) (nomark _)) (pss_one (ps_asg (pe_op op_fdiv (pv 3) (pv 1)) (pg_sub (pv 0) pe_int set_list))) pss_nil)
      (pss_one (ps_ret (pe_op op_mod (pe_callTy call_int1 (by rfl) T.z_int (by decide +kernel) (pa_cons (pv 3) pa_nil)) (pv 1))))))))), ?_⟩
    have m0 : 0 < m := by omega
    have md : ∀ x : Int, 0 ≤ x % m ∧ x % m < m := fun x => ⟨Int.emod_nonneg _ (by omega), Int.emod_lt_of_pos _ m0⟩
    have h3 : ∀ (a b c d : V), atI [a, b, c, d] 3 = some d := fun a b c d => atI_nat (j := 3) rfl
    have h2 : ∀ (a b c d : V), atI [a, b, c, d] 2 = some c := fun a b c d => atI_nat (j := 2) rfl
    have h1 : ∀ (a b c d : V), atI [a, b, c, d] 1 = some b := fun a b c d => atI_nat (j := 1) rfl
    have h0 : ∀ (a b c d : V), atI [a, b, c, d] 0 = some a := fun a b c d => atI_nat (j := 0) rfl
    refine ⟨_, rfl, p, _, 3, _, rfl, rfl, SqL.of hp, h3 _ _ _ _, r, 0, rfl, rfl, _, rfl, ite2 (fun hc => ?_) (fun hc => ?_)⟩
    · refine ⟨_, rfl, p, _, 3, _, rfl, rfl, SqL.of hp, h3 _ _ _ _, .inl ⟨r, rfl, _, rfl, r, m, rfl, rfl, m0, ?_⟩⟩
      refine ⟨_, rfl, p, _, 3, _, rfl, rfl, SqL.of hp, h3 _ _ _ _, _, rfl, r, m, rfl, rfl, ⟨m0, by omega⟩, _, rfl, p, _, 3, 3, rfl, rfl, hp, rfl, ?_⟩
      have b := But.upd p H (.lst [.ref s0, .int i, .int c, .int (r / m)])
      exact ⟨_, rfl, q _ _ (md r).1 (md r).2 b ⟨ns, i, c, r / m, upd_same, sql_but b nsp hS, nsp, hi⟩⟩
    · refine ⟨_, rfl, p, _, 1, _, rfl, rfl, SqL.of hp, h1 _ _ _ _, i, 1, rfl, rfl, _, rfl, p, _, 1, 1, rfl, rfl, hp, rfl, ?_⟩
      have b1 := But.upd p H (.lst [.ref s0, .int (i + 1), .int c, .int r])
      have S1 := sql_but b1 nsp hS
      have hp1 : upd H p (.lst [.ref s0, .int (i + 1), .int c, .int r]) p = some (.lst [.ref s0, .int (i + 1), .int c, .int r]) := upd_same
      refine ⟨_, rfl, p, _, 1, _, rfl, rfl, SqL.of hp1, h1 _ _ _ _, _, rfl, p, _, 0, _, rfl, rfl, SqL.of hp1, h0 _ _ _ _, s0, _, rfl, .inl S1, i + 1, _, rfl, rfl, _, rfl, ite2 (fun hd => ?_) (fun hd => ?_)⟩
      · refine ⟨_, rfl, p, _, 2, _, rfl, rfl, SqL.of hp1, h2 _ _ _ _, c, 48271, rfl, rfl, .inr ⟨by decide, by decide⟩, _, _, rfl, rfl, .inl ⟨_, rfl, _, _, rfl, rfl, (by decide : (0 : Int) < 2147483647), _, rfl, p, _, 2, 2, rfl, rfl, hp1, rfl, ?_⟩⟩
        have b2 := b1.trans (But.upd p _ (.lst [.ref s0, .int (i + 1), .int ((c * 48271 + 11) % 2147483647), .int r]))
        refine ⟨_, rfl, p, _, 2, _, rfl, rfl, SqL.of upd_same, h2 _ _ _ _, _, 7, rfl, rfl, ⟨by decide, by decide⟩, .inl ⟨_, rfl, _, rfl, _, m, rfl, rfl, m0, ?_⟩⟩
        exact q _ _ (md _).1 (md _).2 b2 ⟨ns, i + 1, _, r, upd_same, sql_but b2 nsp hS, nsp, by omega⟩
      · have hle : i + 1 ≤ (ns.length : Int) := by
          have : ¬ ((ns.map V.int).length : Int) < i + 1 := fun z => hd (decide_eq_true z)
          rw [List.length_map] at this
          omega
        obtain ⟨n, rfl⟩ : ∃ n : Nat, i = n := ⟨i.toNat, by omega⟩
        have hn : n < ns.length := by omega
        have hcell : atI (ns.map V.int) ((n : Int) + 1 - 1) = some (.int ns[n]) := by
          rw [show (n : Int) + 1 - 1 = n by omega]
          refine atI_nat ?_
          rw [List.getElem?_map, List.getElem?_eq_getElem hn]
          rfl
        refine ⟨_, rfl, p, _, 0, _, rfl, rfl, SqL.of hp1, h0 _ _ _ _, _, rfl, p, _, 1, _, rfl, rfl, SqL.of hp1, h1 _ _ _ _, _, 1, rfl, rfl, s0, _, _, _, rfl, rfl, S1, hcell, ?_⟩
        refine ⟨_, rfl, p, _, 2, _, rfl, rfl, SqL.of hp1, h2 _ _ _ _, c, 48271, rfl, rfl, .inr ⟨by decide, by decide⟩, _, rfl, _, _, rfl, rfl, _, _, rfl, rfl, .inl ⟨_, rfl, _, _, rfl, rfl, (by decide : (0 : Int) < 2147483647), _, rfl, p, _, 2, 2, rfl, rfl, hp1, rfl, ?_⟩⟩
        have b2 := b1.trans (But.upd p _ (.lst [.ref s0, .int ((n : Int) + 1), .int ((c * 48271 + ns[n] + 11) % 2147483647), .int r]))
        refine ⟨_, rfl, 10, 18, rfl, rfl, ⟨by decide, by decide, by decide⟩, ns[n], _, rfl, rfl, _, rfl, ite2 (fun he => ?_) (fun he => ?_)⟩
        · refine ⟨_, rfl, _, rfl, _, m, rfl, rfl, ⟨m0, by omega⟩, _, rfl, p, _, 3, 3, rfl, rfl, upd_same, rfl, ?_⟩
          have b3 := b2.trans (But.upd p _ (.lst [.ref s0, .int ((n : Int) + 1), .int ((c * 48271 + ns[n] + 11) % 2147483647), .int (ns[n] / m)]))
          exact ⟨_, rfl, .inl ⟨_, rfl, _, rfl, _, m, rfl, rfl, m0, q _ _ (md _).1 (md _).2 b3 ⟨ns, (n : Int) + 1, _, _, upd_same, sql_but b3 nsp hS, nsp, by omega⟩⟩⟩
        · exact ⟨_, rfl, .inl ⟨_, rfl, _, rfl, _, m, rfl, rfl, m0, q _ _ (md _).1 (md _).2 b2 ⟨ns, (n : Int) + 1, _, _, upd_same, sql_but b2 nsp hS, nsp, by omega⟩⟩⟩

def spPick (K : PySem.W.Frag) : Sp := fun vs H Q _ => ∃ (p s l : Addr) (xs : List V), vs = [.ref p, .ref l] ∧ RowAt K H p s ∧ H l = some (.lst xs) ∧ l ≠ p ∧ xs ≠ [] ∧ xs.length ≤ 1000 ∧ ∀ x H', x ∈ xs → But p H H' → RowAt K H' p s → Q x H'
theorem ok_pick (T : Prog K mg) : FnOk P w K mg base CX0 2 T.dLPick.f T.dLPick.fd ["_law_row", "_law_things"] (spPick K) := by
  have G : FnOk P w K mg base CX0 1 T.dLTaken.f T.dLTaken.fd ["_law_row", "_law_many"] (spTaken K) := ok_taken T
  refine T.dLPick.F.ok scLPick (fun vs H Q E h => ?_) (fun cdv A outer s H vs Q E hr h => ?_)
  · obtain ⟨_, _, _, _, rfl, _⟩ := h
    rfl
  · obtain ⟨p, s0, l, xs, rfl, ra, hl, nlp, ne, few, q⟩ := h
    refine ⟨_, pss_one (ps_ret (pe_ix ix_list (pv 1) (pe_call G hr (by rfl) T.dLTaken.g T.dLTaken.kp T.dLTaken.b .nil pass0 (pa_cons (pv 0) (pa_cons (pe_callB call_len_seq (by rfl) T.z_len PySem.boot_len (pa_cons (pv 1) pa_nil)) pa_nil))) (fun _ _ => rfl))), ?_⟩
    have hlen : 0 < xs.length := List.length_pos_iff.mpr ne
    refine ⟨_, rfl, _, rfl, _, rfl, l, xs, rfl, .inl (SqL.of hl), p, s0, (xs.length : Int), rfl, ra, by omega, by omega, fun x H1 x0 x1 b r1 => ?_⟩
    obtain ⟨n, rfl⟩ : ∃ n : Nat, x = n := ⟨x.toNat, by omega⟩
    have hn : n < xs.length := by omega
    exact ⟨l, xs, n, xs[n], rfl, rfl, SqL.of (b _ _ nlp hl), atI_nat (List.getElem?_eq_getElem hn), q _ _ (List.getElem_mem hn) b r1⟩
end
end Mr

/-! Mr.D9: _law_alike of equal data gives True. -/
namespace Mr
open PySem PySem.Spec PyProof.Rows L2
mutual
/-- the most items that a list or tuple within has -/
def wd : PyData → Nat
  | .list ds => max ds.length (wdAll ds)
  | .tuple ds => max ds.length (wdAll ds)
  | _ => 0
def wdAll : List PyData → Nat
  | [] => 0
  | d :: ds => max (wd d) (wdAll ds)
end
theorem wd_get : ∀ {ds : List PyData} {i : Nat} {d : PyData}, ds[i]? = some d → wd d ≤ wdAll ds
  | [], _, _, h => by simp at h
  | x :: ds, 0, d, h => by
    simp at h
    subst h
    rw [wdAll]
    exact Nat.le_max_left _ _
  | x :: ds, i + 1, d, h => by
    rw [wdAll]
    exact Nat.le_trans (wd_get (i := i) (by simpa using h)) (Nat.le_max_right _ _)
theorem depth_get : ∀ {ds : List PyData} {i : Nat} {d : PyData}, ds[i]? = some d → d.depth ≤ PyData.depthAll ds
  | [], _, _, h => by simp at h
  | x :: ds, 0, d, h => by
    simp at h
    subst h
    rw [PyData.depthAll]
    exact Nat.le_max_left _ _
  | x :: ds, i + 1, d, h => by
    rw [PyData.depthAll]
    exact Nat.le_trans (depth_get (i := i) (by simpa using h)) (Nat.le_max_right _ _)
/-- a datum, or a list of such -/
inductive Dv (H : Hp) : V → PyData → Prop
  | non : Dv H .non .none
  | bl (b : Bool) : Dv H (.bl b) (.bool b)
  | int (i : Int) : Dv H (.int i) (.int i)
  | tup {a : Addr} {xs : List V} {ds : List PyData} : H a = some (.tup xs) → Da H xs ds → Dv H (.ref a) (.tuple ds)
  | lst {a : Addr} {xs : List V} {ds : List PyData} : H a = some (.lst xs) → Da H xs ds → Dv H (.ref a) (.list ds)
theorem Dt.dv {H : Hp} {v : V} {d : PyData} (x : Dt H v d) : Dv H v d := by
  cases x with
  | non => exact .non
  | bl b => exact .bl b
  | int i => exact .int i
  | tup h r => exact .tup h r
theorem Ls.dv {H : Hp} {a : Addr} {ds : List PyData} (x : Ls H a ds) : Dv H (.ref a) (.list ds) := let ⟨_, h, d⟩ := x; .lst h d
theorem Dv.same {H H' : Hp} {v : V} {d : PyData} (x : Dv H v d) (s : Same H H') : Dv H' v d := by
  cases x with
  | non => exact .non
  | bl b => exact .bl b
  | int i => exact .int i
  | tup h r => exact .tup (s _ _ h) (r.k (kt_same s))
  | lst h r => exact .lst (s _ _ h) (r.k (kt_same s))
section
variable {K : PySem.W.Frag}
theorem kitTL {t : String} {b1 b2 : Bool} (h1 : kitB t "tuple" = some b1) (h2 : kitB t "list" = some b2) : PySem.W.kitAny K (.type t) [.type "tuple", .type "list"] = some (b1 || b2) := by
  cases b1 with
  | true => exact kitAny_cons (kit_ty h1) (fun z => nomatch z) (fun _ => rfl)
  | false =>
    refine kitAny_cons (kit_ty h1) (fun _ => ?_) (fun z => nomatch z)
    cases b2 with
    | true => exact kitAny_cons (kit_ty h2) (fun z => nomatch z) (fun _ => rfl)
    | false => exact kitAny_cons (kit_ty h2) (fun _ => kitAny_nil) (fun z => nomatch z)
end
section
variable {P : Program} {w : World} {K : PySem.W.Frag} {mg : Str → Option Value} {base : Heap}
def spAlike (n : Nat) : Sp := fun vs H Q _ => ∃ (x y : V) (d : PyData), vs = [x, y] ∧ Dv H x d ∧ Dv H y d ∧ d.depth ≤ n ∧ wd d ≤ 1000 ∧ ∀ H', Same H H' → Q (.bl true) H'
theorem ok_alike (T : Prog K mg) : ∀ n, FnOk P w K mg base CX0 (n + 1) T.dLAlike.f T.dLAlike.fd ["_law_found", "_law_due"] (spAlike n) := by
  intro n
  induction n with
  | zero =>
    refine T.dLAlike.F.ok scLAlike (fun vs H Q E h => ?_) (fun cdv A outer s H vs Q E hr h => ?_)
    · obtain ⟨_, _, _, rfl, _⟩ := h
      rfl
    · obtain ⟨x, y, d, rfl, hx, hy, hd, hw, q⟩ := h
      refine ⟨_, pss_cons (ps_if (pt_val (pe_callB call_isiT (by rfl) T.z_isinstance PyProof.Rows.boot_isinstance (pa_cons (pv 1) (pa_cons (pe_tup (pa_cons (pe_bltn (v := .ty "tuple") (by rfl) T.z_tuple (by decide +kernel) rfl) (pa_cons (pe_bltn (v := .ty "list") (by rfl) T.z_list (by decide +kernel) rfl) pa_nil))) pa_nil)))) pss_never pss_nil)
        (pss_cons (ps_if (PW.pt (pw_or (pt_cmp (pc_isN (pv 1)) rfl) (pw_or1 (pt_val (pe_callB call_isi (by rfl) T.z_isinstance PyProof.Rows.boot_isinstance (pa_cons (pv 1) (pa_cons (pe_bltn (v := .ty "str") (by rfl) T.z_str (by decide +kernel) rfl) pa_nil)))))))
          (pss_one (ps_ret (pe_and (pe_cmpR op_eq (pv 0) (pv 1) (nomark _)) (pe_one (pe_cmpR op_eq (pe_callB call_isi (by rfl) T.z_isinstance PyProof.Rows.boot_isinstance (pa_cons (pv 0) (pa_cons (pe_bltn (v := .ty "str") (by rfl) T.z_str (by decide +kernel) rfl) pa_nil))) (pe_callB call_isi (by rfl) T.z_isinstance PyProof.Rows.boot_isinstance (pa_cons (pv 1) (pa_cons (pe_bltn (v := .ty "str") (by rfl) T.z_str (by decide +kernel) rfl) pa_nil))) (nomark _)))))) pss_nil)
        (pss_one (ps_ret (pe_and (pe_callB call_isi (by rfl) T.z_isinstance PyProof.Rows.boot_isinstance (pa_cons (pv 0) (pa_cons (pe_bltn (v := .ty "int") (by rfl) T.z_int (by decide +kernel) rfl) pa_nil)))
          (pe_and (pe_cmpR op_eq (pe_callB call_isi (by rfl) T.z_isinstance PyProof.Rows.boot_isinstance (pa_cons (pv 0) (pa_cons (pe_bltn (v := .ty "bool") (by rfl) T.z_bool (by decide +kernel) rfl) pa_nil))) (pe_callB call_isi (by rfl) T.z_isinstance PyProof.Rows.boot_isinstance (pa_cons (pv 1) (pa_cons (pe_bltn (v := .ty "bool") (by rfl) T.z_bool (by decide +kernel) rfl) pa_nil))) (nomark _))
            (pe_one (pe_cmpR op_eq (pv 0) (pv 1) (nomark _)))))))), ?_⟩
      refine ⟨_, rfl, by show 2 ≤ sizeLine; decide, fun tp nt => ?_⟩
      have s1 : Same H (upd H tp (.tup [.ty "tuple", .ty "list"])) := same_new nt
      cases hy with
      | non =>
        cases hx
        refine ⟨_, tp, _, _, _, _, rfl, upd_same, .cons (.ty "tuple") (.cons (.ty "list") .nil), .base .non, kitTL (b1 := false) (b2 := false) (by decide +kernel) (by decide +kernel), false, rfl, iteF ?_⟩
        refine ⟨_, rfl, true, rfl, iteT ⟨_, rfl, _, rfl, rfl, true, rfl, iteT ?_⟩⟩
        refine ⟨_, rfl, _, _, _, _, false, rfl, .ty "str", .base .non, kit_ty (by decide +kernel), _, rfl, _, _, _, _, false, rfl, .ty "str", .base .non, kit_ty (by decide +kernel), rfl, ?_⟩
        exact q _ s1
      | bl b =>
        cases hx
        refine ⟨_, tp, _, _, _, _, rfl, upd_same, .cons (.ty "tuple") (.cons (.ty "list") .nil), .base (.bl b), kitTL (b1 := false) (b2 := false) (by decide +kernel) (by decide +kernel), false, rfl, iteF ?_⟩
        refine ⟨_, rfl, false, rfl, iteF ⟨_, rfl, _, _, _, _, false, rfl, .ty "str", .base (.bl b), kit_ty (by decide +kernel), false, rfl, iteF ?_⟩⟩
        refine ⟨_, rfl, _, _, _, _, true, rfl, .ty "int", .base (.bl b), kit_ty (by decide +kernel), true, rfl, iteT ⟨_, rfl, _, _, _, _, true, rfl, .ty "bool", .base (.bl b), kit_ty (by decide +kernel), _, rfl, _, _, _, _, true, rfl, .ty "bool", .base (.bl b), kit_ty (by decide +kernel), rfl, true, rfl, iteT ⟨_, rfl, _, rfl, rfl, ?_⟩⟩⟩
        rw [decide_eq_true rfl]
        exact q _ s1
      | int i =>
        cases hx
        refine ⟨_, tp, _, _, _, _, rfl, upd_same, .cons (.ty "tuple") (.cons (.ty "list") .nil), .base (.int i), kitTL (b1 := false) (b2 := false) (by decide +kernel) (by decide +kernel), false, rfl, iteF ?_⟩
        refine ⟨_, rfl, false, rfl, iteF ⟨_, rfl, _, _, _, _, false, rfl, .ty "str", .base (.int i), kit_ty (by decide +kernel), false, rfl, iteF ?_⟩⟩
        refine ⟨_, rfl, _, _, _, _, true, rfl, .ty "int", .base (.int i), kit_ty (by decide +kernel), true, rfl, iteT ⟨_, rfl, _, _, _, _, false, rfl, .ty "bool", .base (.int i), kit_ty (by decide +kernel), _, rfl, _, _, _, _, false, rfl, .ty "bool", .base (.int i), kit_ty (by decide +kernel), rfl, true, rfl, iteT ⟨_, rfl, _, rfl, rfl, ?_⟩⟩⟩
        rw [decide_eq_true rfl]
        exact q _ s1
      | tup h r => exact absurd hd (by rw [PyData.depth]; omega)
      | lst h r => exact absurd hd (by rw [PyData.depth]; omega)
  | succ n ih =>
    have G : FnOk P w K mg base CX0 (n + 1) T.dLAlike.f T.dLAlike.fd ["_law_found", "_law_due"] (spAlike n) := ih
    refine T.dLAlike.F.ok scLAlike (fun vs H Q E h => ?_) (fun cdv A outer s H vs Q E hr h => ?_)
    · obtain ⟨_, _, _, rfl, _⟩ := h
      rfl
    · obtain ⟨x, y, d, rfl, hx, hy, hd, hw, q⟩ := h
      refine ⟨_, pss_cons (ps_if (pt_val (pe_callB call_isiT (by rfl) T.z_isinstance PyProof.Rows.boot_isinstance (pa_cons (pv 1) (pa_cons (pe_tup (pa_cons (pe_bltn (v := .ty "tuple") (by rfl) T.z_tuple (by decide +kernel) rfl) (pa_cons (pe_bltn (v := .ty "list") (by rfl) T.z_list (by decide +kernel) rfl) pa_nil))) pa_nil))))
          (pss_cons (ps_if (PW.pt (pw_or (pt_not (pt_val (pe_callB call_isiT (by rfl) T.z_isinstance PyProof.Rows.boot_isinstance (pa_cons (pv 0) (pa_cons (pe_tup (pa_cons (pe_bltn (v := .ty "tuple") (by rfl) T.z_tuple (by decide +kernel) rfl) (pa_cons (pe_bltn (v := .ty "list") (by rfl) T.z_list (by decide +kernel) rfl) pa_nil))) pa_nil)))))
            (pw_or1 (pt_cmpR op_ne (pe_callB call_isi (by rfl) T.z_isinstance PyProof.Rows.boot_isinstance (pa_cons (pv 0) (pa_cons (pe_bltn (v := .ty "list") (by rfl) T.z_list (by decide +kernel) rfl) pa_nil))) (pe_callB call_isi (by rfl) T.z_isinstance PyProof.Rows.boot_isinstance (pa_cons (pv 1) (pa_cons (pe_bltn (v := .ty "list") (by rfl) T.z_list (by decide +kernel) rfl) pa_nil))) (nomark _))))) pss_never pss_nil)
          (pss_cons (ps_if (pt_cmpR op_ne (pe_callB call_len_seq (by rfl) T.z_len PySem.boot_len (pa_cons (pv 0) pa_nil)) (pe_callB call_len_seq (by rfl) T.z_len PySem.boot_len (pa_cons (pv 1) pa_nil)) (nomark _)) pss_never pss_nil)
          (pss_one (ps_ret (pe_cmpR (op_eqD hr.units) (pe_lc (own := [("_law_k", 2)]) (g := gName 2) (tt := tNot (tB (tCall (spAlike n) [] E0 (tCons (tOp (rIx K) (tVar 0) (tVar 2)) (tCons (tOp (rIx K) (tVar 1) (tVar 2)) tNil))))) rfl scLAlike.nd (pi_range1 (by rfl) T.z_range (pa_cons (pe_callB call_len_seq (by rfl) T.z_len PySem.boot_len (pa_cons (pv 1) pa_nil)) pa_nil)) (blkOk_by (N := nLAlike) (sc := defScope sLAlike) (by decide +kernel))
            (fun _ _ _ _ _ => pg_name (i := 2) scLAlike.nd rfl (Or.inl rfl)) (fun _ _ _ _ _ => pts_one (pt_not (pt_val (pe_call G hr (by rfl) T.dLAlike.g T.dLAlike.kp T.dLAlike.b .nil pass0 (pa_cons (pe_ix ix_seq (pv 0) (pv 2) (fun _ _ => rfl)) (pa_cons (pe_ix ix_seq (pv 1) (pv 2) (fun _ _ => rfl)) pa_nil)))))) (fun _ _ _ _ _ => pv 2)) (pe_lst pa_nil) (nomark _)))))) pss_nil)
        (pss_cons (ps_if (PW.pt (pw_or (pt_cmp (pc_isN (pv 1)) rfl) (pw_or1 (pt_val (pe_callB call_isi (by rfl) T.z_isinstance PyProof.Rows.boot_isinstance (pa_cons (pv 1) (pa_cons (pe_bltn (v := .ty "str") (by rfl) T.z_str (by decide +kernel) rfl) pa_nil)))))))
          (pss_one (ps_ret (pe_and (pe_cmpR op_eq (pv 0) (pv 1) (nomark _)) (pe_one (pe_cmpR op_eq (pe_callB call_isi (by rfl) T.z_isinstance PyProof.Rows.boot_isinstance (pa_cons (pv 0) (pa_cons (pe_bltn (v := .ty "str") (by rfl) T.z_str (by decide +kernel) rfl) pa_nil))) (pe_callB call_isi (by rfl) T.z_isinstance PyProof.Rows.boot_isinstance (pa_cons (pv 1) (pa_cons (pe_bltn (v := .ty "str") (by rfl) T.z_str (by decide +kernel) rfl) pa_nil))) (nomark _)))))) pss_nil)
        (pss_one (ps_ret (pe_and (pe_callB call_isi (by rfl) T.z_isinstance PyProof.Rows.boot_isinstance (pa_cons (pv 0) (pa_cons (pe_bltn (v := .ty "int") (by rfl) T.z_int (by decide +kernel) rfl) pa_nil)))
          (pe_and (pe_cmpR op_eq (pe_callB call_isi (by rfl) T.z_isinstance PyProof.Rows.boot_isinstance (pa_cons (pv 0) (pa_cons (pe_bltn (v := .ty "bool") (by rfl) T.z_bool (by decide +kernel) rfl) pa_nil))) (pe_callB call_isi (by rfl) T.z_isinstance PyProof.Rows.boot_isinstance (pa_cons (pv 1) (pa_cons (pe_bltn (v := .ty "bool") (by rfl) T.z_bool (by decide +kernel) rfl) pa_nil))) (nomark _))
            (pe_one (pe_cmpR op_eq (pv 0) (pv 1) (nomark _)))))))), ?_⟩
      refine ⟨_, rfl, by show 2 ≤ sizeLine; decide, fun tp nt => ?_⟩
      have s1 : Same H (upd H tp (.tup [.ty "tuple", .ty "list"])) := same_new nt
      cases hy with
      | non =>
        cases hx
        refine ⟨_, tp, _, _, _, _, rfl, upd_same, .cons (.ty "tuple") (.cons (.ty "list") .nil), .base .non, kitTL (b1 := false) (b2 := false) (by decide +kernel) (by decide +kernel), false, rfl, iteF ?_⟩
        refine ⟨_, rfl, true, rfl, iteT ⟨_, rfl, _, rfl, rfl, true, rfl, iteT ?_⟩⟩
        refine ⟨_, rfl, _, _, _, _, false, rfl, .ty "str", .base .non, kit_ty (by decide +kernel), _, rfl, _, _, _, _, false, rfl, .ty "str", .base .non, kit_ty (by decide +kernel), rfl, ?_⟩
        exact q _ s1
      | bl b =>
        cases hx
        refine ⟨_, tp, _, _, _, _, rfl, upd_same, .cons (.ty "tuple") (.cons (.ty "list") .nil), .base (.bl b), kitTL (b1 := false) (b2 := false) (by decide +kernel) (by decide +kernel), false, rfl, iteF ?_⟩
        refine ⟨_, rfl, false, rfl, iteF ⟨_, rfl, _, _, _, _, false, rfl, .ty "str", .base (.bl b), kit_ty (by decide +kernel), false, rfl, iteF ?_⟩⟩
        refine ⟨_, rfl, _, _, _, _, true, rfl, .ty "int", .base (.bl b), kit_ty (by decide +kernel), true, rfl, iteT ⟨_, rfl, _, _, _, _, true, rfl, .ty "bool", .base (.bl b), kit_ty (by decide +kernel), _, rfl, _, _, _, _, true, rfl, .ty "bool", .base (.bl b), kit_ty (by decide +kernel), rfl, true, rfl, iteT ⟨_, rfl, _, rfl, rfl, ?_⟩⟩⟩
        rw [decide_eq_true rfl]
        exact q _ s1
      | int i =>
        cases hx
        refine ⟨_, tp, _, _, _, _, rfl, upd_same, .cons (.ty "tuple") (.cons (.ty "list") .nil), .base (.int i), kitTL (b1 := false) (b2 := false) (by decide +kernel) (by decide +kernel), false, rfl, iteF ?_⟩
        refine ⟨_, rfl, false, rfl, iteF ⟨_, rfl, _, _, _, _, false, rfl, .ty "str", .base (.int i), kit_ty (by decide +kernel), false, rfl, iteF ?_⟩⟩
        refine ⟨_, rfl, _, _, _, _, true, rfl, .ty "int", .base (.int i), kit_ty (by decide +kernel), true, rfl, iteT ⟨_, rfl, _, _, _, _, false, rfl, .ty "bool", .base (.int i), kit_ty (by decide +kernel), _, rfl, _, _, _, _, false, rfl, .ty "bool", .base (.int i), kit_ty (by decide +kernel), rfl, true, rfl, iteT ⟨_, rfl, _, rfl, rfl, ?_⟩⟩⟩
        rw [decide_eq_true rfl]
        exact q _ s1
      | @tup a xs ds h r =>
        cases hx with
        | @tup b ys _ h2 r2 =>
          have dd : PyData.depthAll ds ≤ n := by rw [PyData.depth] at hd; omega
          have ww : ds.length ≤ 1000 ∧ wdAll ds ≤ 1000 := by rw [wd] at hw; omega
          have h' := s1 _ _ h
          refine ⟨_, tp, _, _, _, _, rfl, upd_same, .cons (.ty "tuple") (.cons (.ty "list") .nil), .base (.tup h'), kitTL (b1 := true) (b2 := false) (by decide +kernel) (by decide +kernel), true, rfl, iteT ?_⟩
          refine ⟨_, rfl, by show 2 ≤ sizeLine; decide, fun tp2 nt2 => ?_⟩
          have s2 := s1.trans (same_new (o := .tup [.ty "tuple", .ty "list"]) nt2)
          have a2 := s2 _ _ h
          have b2 := s2 _ _ h2
          refine ⟨_, tp2, _, _, _, _, rfl, upd_same, .cons (.ty "tuple") (.cons (.ty "list") .nil), .base (.tup b2), kitTL (b1 := true) (b2 := false) (by decide +kernel) (by decide +kernel), true, rfl, iteF ?_⟩
          refine ⟨_, rfl, _, _, _, _, false, rfl, .ty "list", .base (.tup b2), kit_ty (by decide +kernel), _, rfl, _, _, _, _, false, rfl, .ty "list", .base (.tup a2), kit_ty (by decide +kernel), rfl, false, rfl, iteF ?_⟩
          have el : ys.length = xs.length := by rw [r2.length, r.length]
          refine ⟨_, rfl, b, ys, rfl, .inr (SqT.of b2), _, rfl, a, xs, rfl, .inr (SqT.of a2), rfl, false, by rw [el, decide_eq_true rfl]; rfl, iteF ?_⟩
          have xl : xs.length ≤ 1000 := by rw [r.length]; exact ww.1
          refine ⟨_, rfl, a, xs, rfl, .inr (SqT.of a2), (xs.length : Int), rfl, by omega, by omega, fun D hD => ?_⟩
          refine lc_dt (walk_range (lo := 0) (n := ((xs.length : Nat) : Int).toNat)) (List.range xs.length) (fun _ => false) (fun _ => .none) (by rw [List.length_range, Int.toNat_natCast]) (by rw [List.length_range]; exact small1000 xl) hD (fun _ _ => True.intro) (fun i b' x H1 H1' Yes No hu sm yy yes no => ?_) (fun H1 zs sm hzs dz => ?_)
          · obtain ⟨rfl, rfl⟩ := yy
            have hi : i < xs.length := by
              have := (List.getElem?_eq_some_iff.mp hu).1
              rw [List.length_range] at this
              exact this
            have h0 : (0 : Int) + (i : Nat) = (i : Int) := by omega
            have gx : xs[i]? = some xs[i] := List.getElem?_eq_getElem hi
            obtain ⟨e, he, het⟩ := r.got gx
            obtain ⟨y', gy, hyt⟩ := r2.get he
            have s3 := s2.trans sm
            refine ⟨rfl, _, rfl, _, rfl, .inr (.inl ⟨b, ys, _, y', rfl, rfl, SqT.of (s3 _ _ h2), by rw [h0]; exact atI_nat gy, _, rfl, _, rfl, .inr (.inl ⟨a, xs, _, xs[i], rfl, rfl, SqT.of (s3 _ _ h), by rw [h0]; exact atI_nat gx, y', xs[i], e, rfl, (hyt.k (kt_same s3)).dv, (het.k (kt_same s3)).dv, Nat.le_trans (depth_get he) dd, Nat.le_trans (wd_get he) ww.2, fun H2 s4 => ⟨true, rfl, ?_⟩⟩)⟩)⟩
            exact no rfl H2 s4
          · rw [List.filter_eq_nil_iff.mpr (fun _ _ => Bool.false_ne_true)] at dz
            cases dz
            refine ⟨Nat.zero_le _, fun e ne => ⟨.list [], .list [], .lst (SqL.of ((same_new ne) _ _ hzs)) .nil, .lst (SqL.of upd_same) .nil, rfl, rfl, ?_⟩⟩
            exact q _ ((s2.trans sm).trans (same_new ne))
      | @lst a xs ds h r =>
        cases hx with
        | @lst b ys _ h2 r2 =>
          have dd : PyData.depthAll ds ≤ n := by rw [PyData.depth] at hd; omega
          have ww : ds.length ≤ 1000 ∧ wdAll ds ≤ 1000 := by rw [wd] at hw; omega
          have h' := s1 _ _ h
          refine ⟨_, tp, _, _, _, _, rfl, upd_same, .cons (.ty "tuple") (.cons (.ty "list") .nil), .base (.lst h'), kitTL (b1 := false) (b2 := true) (by decide +kernel) (by decide +kernel), true, rfl, iteT ?_⟩
          refine ⟨_, rfl, by show 2 ≤ sizeLine; decide, fun tp2 nt2 => ?_⟩
          have s2 := s1.trans (same_new (o := .tup [.ty "tuple", .ty "list"]) nt2)
          have a2 := s2 _ _ h
          have b2 := s2 _ _ h2
          refine ⟨_, tp2, _, _, _, _, rfl, upd_same, .cons (.ty "tuple") (.cons (.ty "list") .nil), .base (.lst b2), kitTL (b1 := false) (b2 := true) (by decide +kernel) (by decide +kernel), true, rfl, iteF ?_⟩
          refine ⟨_, rfl, _, _, _, _, true, rfl, .ty "list", .base (.lst b2), kit_ty (by decide +kernel), _, rfl, _, _, _, _, true, rfl, .ty "list", .base (.lst a2), kit_ty (by decide +kernel), rfl, false, rfl, iteF ?_⟩
          have el : ys.length = xs.length := by rw [r2.length, r.length]
          refine ⟨_, rfl, b, ys, rfl, .inl (SqL.of b2), _, rfl, a, xs, rfl, .inl (SqL.of a2), rfl, false, by rw [el, decide_eq_true rfl]; rfl, iteF ?_⟩
          have xl : xs.length ≤ 1000 := by rw [r.length]; exact ww.1
          refine ⟨_, rfl, a, xs, rfl, .inl (SqL.of a2), (xs.length : Int), rfl, by omega, by omega, fun D hD => ?_⟩
          refine lc_dt (walk_range (lo := 0) (n := ((xs.length : Nat) : Int).toNat)) (List.range xs.length) (fun _ => false) (fun _ => .none) (by rw [List.length_range, Int.toNat_natCast]) (by rw [List.length_range]; exact small1000 xl) hD (fun _ _ => True.intro) (fun i b' x H1 H1' Yes No hu sm yy yes no => ?_) (fun H1 zs sm hzs dz => ?_)
          · obtain ⟨rfl, rfl⟩ := yy
            have hi : i < xs.length := by
              have := (List.getElem?_eq_some_iff.mp hu).1
              rw [List.length_range] at this
              exact this
            have h0 : (0 : Int) + (i : Nat) = (i : Int) := by omega
            have gx : xs[i]? = some xs[i] := List.getElem?_eq_getElem hi
            obtain ⟨e, he, het⟩ := r.got gx
            obtain ⟨y', gy, hyt⟩ := r2.get he
            have s3 := s2.trans sm
            refine ⟨rfl, _, rfl, _, rfl, .inl ⟨b, ys, _, y', rfl, rfl, SqL.of (s3 _ _ h2), by rw [h0]; exact atI_nat gy, _, rfl, _, rfl, .inl ⟨a, xs, _, xs[i], rfl, rfl, SqL.of (s3 _ _ h), by rw [h0]; exact atI_nat gx, y', xs[i], e, rfl, (hyt.k (kt_same s3)).dv, (het.k (kt_same s3)).dv, Nat.le_trans (depth_get he) dd, Nat.le_trans (wd_get he) ww.2, fun H2 s4 => ⟨true, rfl, ?_⟩⟩⟩⟩
            exact no rfl H2 s4
          · rw [List.filter_eq_nil_iff.mpr (fun _ _ => Bool.false_ne_true)] at dz
            cases dz
            refine ⟨Nat.zero_le _, fun e ne => ⟨.list [], .list [], .lst (SqL.of ((same_new ne) _ _ hzs)) .nil, .lst (SqL.of upd_same) .nil, rfl, rfl, ?_⟩⟩
            exact q _ ((s2.trans sm).trans (same_new ne))
end
end Mr

/-! Mr.M: the plain mathematics: the rows in order, the cheapest ones against the sorted pairs, the dearest price. -/
namespace Mr
open PySem PySem.W

/-! ### the order of rows -/
theorem lt_app : ∀ {a b x y : Row}, a.length = b.length → a < b → a ++ x < b ++ y
  | [], [], _, _, _, h => absurd h (List.lt_irrefl _)
  | [], _ :: _, _, _, e, _ => by simp at e
  | _ :: _, [], _, _, e, _ => by simp at e
  | p :: a, q :: b, x, y, e, h => by
    rw [List.cons_lt_cons_iff] at h
    rw [List.cons_append, List.cons_append, List.cons_lt_cons_iff]
    rcases h with h | ⟨h1, h2⟩
    · exact .inl h
    · exact .inr ⟨h1, lt_app (by simpa using e) h2⟩
theorem allRows_asc : ∀ m, (allRows m).Pairwise (· < ·)
  | 0 => List.pairwise_singleton _ _
  | m + 1 => by
    have ih := allRows_asc m
    show ((allRows m).flatMap fun r => [r ++ [0], r ++ [1]]).Pairwise (· < ·)
    rw [List.pairwise_flatMap]
    refine ⟨fun r hr => ?_, ih.imp_of_mem fun {a b} ha hb h x hx y hy => ?_⟩
    · refine List.pairwise_cons.mpr ⟨fun y hy => ?_, List.pairwise_singleton _ _⟩
      rw [List.mem_singleton.mp hy]
      exact List.append_left_lt (by decide)
    · have el : a.length = b.length := by rw [(allRows_mem ha).1, (allRows_mem hb).1]
      have hx' : x = a ++ [0] ∨ x = a ++ [1] := by simpa using hx
      have hy' : y = b ++ [0] ∨ y = b ++ [1] := by simpa using hy
      rcases hx' with rfl | rfl <;> rcases hy' with rfl | rfl <;> exact lt_app el h
def lawRowsL : Nat → List Row
  | 0 => [[]]
  | m + 1 => (lawRowsL m).map (· ++ [0]) ++ (lawRowsL m).map (· ++ [1])
theorem zip_perm {α β : Type} (f g : α → β) : ∀ l : List α, (l.map f ++ l.map g).Perm (l.flatMap fun r => [f r, g r])
  | [] => .refl _
  | a :: l => by
    have ih := zip_perm f g l
    show (f a :: (l.map f ++ g a :: l.map g)).Perm (f a :: g a :: l.flatMap fun r => [f r, g r])
    exact .cons _ (List.perm_middle.trans (.cons _ ih))
theorem lawRows_perm : ∀ m, (lawRowsL m).Perm (allRows m)
  | 0 => .refl _
  | m + 1 => by
    have ih := lawRows_perm m
    exact (zip_perm (· ++ [0]) (· ++ [1]) (lawRowsL m)).trans (ih.flatMap_right _)
theorem row_le (p q : Row) : dataLe false rowD p q = decide (p ≤ q) := by
  rw [dataLe_eq]
  show (!dataLt (.tuple (q.map .int)) (.tuple (p.map .int))) = _
  rw [dataLt_tuple]
  show (!rowLt (q.map .int) (p.map .int)) = _
  rw [dataLt_ints]
  by_cases h : q < p
  · have h' : ¬ p ≤ q := fun r => List.not_lt.mpr r h
    simp [h, h']
  · have h' : p ≤ q := List.not_lt.mp h
    simp [h, h']
theorem le_of_lt' {p q : Row} (h : p < q) : p ≤ q := List.not_lt.mp fun z => List.lt_irrefl p (List.lt_trans h z)
theorem le_anti {p q : Row} (h : p ≤ q) (k : q ≤ p) : p = q := List.le_antisymm h k
theorem rows_sorted (m : Nat) : (lawRowsL m).mergeSort (dataLe false rowD) = allRows m := by
  refine List.Perm.eq_of_pairwise (le := fun a b => dataLe false rowD a b = true) (fun a b _ _ h k => ?_) (sort_pairwise (sortLe_total _ _ _) _) ((allRows_asc m).imp fun h => ?_) ((List.mergeSort_perm _ _).trans (lawRows_perm m))
  · rw [row_le, decide_eq_true_eq] at h k
    exact le_anti h k
  · rw [row_le, decide_eq_true_eq]
    exact le_of_lt' h

/-! ### the pairs of cost and row -/
theorem row_alike (r t : Row) : alike (rowD r) (rowD t) = true := by
  show alikeAll (r.map .int) (t.map .int) = true
  exact alike_ints r t
theorem cost_alike (p q : Int × Row) : alike (costD p) (costD q) = true := by
  show alikeAll [.int p.1, rowD p.2] [.int q.1, rowD q.2] = true
  rw [alikeAll, alikeAll, row_alike]
  rfl
theorem row_eqv : ∀ (r t : Row), PyData.eqvAll (r.map .int) (t.map .int) = decide (r = t)
  | [], [] => rfl
  | [], _ :: _ => rfl
  | _ :: _, [] => rfl
  | a :: r, b :: t => by
    show (PyData.eqv (.int a) (.int b) && PyData.eqvAll (r.map .int) (t.map .int)) = _
    rw [row_eqv r t]
    show ((a == b) && _) = _
    by_cases h1 : a = b <;> by_cases h2 : r = t <;> simp [h1, h2]
theorem row_ltD (p q : Row) : dataLt (rowD p) (rowD q) = decide (p < q) := by
  show dataLt (.tuple (p.map .int)) (.tuple (q.map .int)) = _
  rw [dataLt_tuple]
  show rowLt (p.map .int) (q.map .int) = _
  rw [dataLt_ints]
theorem cost_le (p q : Int × Row) : dataLe false costD p q = true ↔ p.1 < q.1 ∨ (p.1 = q.1 ∧ p.2 ≤ q.2) := by
  rw [dataLe_eq]
  show (!dataLt (.tuple [.int q.1, rowD q.2]) (.tuple [.int p.1, rowD p.2])) = true ↔ _
  rw [dataLt_pair (by rfl) (row_alike _ _), dataLt_int, row_ltD]
  show (!(if (q.1 == p.1) = true then (if PyData.eqvAll (q.2.map .int) (p.2.map .int) = true then false else decide (q.2 < p.2)) else decide (q.1 < p.1))) = true ↔ _
  rw [row_eqv]
  by_cases h1 : q.1 = p.1
  · rw [if_pos (by simp [h1])]
    by_cases h2 : q.2 = p.2
    · rw [if_pos (by simp [h2]), h2]
      exact ⟨fun _ => .inr ⟨h1.symm, List.le_refl _⟩, fun _ => rfl⟩
    · rw [if_neg (by simp [h2])]
      rw [Bool.not_eq_true', decide_eq_false_iff_not]
      exact ⟨fun h => .inr ⟨h1.symm, List.not_lt.mp h⟩, fun h => by
        rcases h with h | ⟨_, h⟩
        · omega
        · exact List.not_lt.mpr h⟩
  · rw [if_neg (by simp [h1]), Bool.not_eq_true', decide_eq_false_iff_not]
    exact ⟨fun h => .inl (by omega), fun h => by
      rcases h with h | ⟨h, _⟩
      · omega
      · omega⟩
/-- the sorted pairs -/
def costsL (ps : List Int) (rows : List Row) : List (Int × Row) := (rows.map fun r => (cost ps r, r)).mergeSort (dataLe false costD)
theorem costsL_perm (ps : List Int) (rows : List Row) : (costsL ps rows).Perm (rows.map fun r => (cost ps r, r)) := List.mergeSort_perm _ _
theorem costsL_nil {ps : List Int} {rows : List Row} : costsL ps rows = [] ↔ rows = [] := by
  have h := (costsL_perm ps rows).length_eq
  rw [List.length_map] at h
  exact ⟨fun e => List.length_eq_zero_iff.mp (by rw [← h, e]; rfl), fun e => List.length_eq_zero_iff.mp (by rw [h, e]; rfl)⟩
theorem costsL_best {ps : List Int} {rows : List Row} {least : Int} (asc : rows.Pairwise (· < ·)) : (costsL ps rows).filter (fun c => decide (c.1 = least)) = (bestOf ps rows least).map fun r => (least, r) := by
  have e : (rows.map fun r => (cost ps r, r)).filter (fun c => decide (c.1 = least)) = (bestOf ps rows least).map fun r => (least, r) := by
    unfold bestOf
    rw [List.filter_map]
    refine List.map_congr_left fun r hr => ?_
    have := of_decide_eq_true (List.mem_filter.mp hr).2
    show (cost ps r, r) = (least, r)
    rw [← this]
  refine List.Perm.eq_of_pairwise (le := fun a b => dataLe false costD a b = true) (fun a b _ _ h k => ?_) ((sort_pairwise (sortLe_total _ _ _) _).filter _) (List.pairwise_map.mpr ((asc.filter _).imp fun h => ?_)) (((costsL_perm ps rows).filter _).trans (by rw [e]))
  · rw [cost_le] at h k
    rcases h with h | ⟨h1, h2⟩
    · rcases k with k | ⟨k1, k2⟩ <;> omega
    · rcases k with k | ⟨k1, k2⟩
      · omega
      · exact Prod.ext h1 (le_anti h2 k2)
  · rw [cost_le]
    exact .inr ⟨rfl, le_of_lt' h⟩
/-- the first of the sorted pairs: the least cost, the least row of it -/
theorem costsL_first {ps : List Int} {rows : List Row} {least : Int} (asc : rows.Pairwise (· < ·)) (hm : IsMin (rows.map (cost ps)) least) :
    ∃ r0 rest tl, costsL ps rows = (least, r0) :: tl ∧ bestOf ps rows least = r0 :: rest := by
  cases e : costsL ps rows with
  | nil =>
    have := costsL_nil.mp e
    subst this
    exact absurd hm.1 (by simp)
  | cons s0 tl =>
    have pw : (s0 :: tl).Pairwise (fun a b => dataLe false costD a b = true) := by
      rw [← e]
      exact sort_pairwise (sortLe_total _ _ _) _
    have mem : ∀ c, c ∈ s0 :: tl ↔ c ∈ rows.map fun r => (cost ps r, r) := fun c => by
      rw [← e]
      exact (costsL_perm ps rows).mem_iff
    obtain ⟨r1, hr1, e1⟩ := List.mem_map.mp hm.1
    have h1 : (least, r1) ∈ s0 :: tl := (mem _).mpr (List.mem_map.mpr ⟨r1, hr1, by rw [e1]⟩)
    obtain ⟨r0, hr0, e0⟩ := List.mem_map.mp ((mem s0).mp List.mem_cons_self)
    have lo : least ≤ s0.1 := by
      rw [← e0]
      exact hm.2 _ (List.mem_map.mpr ⟨r0, hr0, rfl⟩)
    have hi : s0.1 ≤ least := by
      rcases List.mem_cons.mp h1 with z | z
      · rw [← z]
        exact Int.le_refl _
      · have := (cost_le _ _).mp ((List.pairwise_cons.mp pw).1 _ z)
        rcases this with z | ⟨z, _⟩
        · exact Int.le_of_lt z
        · exact Int.le_of_eq z
    have es : s0.1 = least := Int.le_antisymm hi lo
    have f := costsL_best (ps := ps) (least := least) asc
    rw [e, List.filter_cons_of_pos (by simp [es])] at f
    cases eb : bestOf ps rows least with
    | nil =>
      rw [eb] at f
      cases f
    | cons b rest =>
      rw [eb, List.map_cons] at f
      injection f with f1 f2
      exact ⟨b, rest, tl, by rw [f1], rfl⟩

/-! ### how much a row can cost -/
theorem zip_bd : ∀ {ps : List Int} {row : Row}, (∀ p ∈ ps, -50 ≤ p ∧ p ≤ 50) → Bits row → -(50 * (row.length : Int)) ≤ cost ps row ∧ cost ps row ≤ 50 * (row.length : Int)
  | [], row, _, _ => by
    have e : cost [] row = 0 := rfl
    rw [e]
    omega
  | p :: ps, [], _, _ => by
    have e : cost (p :: ps) [] = 0 := rfl
    rw [e]
    simp
  | p :: ps, x :: row, hp, hb => by
    have ih := zip_bd (ps := ps) (row := row) (fun q hq => hp q (List.mem_cons_of_mem _ hq)) (fun y hy => hb y (List.mem_cons_of_mem _ hy))
    have e : cost (p :: ps) (x :: row) = p * x + cost ps row := by
      unfold cost
      rw [List.zip_cons_cons, List.map_cons, List.sum_cons]
    have b := hp p List.mem_cons_self
    rw [e, List.length_cons]
    rcases hb x List.mem_cons_self with z | z
    · rw [z]
      omega
    · rw [z]
      omega
theorem setZ_bd {ps : List Int} {p : Nat} (h : ∀ q ∈ ps, -50 ≤ q ∧ q ≤ 50) : ∀ q ∈ setZ ps p, -50 ≤ q ∧ q ≤ 50 := fun q hq => by
  unfold setZ at hq
  rcases List.mem_append.mp hq with z | z
  · exact h q (List.mem_of_mem_take z)
  · rcases List.mem_cons.mp z with z | z
    · omega
    · exact h q (List.mem_of_mem_drop z)
theorem withV_bd {ps : List Int} {m p : Nat} {rs : List Rule} {v : Int} (pg : PGood m ps) (m8 : m ≤ 8) : ∀ c ∈ withV ps (keptRows m rs) p v, -400 ≤ c ∧ c ≤ 400 := fun c hc => by
  obtain ⟨r, hr, e⟩ := List.mem_map.mp hc
  have hk := kept_mem (List.mem_filter.mp hr).1
  have b := zip_bd (ps := setZ ps p) (row := r) (setZ_bd fun q hq => ⟨pg.lo q hq, pg.hi q hq⟩) hk.2
  rw [← e]
  rw [hk.1] at b
  omega

/-! ### the greatest price -/
def pricesL : Nat → List Int
  | 0 => []
  | n + 1 => pricesL n ++ [-50 + (n : Int)]
theorem prices_last (B : Int) : ∀ n : Nat, (B < -50 → (pricesL n).filter (fun q => decide (q ≤ B)) = []) ∧ (-50 ≤ B → 0 < n → ∃ ys, (pricesL n).filter (fun q => decide (q ≤ B)) = ys ++ [if B ≤ -50 + (n : Int) - 1 then B else -50 + (n : Int) - 1])
  | 0 => ⟨fun _ => rfl, fun _ h => absurd h (Nat.lt_irrefl _)⟩
  | n + 1 => by
    obtain ⟨i1, i2⟩ := prices_last B n
    refine ⟨fun h => ?_, fun h _ => ?_⟩
    · show (pricesL n ++ [-50 + (n : Int)]).filter _ = []
      rw [List.filter_append, i1 h, List.filter_cons_of_neg (by simp; omega)]
      rfl
    · show ∃ ys, (pricesL n ++ [-50 + (n : Int)]).filter _ = _
      rw [List.filter_append]
      by_cases c : -50 + (n : Int) ≤ B
      · refine ⟨(pricesL n).filter (fun q => decide (q ≤ B)), ?_⟩
        rw [List.filter_cons_of_pos (by simpa using c)]
        have e : (if B ≤ -50 + ((n + 1 : Nat) : Int) - 1 then B else -50 + ((n + 1 : Nat) : Int) - 1) = -50 + (n : Int) := by
          by_cases z : B ≤ -50 + ((n + 1 : Nat) : Int) - 1
          · rw [if_pos z]; omega
          · rw [if_neg z]; omega
        rw [e]
        rfl
      · have n0 : 0 < n := by omega
        obtain ⟨ys, e⟩ := i2 h n0
        refine ⟨ys, ?_⟩
        rw [e, List.filter_cons_of_neg (by simpa using c), if_pos (by omega), if_pos (by omega)]
        exact List.append_nil _
theorem pricesL_eq (n : Nat) : pricesL n = (List.range n).map fun i : Nat => -50 + (i : Int) := by
  induction n with
  | zero => rfl
  | succ n ih => rw [List.range_succ, List.map_append, ← ih]; rfl
/-- what the law picks: the last of the prices up to a bound, None without -/
def lastP (xs : List Int) (v : L2.V) : Prop := (xs = [] ∧ v = .non) ∨ ∃ ys z, xs = ys ++ [z] ∧ v = .int z
theorem lastP_one {xs : List Int} {v u : L2.V} (h : lastP xs v) (k : lastP xs u) : v = u := by
  rcases h with ⟨h1, h2⟩ | ⟨ys, z, h1, h2⟩
  · rcases k with ⟨k1, k2⟩ | ⟨zs, y, k1, k2⟩
    · rw [h2, k2]
    · rw [h1] at k1; simp at k1
  · rcases k with ⟨k1, k2⟩ | ⟨zs, y, k1, k2⟩
    · rw [h1] at k1; simp at k1
    · rw [h1] at k1
      have := List.append_inj_right' k1 rfl
      rw [h2, k2]
      injection this with this
      rw [this]
theorem isMin_one {ns : List Int} {a b : Int} (h : IsMin ns a) (k : IsMin ns b) : a = b := Int.le_antisymm (h.2 b k.1) (k.2 a h.1)
/-- the law's own list of prices -/
def someL (ones others : List Int) (mn mo : Int) : List Int := (pricesL 101).filter fun q => decide (ones ≠ []) && decide (mn + q ≤ mo)
theorem some_dear {ones others : List Int} {v : L2.V} (b1 : ∀ c ∈ ones, -400 ≤ c ∧ c ≤ 400) (b0 : ∀ c ∈ others, -400 ≤ c ∧ c ≤ 400) (h : DearV ones others v) {mn mo : Int} (h1 : ones ≠ [] → IsMin ones mn) (h0 : ones ≠ [] → IsMin (others ++ [1000000]) mo) : lastP (someL ones others mn mo) v := by
  unfold someL
  rcases h with ⟨e, rfl⟩ | ⟨m1, hm1, e, rfl⟩ | ⟨m1, m0, hm1, hm0, rfl⟩
  · refine .inl ⟨?_, rfl⟩
    rw [e]
    exact List.filter_eq_nil_iff.mpr fun _ _ => by simp
  · have ne : ones ≠ [] := List.ne_nil_of_mem hm1.1
    have e1 : m1 = mn := isMin_one hm1 (h1 ne)
    have e0 : mo = 1000000 := by
      have z := h0 ne
      rw [e] at z
      exact isMin_one z ⟨by simp, fun y hy => by simp at hy; omega⟩
    have bd := b1 m1 hm1.1
    obtain ⟨ys, hy⟩ := (prices_last (mo - mn) 101).2 (by omega) (by decide)
    refine .inr ⟨ys, 50, ?_, rfl⟩
    have ef : (fun q : Int => decide (ones ≠ []) && decide (mn + q ≤ mo)) = fun q => decide (q ≤ mo - mn) := funext fun q => by
      rw [decide_eq_true ne, Bool.true_and]
      exact decide_eq_decide.mpr (by omega)
    rw [ef, hy, if_neg (by omega)]
    rfl
  · have ne : ones ≠ [] := List.ne_nil_of_mem hm1.1
    have e1 : m1 = mn := isMin_one hm1 (h1 ne)
    have bd := b1 m1 hm1.1
    have bd0 := b0 m0 hm0.1
    have e0 : mo = m0 := isMin_one (h0 ne) ⟨List.mem_append_left _ hm0.1, fun y hy => by
      rcases List.mem_append.mp hy with z | z
      · exact hm0.2 y z
      · rw [List.mem_singleton.mp z]; omega⟩
    have ef : (fun q : Int => decide (ones ≠ []) && decide (mn + q ≤ mo)) = fun q => decide (q ≤ mo - mn) := funext fun q => by
      rw [decide_eq_true ne, Bool.true_and]
      exact decide_eq_decide.mpr (by omega)
    rw [ef, e0, e1]
    by_cases c : -50 ≤ m0 - mn
    · rw [if_pos c]
      obtain ⟨ys, hy⟩ := (prices_last (m0 - mn) 101).2 (by omega) (by decide)
      refine .inr ⟨ys, _, hy, ?_⟩
      by_cases d : 50 < m0 - mn
      · rw [if_pos d, if_neg (by omega)]
        rfl
      · rw [if_neg d, if_pos (by omega)]
    · rw [if_neg c]
      exact .inl ⟨(prices_last (m0 - mn) 101).1 (by omega), rfl⟩
end Mr

/-! Mr.D10: _law_all_rules, _law_rows. -/
namespace Mr
open PySem PySem.Spec PyProof.Rows L2
def wantsL : Nat → List Want
  | 0 => []
  | m + 1 => wantsL m ++ [((m : Int), 0), ((m : Int), 1)]
theorem wantsL_len : ∀ m, (wantsL m).length = 2 * m
  | 0 => rfl
  | m + 1 => by
    show (wantsL m ++ _).length = _
    rw [List.length_append, wantsL_len m]
    show 2 * m + 2 = _
    omega
def rulesOf (ws : List Want) (i : Nat) : List Rule :=
  ((ws.drop i).filter fun o => decide (o.1 ≠ (ws.getD i (0, 0)).1) || decide (o = ws.getD i (0, 0))).map fun o => (ws.getD i (0, 0), o)
theorem rulesOf_len (ws : List Want) (i : Nat) : (rulesOf ws i).length ≤ ws.length := by
  unfold rulesOf
  rw [List.length_map]
  refine Nat.le_trans (List.length_filter_le _ _) ?_
  rw [List.length_drop]
  omega
def foundL (ws : List Want) : Nat → List Rule
  | 0 => []
  | i + 1 => foundL ws i ++ rulesOf ws i
theorem foundL_len (ws : List Want) : ∀ i, (foundL ws i).length ≤ i * ws.length
  | 0 => Nat.zero_le _
  | i + 1 => by
    have := foundL_len ws i
    have := rulesOf_len ws i
    show (foundL ws i ++ rulesOf ws i).length ≤ _
    rw [List.length_append, Nat.add_mul]
    omega
def allRulesL (m : Nat) : List Rule := foundL (wantsL m) (wantsL m).length
section
variable {P : Program} {w : World} {K : PySem.W.Frag} {mg : Str → Option Value} {base : Heap}
def spLAllRules : Sp := fun vs H Q _ => ∃ m : Nat, vs = [.int (m : Int)] ∧ m ≤ 8 ∧ ∀ H' l, Same H H' → H l = none → Ls H' l ((allRulesL m).map ruleD) → Q (.ref l) H'
theorem ok_law_all_rules (T : Prog K mg) : FnOk P w K mg base CX0 1 T.dLAllRules.f T.dLAllRules.fd ["_law_many"] spLAllRules := by
  refine T.dLAllRules.F.ok scLAllRules (fun vs H Q E h => ?_) (fun cdv A outer s H vs Q E hr h => ?_)
  · obtain ⟨_, rfl, _⟩ := h
    rfl
  · obtain ⟨m, rfl, hm, q⟩ := h
    refine ⟨_, pss_cons (ps_asg (pe_tup (pa_cons (pe_lst pa_nil) (pa_cons (pe_lst pa_nil) pa_nil))) (pg_tup rfl (pgs_cons (pg_name (i := 1) scLAllRules.nd rfl (.inr rfl)) (pgs_cons (pg_name (i := 2) scLAllRules.nd rfl (.inl rfl)) pgs_nil))))
      (pss_cons (ps_for PassesOwn.never rfl (pi_range1 rfl T.z_range (pa_cons (pv 0) pa_nil)) (pg_name (i := 3) scLAllRules.nd rfl (.inl rfl))
        (pss_one (ps_set (i := 1) scLAllRules.nd rfl (.inr rfl) (pe_op op_cat (pv 1) (pe_lst (pa_cons (pe_tup (pa_cons (pv 3) (pa_cons pe_int pa_nil))) (pa_cons (pe_tup (pa_cons (pv 3) (pa_cons pe_int pa_nil))) pa_nil)))))))
      (pss_cons (ps_for PassesOwn.never rfl (pi_range1 rfl T.z_range (pa_cons (pe_callB call_len_seq (by rfl) T.z_len PySem.boot_len (pa_cons (pv 1) pa_nil)) pa_nil)) (pg_name (i := 4) scLAllRules.nd rfl (.inr rfl))
        (pss_one (ps_set (i := 2) scLAllRules.nd rfl (.inl rfl) (pe_op op_cat (pv 2) (pe_lc (own := [("_law_other", 5)]) (g := gName 5)
          (tt := tOr (tTest (tOp rNe (tOp (rIxT K) (tVar 5) (tC (.int 0))) (tOp (rIxT K) (tOp (rIxL K) (tVar 1) (tVar 4)) (tC (.int 0))))) (tTest (tOp (rEqD K) (tVar 5) (tOp (rIxL K) (tVar 1) (tVar 4)))))
          (te := tTup (tCons (tOp (rIxL K) (tVar 1) (tVar 4)) (tCons (tVar 5) tNil))) rfl scLAllRules.nd (pi_list (pe_slice sl_list (pv 1) (po_some (pv 4)) po_none)) (blkOk_by (N := nLAllRules) (sc := defScope sLAllRules) (by decide +kernel))
          (fun _ _ _ _ _ => pg_name (i := 5) scLAllRules.nd rfl (Or.inl rfl))
          (fun _ _ _ _ _ => pts_one (PW.pt (pw_or (pt_cmpR op_ne (pe_ix ix_tup (pv 5) pe_int (fun _ _ => rfl)) (pe_ix ix_tup (pe_ix ix_list (pv 1) (pv 4) (fun _ _ => rfl)) pe_int (fun _ _ => rfl)) (nomark _)) (pw_or1 (pt_cmpR (op_eqD hr.units) (pv 5) (pe_ix ix_list (pv 1) (pv 4) (fun _ _ => rfl)) (nomark _))))))
          (fun _ _ _ _ _ => pe_tup (pa_cons (pe_ix ix_list (pv 1) (pv 4) (fun _ _ => rfl)) (pa_cons (pv 5) pa_nil))))))))
      (pss_one (ps_ret (pv 2))))), ?_⟩
    refine ⟨Nat.zero_le _, fun l1 n1 => ⟨Nat.zero_le _, fun l2 n2 => ⟨by show 2 ≤ sizeLine; decide, fun t nt => ?_⟩⟩⟩
    have s1 : Same H (upd H l1 (.lst [])) := same_new n1
    have s2 := s1.trans (same_new (o := .lst []) n2)
    have s3 := s2.trans (same_new (o := .tup [.ref l1, .ref l2]) nt)
    have k1 : (upd (upd (upd H l1 (.lst [])) l2 (.lst [])) t (.tup [.ref l1, .ref l2])) l1 = some (.lst []) := (same_new nt) _ _ ((same_new n2) _ _ upd_same)
    have k2 : (upd (upd (upd H l1 (.lst [])) l2 (.lst [])) t (.tup [.ref l1, .ref l2])) l2 = some (.lst []) := (same_new nt) _ _ upd_same
    refine ⟨t, _, rfl, SqT.of upd_same, rfl, _, _, rfl, _, _, rfl, rfl, ?_⟩
    refine ⟨_, rfl, (m : Int), rfl, by omega, by omega, for_range (lo := 0) (n := (m : Int).toNat) (fun i σ H' => ∃ l v, σ = [some (.int (m : Int)), some (.ref l), some (.ref l2), v, none, none] ∧ Same H H' ∧ H l = none ∧ Ls H' l ((wantsL i).map wantD) ∧ H' l2 = some (.lst [])) ⟨l1, none, rfl, s3, n1, ⟨[], k1, .nil⟩, k2⟩ (fun i σ H1 hi hP => ?_) (fun σ H1 hP => ?_)⟩
    · obtain ⟨l, v, rfl, sm, hl, ⟨xs, hx, dx⟩, h2⟩ := hP
      have him : i < 8 := by omega
      have xlen : xs.length = 2 * i := by rw [dx.length, List.length_map, wantsL_len]
      refine ⟨_, rfl, _, rfl, by show 2 ≤ sizeLine; decide, fun a na => ⟨_, rfl, by show 2 ≤ sizeLine; decide, fun b nb => ⟨by show 2 ≤ sizeLine; decide, fun c nc => ?_⟩⟩⟩
      have e0 : (0 : Int) + (i : Nat) = (i : Int) := by omega
      rw [e0] at nb nc ⊢
      have t1 := same_new (o := .tup [.int (i : Int), .int 0]) na
      have t2 := same_new (o := .tup [.int (i : Int), .int 1]) nb
      have t3 := same_new (o := .lst [.ref a, .ref b]) nc
      refine ⟨l, c, xs, _, rfl, rfl, t3 _ _ (t2 _ _ (t1 _ _ hx)), upd_same, small1000 (by rw [xlen]; show 2 * i + 2 ≤ 1000; omega) |> Nat.le_of_lt, fun p np => ?_⟩
      have t4 := same_new (o := .lst (xs ++ [.ref a, .ref b])) np
      have tt := ((t1.trans t2).trans t3).trans t4
      refine ⟨p, _, rfl, sm.trans tt, (((sm.trans t1).trans t2).trans t3).free np, ⟨_, upd_same, ?_⟩, tt _ _ h2⟩
      show Da _ (xs ++ [.ref a, .ref b]) ((wantsL i ++ [((i : Int), 0), ((i : Int), 1)]).map wantD)
      rw [List.map_append]
      exact (dx.k (kt_same tt)).app (.cons (Dt.want (w := ((i : Int), 0)) (t4 _ _ (t3 _ _ (t2 _ _ upd_same)))) (.cons (Dt.want (w := ((i : Int), 1)) (t4 _ _ (t3 _ _ upd_same))) .nil))
    · obtain ⟨l, v, rfl, sm, hl, ⟨xs, hx, dx⟩, h2⟩ := hP
      rw [Int.toNat_natCast] at dx
      have xlen : xs.length = (wantsL m).length := by rw [dx.length, List.length_map]
      have x16 : (wantsL m).length ≤ 16 := by rw [wantsL_len]; omega
      refine ⟨_, rfl, l, xs, rfl, .inl (SqL.of hx), (xs.length : Int), rfl, by omega, by omega, for_range (lo := 0) (n := ((xs.length : Nat) : Int).toNat) (fun i σ H' => ∃ f v', σ = [some (.int (m : Int)), some (.ref l), some (.ref f), v, v', none] ∧ Same H H' ∧ H f = none ∧ H' l = some (.lst xs) ∧ Da H' xs ((wantsL m).map wantD) ∧ Ls H' f ((foundL (wantsL m) i).map ruleD)) ⟨l2, none, rfl, sm, s1.free n2, hx, dx, ⟨[], h2, .nil⟩⟩ (fun i σ H2 hi hP => ?_) (fun σ H2 hP => ?_)⟩
      · obtain ⟨f, v', rfl, sm2, hf, hx2, dx2, ⟨ys, hy, dy⟩⟩ := hP
        have e0 : (0 : Int) + (i : Nat) = (i : Int) := by omega
        rw [e0]
        have hix : i < xs.length := by omega
        have hiw : (wantsL m)[i]? = some ((wantsL m).getD i (0, 0)) := by
          rw [List.getD_eq_getElem?_getD, List.getElem?_eq_getElem (by omega)]
          rfl
        obtain ⟨xi, hxi, dxi⟩ := dx2.get (i := i) (d := wantD ((wantsL m).getD i (0, 0))) (by rw [List.getElem?_map, hiw]; rfl)
        refine ⟨_, rfl, _, rfl, _, rfl, _, rfl, l, xs, rfl, SqL.of hx2, fun c nc => ?_⟩
        rw [cut_drop xs i (by omega)]
        have t1 := same_new (o := .lst (xs.drop i)) nc
        have ddx := (dx2.k (kt_same t1)).drop i
        have dlen : (xs.drop i).length = ((wantsL m).drop i).length := by rw [List.length_drop, List.length_drop, xlen]
        refine ⟨c, rfl, ⟨_, SqL.of upd_same⟩, fun D hD => lc_dt (walk_list (K := K) (xs := xs.drop i)) ((wantsL m).drop i) (fun o => decide (o.1 ≠ ((wantsL m).getD i (0, 0)).1) || decide (o = (wantsL m).getD i (0, 0))) (fun o => ruleD ((wantsL m).getD i (0, 0), o)) dlen (small1000 (by rw [List.length_drop]; omega)) hD (fun H' sm => SqL.of (sm _ _ upd_same)) (fun j o x H3 H3' Yes No hu sm3 yy yes no => ?_) (fun H3 zs sm3 hz dz => ?_)⟩
        · obtain ⟨rfl, hj⟩ := yy
          obtain ⟨d, hd, hdt⟩ := ddx.got hj
          rw [← List.map_drop, List.getElem?_map, hu] at hd
          cases hd
          have t13 := t1.trans sm3
          have hdt' := hdt.k (kt_same sm3)
          have dxi' := dxi.k (kt_same t13)
          obtain ⟨bx, rfl, hb⟩ := hdt'.of_want
          obtain ⟨bi, rfl, hbi⟩ := dxi'.of_want
          have fin : ∀ H4, Same H3' H4 → ((decide (o.1 ≠ ((wantsL m).getD i (0, 0)).1) || decide (o = (wantsL m).getD i (0, 0))) = true) → tTup (tCons (tOp (rIxL K) (tVar 1) (tVar 4)) (tCons (tVar 5) tNil)) [some (.int (m : Int)), some (.ref l), some (.ref f), v, some (.int (i : Int)), some (.ref bx)] H4 Yes := fun H4 s4 p => by
            refine ⟨_, rfl, _, rfl, l, xs, _, _, rfl, rfl, SqL.of (s4 _ _ (t13 _ _ hx2)), atI_nat hxi, _, rfl, by show 2 ≤ sizeLine; decide, fun r nr => ?_⟩
            have t5 := same_new (o := .tup [.ref bi, .ref bx]) nr
            exact yes p _ _ (s4.trans t5) (.rule upd_same ((s4.trans t5) _ _ hbi) ((s4.trans t5) _ _ hb))
          refine ⟨rfl, _, rfl, bx, _, 0, _, rfl, rfl, SqT.of hb, atI_nat (j := 0) rfl, _, rfl, _, rfl, l, xs, _, _, rfl, rfl, SqL.of (t13 _ _ hx2), atI_nat hxi, bi, _, 0, _, rfl, rfl, SqT.of hbi, atI_nat (j := 0) rfl, rfl, _, rfl, ite2 (fun hk => ?_) (fun hk => ?_)⟩
          · have hk2 : o.1 ≠ ((wantsL m).getD i (0, 0)).1 := fun z => by
              rw [z] at hk
              simp at hk
            refine iteT (fin _ (Same.refl _) ?_)
            rw [decide_eq_true hk2]
            rfl
          · have hk2 : o.1 = ((wantsL m).getD i (0, 0)).1 := Classical.byContradiction fun z => hk (by rw [decide_eq_false (fun e => z (V.int.inj e))]; rfl)
            refine ⟨_, rfl, _, rfl, _, rfl, l, xs, _, _, rfl, rfl, SqL.of (t13 _ _ hx2), atI_nat hxi, wantD o, wantD ((wantsL m).getD i (0, 0)), hdt'.dp, dxi'.dp, shaped_want _, shaped_want _, _, rfl, ?_⟩
            rw [want_eqv]
            refine ite2 (fun he => fin _ (Same.refl _) ?_) (fun he => no ?_ _ (Same.refl _))
            · rw [he, Bool.or_true]
            · rw [decide_eq_false (fun z => z hk2), Bool.false_or]
              exact Bool.eq_false_iff.mpr he
        · have t13 := t1.trans sm3
          have fl := foundL_len (wantsL m) i
          have rl := rulesOf_len (wantsL m) i
          have i16 : i * (wantsL m).length ≤ 16 * 16 := Nat.mul_le_mul (by omega) x16
          have zlen : zs.length = (rulesOf (wantsL m) i).length := by
            rw [dz.length]
            unfold rulesOf
            rw [List.length_map, List.length_map]
          refine ⟨f, D, ys, zs, rfl, rfl, t13 _ _ hy, hz, Nat.le_of_lt (small1000 ?_), fun p np => ?_⟩
          · rw [dy.length, List.length_map, zlen]
            omega
          · have t4 := same_new (o := .lst (ys ++ zs)) np
            have tt := t13.trans t4
            refine ⟨p, _, rfl, sm2.trans tt, (sm2.trans t13).free np, tt _ _ hx2, dx2.k (kt_same tt), ⟨_, upd_same, ?_⟩⟩
            show Da _ (ys ++ zs) ((foundL (wantsL m) i ++ rulesOf (wantsL m) i).map ruleD)
            rw [List.map_append]
            refine (dy.k (kt_same tt)).app ?_
            unfold rulesOf
            rw [List.map_map]
            exact dz.k (kt_same t4)
      · obtain ⟨f, v', rfl, sm2, hf, hx2, dx2, hL⟩ := hP
        rw [Int.toNat_natCast, xlen] at hL
        exact ⟨_, rfl, q _ f sm2 hf hL⟩
end
end Mr

/-! Mr.D11: _law_rows, _law_keeps, _law_kept. -/
namespace Mr
open PySem PySem.Spec PyProof.Rows L2
theorem lawRowsL_len (m : Nat) : (lawRowsL m).length = 2 ^ m := by rw [(lawRows_perm m).length_eq, allRows_len]
theorem lawRowsL_mem {m : Nat} {r : Row} (h : r ∈ lawRowsL m) : r.length = m ∧ Bits r := allRows_mem ((lawRows_perm m).mem_iff.mp h)
theorem depth_ints (ns : List Int) : (PyData.tuple (ns.map .int)).depth = 1 := by
  rw [PyData.depth, (shaped_ints ns).2]
section
variable {P : Program} {w : World} {K : PySem.W.Frag} {mg : Str → Option Value} {base : Heap}
def spLRows : Sp := fun vs H Q _ => ∃ m : Nat, vs = [.int (m : Int)] ∧ 1 ≤ m ∧ m ≤ 8 ∧ ∀ H' l, Same H H' → H l = none → Ls H' l ((allRows m).map rowD) → Q (.ref l) H'
theorem ok_law_rows (T : Prog K mg) : FnOk P w K mg base CX0 1 T.dLRows.f T.dLRows.fd ["_law_many"] spLRows := by
  refine T.dLRows.F.ok scLRows (fun vs H Q E h => ?_) (fun cdv A outer s H vs Q E hr h => ?_)
  · obtain ⟨_, rfl, _⟩ := h
    rfl
  · obtain ⟨m, rfl, m1, hm, q⟩ := h
    refine ⟨_, pss_cons (ps_set (i := 1) scLRows.nd rfl (.inl rfl) (pe_lst (pa_cons (pe_tup pa_nil) pa_nil)))
      (pss_cons (ps_for PassesOwn.never rfl (pi_range1 rfl T.z_range (pa_cons (pv 0) pa_nil)) (pg_name (i := 2) scLRows.nd rfl (.inl rfl))
        (pss_one (ps_set (i := 1) scLRows.nd rfl (.inl rfl) (pe_op op_cat
          (pe_lc (own := [("_law_row", 3)]) (g := gName 3) (tt := tYes) (te := tOp rCatC (tVar 3) (tTup (tCons (tC (.int 0)) tNil))) rfl scLRows.nd (pi_list (pv 1)) (blkOk_by (N := nLRows) (sc := defScope sLRows) (by decide +kernel))
            (fun _ _ _ _ _ => pg_name (i := 3) scLRows.nd rfl (Or.inl rfl)) (fun _ _ _ _ _ => pts_nil) (fun _ _ _ _ _ => pe_op op_catC (pv 3) (pe_tup (pa_cons pe_int pa_nil))))
          (pe_lc (own := [("_law_row", 3)]) (g := gName 3) (tt := tYes) (te := tOp rCatC (tVar 3) (tTup (tCons (tC (.int 1)) tNil))) rfl scLRows.nd (pi_list (pv 1)) (blkOk_by (N := nLRows) (sc := defScope sLRows) (by decide +kernel))
            (fun _ _ _ _ _ => pg_name (i := 3) scLRows.nd rfl (Or.inl rfl)) (fun _ _ _ _ _ => pts_nil) (fun _ _ _ _ _ => pe_op op_catC (pv 3) (pe_tup (pa_cons pe_int pa_nil))))))))
      (pss_one (ps_ret (pe_callB (cr_sortDt (enc := rowD) hr.units) (by rfl) T.z_sorted (by decide +kernel) (pa_cons (pv 1) pa_nil))))), ?_⟩
    refine ⟨Nat.zero_le _, fun e ne => ⟨by show 1 ≤ sizeLine; decide, fun l0 nl => ?_⟩⟩
    have s1 : Same H (upd H e (.tup [])) := same_new ne
    have s2 : Same H (upd (upd H e (.tup [])) l0 (.lst [.ref e])) := s1.trans (same_new nl)
    have d0 : Ls (upd (upd H e (.tup [])) l0 (.lst [.ref e])) l0 ((lawRowsL 0).map rowD) := ⟨_, upd_same, .cons (Dt.row (r := []) ((same_new nl) e _ upd_same)) .nil⟩
    refine ⟨_, rfl, (m : Int), rfl, by omega, by omega, for_range (lo := 0) (n := (m : Int).toNat) (fun i σ H' => ∃ l v, σ = [some (.int (m : Int)), some (.ref l), v, none] ∧ Same H H' ∧ Ls H' l ((lawRowsL i).map rowD)) ⟨l0, none, rfl, s2, d0⟩ (fun i σ H1 hi hP => ?_) (fun σ H1 hP => ?_)⟩
    · obtain ⟨l, v, rfl, sm, ⟨xs, hxl, hxd⟩⟩ := hP
      have him : i < 8 := by omega
      have hlen : xs.length = (lawRowsL i).length := by rw [hxd.length, List.length_map]
      have l256 : (lawRowsL i).length ≤ 256 := by
        rw [lawRowsL_len]
        exact Nat.pow_le_pow_right (n := 2) (by decide) (show i ≤ 8 by omega)
      have turn : ∀ (c : Int) (i' : Nat) (r : Row) (x : V) (H2 : Hp) (Yes : V → Hp → Prop), (lawRowsL i)[i']? = some r → Same H1 H2 → xs[i']? = some x →
          (∀ y H4, Same H2 H4 → Dt H4 y (rowD (r ++ [c])) → Yes y H4) → ∃ u, x = u ∧ (1 ≤ sizeLine ∧ ∀ t, H2 t = none → rCatC u (.ref t) (upd H2 t (.tup [.int c])) Yes) := fun c i' r x H2 Yes hu sm2 hx yes => by
        obtain ⟨d, hd, hdt⟩ := hxd.got hx
        rw [List.getElem?_map, hu] at hd
        cases hd
        obtain ⟨b, rfl, hb⟩ := (hdt.k (kt_same sm2)).of_row
        refine ⟨_, rfl, by decide, fun t nt => ⟨b, t, _, _, rfl, rfl, (same_new nt) _ _ hb, upd_same, ?_, fun p H4 s4 hp => yes _ _ ((same_new nt).trans s4) (Dt.row (r := r ++ [c]) ?_)⟩⟩
        · have := (lawRowsL_mem (List.mem_of_getElem? hu)).1
          rw [List.length_map, this]
          exact Nat.le_of_lt (small1000 (by show i + 1 ≤ 1000; omega))
        · rw [hp, List.map_append]
          rfl
      refine ⟨_, rfl, l, rfl, ⟨_, SqL.of hxl⟩, fun D hD => lc_dt (walk_list (K := K) (xs := xs)) (lawRowsL i) (fun _ => true) (fun r => rowD (r ++ [0])) hlen (small1000 (by omega)) hD (fun H' sm => SqL.of (sm _ _ hxl)) (fun j r x H2 H2' Yes No hu sm2 yy yes no => ?_) (fun H2 ys sm2 hys dys => ?_)⟩
      · obtain ⟨rfl, hx⟩ := yy
        obtain ⟨u, rfl, t1, t2⟩ := turn 0 j r x H2' Yes hu sm2 hx (yes rfl)
        exact ⟨rfl, _, rfl, t1, t2⟩
      · rw [List.filter_eq_self.mpr (fun _ _ => rfl)] at dys
        refine ⟨_, rfl, l, rfl, ⟨_, SqL.of (sm2 _ _ hxl)⟩, fun D2 hD2 => lc_dt (walk_list (K := K) (xs := xs)) (lawRowsL i) (fun _ => true) (fun r => rowD (r ++ [1])) hlen (small1000 (by omega)) hD2 (fun H' sm => SqL.of (sm _ _ (sm2 _ _ hxl))) (fun j r x H3 H3' Yes No hu sm3 yy yes no => ?_) (fun H3 zs sm3 hzs dzs => ?_)⟩
        · obtain ⟨rfl, hx⟩ := yy
          obtain ⟨u, rfl, t1, t2⟩ := turn 1 j r x H3' Yes hu (sm2.trans sm3) hx (yes rfl)
          exact ⟨rfl, _, rfl, t1, t2⟩
        · rw [List.filter_eq_self.mpr (fun _ _ => rfl)] at dzs
          refine ⟨D, D2, ys, zs, rfl, rfl, sm3 _ _ hys, hzs, Nat.le_of_lt (small1000 ?_), fun p np => ?_⟩
          · rw [dys.length, dzs.length, List.length_map, List.length_map]
            omega
          · have t4 := same_new (o := .lst (ys ++ zs)) np
            refine ⟨p, _, rfl, ((sm.trans sm2).trans sm3).trans t4, _, upd_same, ?_⟩
            show Da _ (ys ++ zs) (((lawRowsL i).map (· ++ [0]) ++ (lawRowsL i).map (· ++ [1])).map rowD)
            rw [List.map_append, List.map_map, List.map_map]
            exact (dys.k (kt_same (sm3.trans t4))).app (dzs.k (kt_same t4))
    · obtain ⟨l, v, rfl, sm, hL⟩ := hP
      rw [Int.toNat_natCast] at hL
      refine ⟨_, rfl, l, lawRowsL m, rfl, hL, .of row_alike, .inl fun d hd => ?_, fun b _ => ?_, fun xs p hxs np => ?_⟩
      · obtain ⟨r, hr, rfl⟩ := List.mem_map.mp hd
        have := (lawRowsL_mem hr).1
        cases r with
        | nil => simp at this; omega
        | cons x r => exact ⟨.int x, r.map .int, rfl⟩
      · show (PyData.tuple (b.map .int)).depth ≤ 8
        rw [depth_ints]
        decide
      · rw [rows_sorted] at hxs
        exact q _ p (sm.trans (same_new np)) (sm.free np) ⟨xs, upd_same, hxs.k (kt_new np)⟩

def spLKeeps : Sp := fun vs H Q _ => ∃ (a : Addr) (y : V) (rs : List Rule) (row : Row), vs = [.ref a, y] ∧ (Tp H a (rs.map ruleD) ∨ Ls H a (rs.map ruleD)) ∧ Dt H y (rowD row) ∧ (∀ r ∈ rs, RIn row.length r) ∧ Q (.bl (keepAll rs row)) H
theorem ok_law_keeps (T : Prog K mg) : FnOk P w K mg base CX0 1 T.dLKeeps.f T.dLKeeps.fd ["_law_rules", "_law_row"] spLKeeps := by
  refine T.dLKeeps.F.ok scLKeeps (fun vs H Q E h => ?_) (fun cdv A outer s H vs Q E hr h => ?_)
  · obtain ⟨_, _, _, _, rfl, _⟩ := h
    rfl
  · obtain ⟨a, y, rs, row, rfl, hor, hy, hin, q⟩ := h
    obtain ⟨b, rfl, hb⟩ := hy.of_row
    have turn : ∀ (xs : List V), Da H xs (rs.map ruleD) → ∀ (i : Nat) (x : V), xs[i]? = some x → (∀ r ∈ rs.take i, keepR r row = true) →
        ∃ c d1 d2 r, x = .ref c ∧ H c = some (.tup [.ref d1, .ref d2]) ∧ H d1 = some (.tup [.int r.1.1, .int r.1.2]) ∧ H d2 = some (.tup [.int r.2.1, .int r.2.2]) ∧ RIn row.length r ∧ (keepR r row = true → ∀ r' ∈ rs.take (i + 1), keepR r' row = true) ∧ (keepR r row = false → keepAll rs row = false) := fun xs dx i x hx hk => by
      obtain ⟨d, hd, hdt⟩ := dx.got hx
      have hi : i < rs.length := by
        have z := (List.getElem?_eq_some_iff.mp hd).1
        rw [List.length_map] at z
        exact z
      have hri : rs[i]? = some rs[i] := List.getElem?_eq_getElem hi
      rw [List.getElem?_map, hri] at hd
      cases hd
      obtain ⟨c, d1, d2, rfl, h1, h2, h3⟩ := hdt.of_rule
      refine ⟨c, d1, d2, rs[i], rfl, h1, h2, h3, hin _ (List.getElem_mem hi), fun z r' hr' => ?_, fun z => ?_⟩
      · rw [List.take_succ, hri] at hr'
        rcases List.mem_append.mp hr' with u | u
        · exact hk r' u
        · rw [List.mem_singleton.mp u]
          exact z
      · exact List.all_eq_false.mpr ⟨rs[i], List.getElem_mem hi, by rw [z]; exact Bool.false_ne_true⟩
    have body : ∀ (D : Ends) (N : L2.St → Hp → Prop) (c d1 d2 : Addr) (r : Rule), H d1 = some (.tup [.int r.1.1, .int r.1.2]) → H d2 = some (.tup [.int r.2.1, .int r.2.2]) → RIn row.length r →
        (keepR r row = true → N [some (.ref a), some (.ref b), some (.ref d1), some (.ref d2)] H) → (keepR r row = false → D.rt (.bl false) H) → D.nx = N →
        tAnd (tTest (tOp rNe (tOp (rIxT K) (tVar 1) (tOp (rIxT K) (tVar 2) (tC (.int 0)))) (tOp (rIxT K) (tVar 2) (tC (.int 1))))) (tTest (tOp rNe (tOp (rIxT K) (tVar 1) (tOp (rIxT K) (tVar 3) (tC (.int 0)))) (tOp (rIxT K) (tVar 3) (tC (.int 1))))) [some (.ref a), some (.ref b), some (.ref d1), some (.ref d2)] H (fun k H' => if k = true then D.rt (.bl false) H' else D.nx [some (.ref a), some (.ref b), some (.ref d1), some (.ref d2)] H') := fun D N c d1 d2 r h1 h2 hin n0 n1 eN => by
      refine ⟨_, rfl, _, rfl, d1, _, 0, _, rfl, rfl, SqT.of h1, atI_nat (j := 0) rfl, b, _, _, _, rfl, rfl, SqT.of hb, at0_get hin.1.1 hin.1.2.1, _, rfl, d1, _, 1, _, rfl, rfl, SqT.of h1, atI_nat (j := 1) rfl, rfl, _, rfl, ite2 (fun hk => ?_) (fun hk => ?_)⟩
      · refine ⟨_, rfl, _, rfl, d2, _, 0, _, rfl, rfl, SqT.of h2, atI_nat (j := 0) rfl, b, _, _, _, rfl, rfl, SqT.of hb, at0_get hin.2.1 hin.2.2.1, _, rfl, d2, _, 1, _, rfl, rfl, SqT.of h2, atI_nat (j := 1) rfl, rfl, _, rfl, ite2 (fun hj => ?_) (fun hj => ?_)⟩
        · refine n1 ?_
          unfold keepR hasW
          have e1 : ¬ at0 row r.1.1 = r.1.2 := fun z => by rw [z] at hk; simp at hk
          have e2 : ¬ at0 row r.2.1 = r.2.2 := fun z => by rw [z] at hj; simp at hj
          rw [decide_eq_false e1, decide_eq_false e2]
          rfl
        · rw [eN]
          refine n0 ?_
          have e2 : at0 row r.2.1 = r.2.2 := Classical.byContradiction fun z => hj (by rw [decide_eq_false (fun e => z (V.int.inj e))]; rfl)
          unfold keepR hasW
          rw [decide_eq_true e2, Bool.or_true]
      · refine iteF ?_
        rw [eN]
        refine n0 ?_
        have e1 : at0 row r.1.1 = r.1.2 := Classical.byContradiction fun z => hk (by rw [decide_eq_false (fun e => z (V.int.inj e))]; rfl)
        unfold keepR hasW
        rw [decide_eq_true e1, Bool.true_or]
    rcases hor with ⟨xs, ha, dx⟩ | ⟨xs, ha, dx⟩
    · refine ⟨_, pss_cons (ps_for PassesOwn.never rfl (pi_tup (pv 0)) (pg_tup rfl (pgs_cons (pg_name (i := 2) scLKeeps.nd rfl (.inl rfl)) (pgs_cons (pg_name (i := 3) scLKeeps.nd rfl (.inl rfl)) pgs_nil)))
          (pss_one (ps_if (PW.pt (pw_and (pt_cmpR op_ne (pe_ix ix_tup (pv 1) (pe_ix ix_tup (pv 2) pe_int (fun _ _ => rfl)) (fun _ _ => rfl)) (pe_ix ix_tup (pv 2) pe_int (fun _ _ => rfl)) (nomark _)) (pw_and1 (pt_cmpR op_ne (pe_ix ix_tup (pv 1) (pe_ix ix_tup (pv 3) pe_int (fun _ _ => rfl)) (fun _ _ => rfl)) (pe_ix ix_tup (pv 3) pe_int (fun _ _ => rfl)) (nomark _))))) (pss_one (ps_ret pe_bl)) pss_nil)))
        (pss_one (ps_ret pe_bl)), ?_⟩
      refine ⟨_, rfl, a, rfl, ⟨_, SqT.of ha⟩, for_it (walk_tup (K := K) (xs := xs)) (fun i σ H' => ∃ v2 v3, σ = [some (.ref a), some (.ref b), v2, v3] ∧ H' = H ∧ ∀ r ∈ rs.take i, keepR r row = true) ⟨none, none, rfl, rfl, fun r hr => by simp at hr⟩ (fun i σ H' _ z => ?_) (fun i x σ H1 H1' hi hP yy => ?_) (fun σ H1 hP => ?_)⟩
      · obtain ⟨_, _, _, rfl, _⟩ := z
        exact SqT.of ha
      · obtain ⟨v2, v3, rfl, rfl, hk⟩ := hP
        obtain ⟨rfl, hx⟩ := yy
        obtain ⟨c, d1, d2, r, rfl, h0, h1, h2, hin', f1, f2⟩ := turn xs dx i x hx hk
        refine ⟨c, _, rfl, SqT.of h0, rfl, _, _, rfl, _, _, rfl, rfl, ?_⟩
        exact body _ _ c d1 d2 r h1 h2 hin' (fun z => ⟨_, _, rfl, rfl, f1 z⟩) (fun z => by rw [f2 z] at q; exact q) rfl
      · obtain ⟨v2, v3, rfl, rfl, hk⟩ := hP
        have : keepAll rs row = true := List.all_eq_true.mpr fun r hr => hk r (by rw [List.take_of_length_le (by rw [dx.length, List.length_map]; exact Nat.le_refl _)]; exact hr)
        rw [this] at q
        exact q
    · refine ⟨_, pss_cons (ps_for PassesOwn.never rfl (pi_list (pv 0)) (pg_tup rfl (pgs_cons (pg_name (i := 2) scLKeeps.nd rfl (.inl rfl)) (pgs_cons (pg_name (i := 3) scLKeeps.nd rfl (.inl rfl)) pgs_nil)))
          (pss_one (ps_if (PW.pt (pw_and (pt_cmpR op_ne (pe_ix ix_tup (pv 1) (pe_ix ix_tup (pv 2) pe_int (fun _ _ => rfl)) (fun _ _ => rfl)) (pe_ix ix_tup (pv 2) pe_int (fun _ _ => rfl)) (nomark _)) (pw_and1 (pt_cmpR op_ne (pe_ix ix_tup (pv 1) (pe_ix ix_tup (pv 3) pe_int (fun _ _ => rfl)) (fun _ _ => rfl)) (pe_ix ix_tup (pv 3) pe_int (fun _ _ => rfl)) (nomark _))))) (pss_one (ps_ret pe_bl)) pss_nil)))
        (pss_one (ps_ret pe_bl)), ?_⟩
      refine ⟨_, rfl, a, rfl, ⟨_, SqL.of ha⟩, for_it (walk_list (K := K) (xs := xs)) (fun i σ H' => ∃ v2 v3, σ = [some (.ref a), some (.ref b), v2, v3] ∧ H' = H ∧ ∀ r ∈ rs.take i, keepR r row = true) ⟨none, none, rfl, rfl, fun r hr => by simp at hr⟩ (fun i σ H' _ z => ?_) (fun i x σ H1 H1' hi hP yy => ?_) (fun σ H1 hP => ?_)⟩
      · obtain ⟨_, _, _, rfl, _⟩ := z
        exact SqL.of ha
      · obtain ⟨v2, v3, rfl, rfl, hk⟩ := hP
        obtain ⟨rfl, hx⟩ := yy
        obtain ⟨c, d1, d2, r, rfl, h0, h1, h2, hin', f1, f2⟩ := turn xs dx i x hx hk
        refine ⟨c, _, rfl, SqT.of h0, rfl, _, _, rfl, _, _, rfl, rfl, ?_⟩
        exact body _ _ c d1 d2 r h1 h2 hin' (fun z => ⟨_, _, rfl, rfl, f1 z⟩) (fun z => by rw [f2 z] at q; exact q) rfl
      · obtain ⟨v2, v3, rfl, rfl, hk⟩ := hP
        have : keepAll rs row = true := List.all_eq_true.mpr fun r hr => hk r (by rw [List.take_of_length_le (by rw [dx.length, List.length_map]; exact Nat.le_refl _)]; exact hr)
        rw [this] at q
        exact q

def spLKept : Sp := fun vs H Q _ => ∃ (a : Addr) (m : Nat) (rs : List Rule), vs = [.int (m : Int), .ref a] ∧ 1 ≤ m ∧ m ≤ 8 ∧ Tp H a (rs.map ruleD) ∧ (∀ r ∈ rs, RIn (m : Int) r) ∧ ∀ H' l, Same H H' → H l = none → Ls H' l ((keptRows m rs).map rowD) → Q (.ref l) H'
theorem ok_law_kept (T : Prog K mg) : FnOk P w K mg base CX0 2 T.dLKept.f T.dLKept.fd ["_law_many", "_law_rules"] spLKept := by
  have G : FnOk P w K mg base CX0 1 T.dLRows.f T.dLRows.fd ["_law_many"] spLRows := ok_law_rows T
  have G2 : FnOk P w K mg base CX0 1 T.dLKeeps.f T.dLKeeps.fd ["_law_rules", "_law_row"] spLKeeps := ok_law_keeps T
  refine T.dLKept.F.ok scLKept (fun vs H Q E h => ?_) (fun cdv A outer s H vs Q E hr h => ?_)
  · obtain ⟨_, _, _, rfl, _⟩ := h
    rfl
  · obtain ⟨a, m, rs, rfl, m1, hm, ht, hin, q⟩ := h
    refine ⟨_, pss_one (ps_ret (pe_lc (own := [("_law_row", 2)]) (g := gName 2) (tt := tB (tCall spLKeeps [] E0 (tCons (tVar 1) (tCons (tVar 2) tNil)))) rfl scLKept.nd (pi_list (pe_call G hr (by rfl) T.dLRows.g T.dLRows.kp T.dLRows.b .nil pass0 (pa_cons (pv 0) pa_nil))) (blkOk_by (N := nLKept) (sc := defScope sLKept) (by decide +kernel))
          (fun _ _ _ _ _ => pg_name (i := 2) scLKept.nd rfl (Or.inl rfl)) (fun _ _ _ _ _ => pts_one (pt_val (pe_call G2 hr (by rfl) T.dLKeeps.g T.dLKeeps.kp T.dLKeeps.b .nil pass0 (pa_cons (pv 1) (pa_cons (pv 2) pa_nil))))) (fun _ _ _ _ _ => pv 2))), ?_⟩
    refine ⟨_, rfl, m, rfl, m1, hm, fun H1 l s1 nl hl => ?_⟩
    obtain ⟨xs, hxl, hxd⟩ := hl
    have hlen : xs.length = (allRows m).length := by rw [hxd.length, List.length_map]
    refine ⟨l, rfl, ⟨_, SqL.of hxl⟩, fun D hD => lc_dt (walk_list (K := K) (xs := xs)) (allRows m) (keepAll rs) rowD hlen (small1000 (by have := allRows_small hm; omega)) hD (fun H' sm => SqL.of (sm _ _ hxl)) (fun i r x H2 H2' Yes No hu sm yy yes no => ?_) (fun H2 ys sm hys dy => ?_)⟩
    · obtain ⟨rfl, hi⟩ := yy
      obtain ⟨d, hd, hdt⟩ := hxd.got hi
      rw [List.getElem?_map, hu] at hd
      cases hd
      have s2 := s1.trans sm
      have hrow := allRows_mem (List.mem_of_getElem? hu)
      refine ⟨rfl, _, rfl, _, rfl, a, x, rs, r, rfl, .inl (ht.same s2), hdt.k (kt_same sm), fun r' hr' => by rw [hrow.1]; exact hin r' hr', keepAll rs r, rfl, ite2 (fun hk => ?_) (fun hk => ?_)⟩
      · exact ⟨x, rfl, yes hk x _ (Same.refl _) (hdt.k (kt_same sm))⟩
      · exact no (by simpa using hk) _ (Same.refl _)
    · exact q H2 D (s1.trans sm) (s1.free hD) ⟨ys, hys, dy⟩
end
end Mr

/-! Mr.D12: _law_some_rules. -/
namespace Mr
open PySem PySem.Spec PyProof.Rows L2
/-- a statement whose ways meet behind it -/
theorem if_join {tc : TT} {ta tb t2 : TS} {D : Ends} {σ : L2.St} {H : Hp} (I : L2.St → Hp → Prop) (h1 : ∀ N : L2.St → Hp → Prop, (∀ σ H, I σ H → N σ H) → tIfS tc ta tb { D with nx := N } σ H) (h2 : ∀ σ H, I σ H → t2 D σ H) : tSeq (tIfS tc ta tb) t2 D σ H := h1 _ h2
theorem but_young {p f : Addr} {H H' : Hp} {o : HO} (b : But p H H') (h : H f = none) : But p H (upd H' f o) := fun c u n e => by
  rw [upd_ne (ne_of_none e h)]
  exact b c u n e
theorem but_new {p f : Addr} {H : Hp} {o : HO} (h : H f = none) : But p H (upd H f o) := But.of (same_new h)
/-! ### what the rules of so many places are -/
def okR (m : Nat) (r : Rule) : Bool :=
  decide (0 ≤ r.1.1) && decide (r.1.1 < (m : Int)) && (decide (r.1.2 = 0) || decide (r.1.2 = 1)) && (decide (0 ≤ r.2.1) && decide (r.2.1 < (m : Int)) && (decide (r.2.2 = 0) || decide (r.2.2 = 1))) && decide (wcode r.1 ≤ wcode r.2) && decide (r.2 ≠ (r.1.1, 1 - r.1.2))
theorem okR_good {m : Nat} {r : Rule} (h : okR m r = true) : RGood (m : Int) r := by
  unfold okR at h
  simp only [Bool.and_eq_true, Bool.or_eq_true, decide_eq_true_eq] at h
  obtain ⟨⟨⟨⟨⟨a, b⟩, c⟩, ⟨d, e⟩, f⟩, g⟩, k⟩ := h
  exact ⟨⟨⟨a, b, c⟩, ⟨d, e, f⟩⟩, g, k⟩
theorem all_facts : ∀ m : Nat, m < 9 → ((allRulesL m).all (okR m) && decide ((allRulesL m).length ≤ 200) && (decide (m = 0) || ((allRulesL m).contains (((0 : Int), (0 : Int)), ((0 : Int), (0 : Int))) && (allRulesL m).contains (((0 : Int), (1 : Int)), ((0 : Int), (1 : Int)))))) = true := by decide +kernel
theorem all_good {m : Nat} (h : m ≤ 8) : ∀ r ∈ allRulesL m, RGood (m : Int) r := fun r hr => by
  have z := all_facts m (by omega)
  simp only [Bool.and_eq_true] at z
  exact okR_good (List.all_eq_true.mp z.1.1 r hr)
theorem all_few {m : Nat} (h : m ≤ 8) : (allRulesL m).length ≤ 200 := by
  have z := all_facts m (by omega)
  simp only [Bool.and_eq_true, decide_eq_true_eq] at z
  exact z.1.2
theorem all_has {m : Nat} (h : m ≤ 8) (h1 : 1 ≤ m) {v : Int} (hv : v = 0 ∨ v = 1) : (((0 : Int), v), ((0 : Int), v)) ∈ allRulesL m := by
  have z := all_facts m (by omega)
  simp only [Bool.and_eq_true, Bool.or_eq_true, decide_eq_true_eq] at z
  rcases z.2 with e | ⟨e0, e1⟩
  · omega
  · rcases hv with rfl | rfl
    · exact List.contains_iff_mem.mp e0
    · exact List.contains_iff_mem.mp e1
section
variable {K : PySem.W.Frag}
/-- as it stands while rules are drawn: the list drawn from, the list drawn to -/
structure SR (K : PySem.W.Frag) (H : Hp) (p s : Addr) (m : Nat) (pl : Addr) (pr : Row) (H' : Hp) (l f : Addr) (k : Nat) : Prop where
  b : But p H H'
  ra : RowAt K H' p s
  hl : H l = none
  hf : H f = none
  lf : l ≠ f
  ev : ∃ es : List Rule, Ls H' l (es.map ruleD) ∧ es ≠ [] ∧ es.length ≤ 400 ∧ ∀ r ∈ es, RGood (m : Int) r
  fd : ∃ fs : List Rule, Ls H' f (fs.map ruleD) ∧ fs.length ≤ k ∧ ∀ r ∈ fs, RGood (m : Int) r
  hpl : H' pl = some (.tup (pr.map V.int))
variable {H H' : Hp} {p s : Addr} {m : Nat} {pl : Addr} {pr : Row} {l f : Addr} {k : Nat}
theorem SR.lp (x : SR K H p s m pl pr H' l f k) (r0 : RowAt K H p s) : l ≠ p := fun e => by
  obtain ⟨_, h⟩ := r0.lst
  have := x.hl
  rw [e, h] at this
  cases this
theorem SR.fp (x : SR K H p s m pl pr H' l f k) (r0 : RowAt K H p s) : f ≠ p := fun e => by
  obtain ⟨_, h⟩ := r0.lst
  have := x.hf
  rw [e, h] at this
  cases this
theorem SR.same {H2 : Hp} (x : SR K H p s m pl pr H' l f k) (t : Same H' H2) : SR K H p s m pl pr H2 l f k :=
  ⟨x.b.trans (But.of t), x.ra.same t, x.hl, x.hf, x.lf, let ⟨es, a, b⟩ := x.ev; ⟨es, a.same t, b⟩, let ⟨es, a, b⟩ := x.fd; ⟨es, a.same t, b⟩, t _ _ x.hpl⟩
theorem SR.but {H2 : Hp} (x : SR K H p s m pl pr H' l f k) (r0 : RowAt K H p s) (t : But p H' H2) (ra : RowAt K H2 p s) : SR K H p s m pl pr H2 l f k := by
  obtain ⟨ys, hp⟩ := x.ra.lst
  exact ⟨x.b.trans t, ra, x.hl, x.hf, x.lf, let ⟨es, a, b⟩ := x.ev; ⟨es, t.ls hp (x.lp r0) a, b⟩, let ⟨es, a, b⟩ := x.fd; ⟨es, t.ls hp (x.fp r0) a, b⟩, t _ _ (ne_of x.hpl hp (by intro z; cases z)) x.hpl⟩
/-- the list drawn to has one rule more -/
theorem SR.app (x : SR K H p s m pl pr H' l f k) (r0 : RowAt K H p s) {v : V} {r : Rule} (hv : Dt H' v (ruleD r)) (g : RGood (m : Int) r) :
    ∃ xs, H' f = some (.lst xs) ∧ xs.length ≤ k ∧ SR K H p s m pl pr (upd H' f (.lst (xs ++ [v]))) l f (k + 1) := by
  obtain ⟨fs, ⟨xs, hx, dx⟩, few, good⟩ := x.fd
  have kt : KT H' (upd H' f (.lst (xs ++ [v]))) := kt_lst hx
  refine ⟨xs, hx, by rw [dx.length, List.length_map]; exact few, but_young x.b x.hf, r0.young x.ra x.hf, x.hl, x.hf, x.lf, ?_, ?_, by rw [upd_ne (ne_of x.hpl hx (by intro z; cases z))]; exact x.hpl⟩
  · obtain ⟨es, ⟨ys, hy, dy⟩, b⟩ := x.ev
    exact ⟨es, ⟨ys, by rw [upd_ne x.lf]; exact hy, dy.k kt⟩, b⟩
  · refine ⟨fs ++ [r], ⟨_, upd_same, ?_⟩, by rw [List.length_append]; exact Nat.add_le_add_right few 1, fun q hq => ?_⟩
    · rw [List.map_append]
      exact (dx.snoc hv).k kt
    · rcases List.mem_append.mp hq with z | z
      · exact good q z
      · rw [List.mem_singleton.mp z]
        exact g
/-- another list to draw from -/
theorem SR.ev' (x : SR K H p s m pl pr H' l f k) {l2 : Addr} {es : List Rule} (h2 : H l2 = none) (n : l2 ≠ f) (a : Ls H' l2 (es.map ruleD)) (ne : es ≠ []) (few : es.length ≤ 400) (g : ∀ r ∈ es, RGood (m : Int) r) : SR K H p s m pl pr H' l2 f k :=
  ⟨x.b, x.ra, h2, x.hf, n, ⟨es, a, ne, few, g⟩, x.fd, x.hpl⟩
end
end Mr

/-! Mr.D13: _law_some_rules, the walk. -/
namespace Mr
open PySem PySem.Spec PyProof.Rows L2
theorem cut_take' (xs : List V) (n : Nat) : cutV xs none (some (n : Int)) = xs.take n := by
  by_cases h : n ≤ xs.length
  · exact cut_take xs n h
  · unfold cutV
    rw [HT.sIx_nat, HT.sIx_none, Nat.min_eq_right (by omega), List.take_of_length_le (i := n) (by omega)]
    simp
def p2 (r : Rule) : Bool := (!decide (V.int r.1.2 = V.int r.2.2)) && !decide (V.int r.1.1 = V.int r.2.1)
def p3 (r : Rule) : Bool := decide (V.int r.1.2 = V.int r.2.2) && !decide (V.int r.1.1 = V.int r.2.1)
def p4 (r : Rule) : Bool := decide (V.int ((r.1.1 - r.2.1) % 2) = V.int 0)
section
variable {P : Program} {w : World} {K : PySem.W.Frag} {mg : Str → Option Value} {base : Heap}
abbrev tRj (K : PySem.W.Frag) (i j : Int) : TE := tOp (rIxT K) (tOp (rIxT K) (tVar 9) (tC (.int i))) (tC (.int j))
theorem SR.le {H H' : Hp} {p s : Addr} {m : Nat} {pl : Addr} {pr : Row} {l f : Addr} {k n : Nat} (x : SR K H p s m pl pr H' l f k) (h : k ≤ n) : SR K H p s m pl pr H' l f n :=
  ⟨x.b, x.ra, x.hl, x.hf, x.lf, x.ev, let ⟨fs, a, b, c⟩ := x.fd; ⟨fs, a, Nat.le_trans b h, c⟩, x.hpl⟩
theorem SR.cat {H H' : Hp} {p s : Addr} {m : Nat} {pl : Addr} {pr : Row} {l f : Addr} {k : Nat} (x : SR K H p s m pl pr H' l f k) (r0 : RowAt K H p s) {h : Addr} (nh : H' h = none) {ys zs : List V} (hy : H' f = some (.lst ys)) (gs : List Rule) (dz : Da H' zs (gs.map ruleD)) (g : ∀ r ∈ gs, RGood (m : Int) r) :
    SR K H p s m pl pr (upd H' h (.lst (ys ++ zs))) l h (k + gs.length) := by
  obtain ⟨_, hp⟩ := x.ra.lst
  have y := x.same (same_new (o := .lst (ys ++ zs)) nh)
  obtain ⟨fs, ⟨ys', hy', dy⟩, few, good⟩ := x.fd
  rw [hy] at hy'
  cases hy'
  refine ⟨y.b, y.ra, x.hl, x.b.none (ne_of_none hp nh).symm nh, ?_, y.ev, ⟨fs ++ gs, ⟨_, upd_same, ?_⟩, ?_, fun r hr => ?_⟩, y.hpl⟩
  · obtain ⟨_, ⟨_, h1, _⟩, _⟩ := x.ev
    exact ne_of_none h1 nh
  · rw [List.map_append]
    exact (dy.app dz).k (kt_new nh)
  · rw [List.length_append]
    omega
  · rcases List.mem_append.mp hr with z | z
    · exact good r z
    · exact g r z
theorem w6_good {m i : Nat} (h : i + 1 < m) {a b : Int} (ha : a = 0 ∨ a = 1) (hb : b = 0 ∨ b = 1) : RGood (m : Int) (((i : Int), a), ((i : Int) + 1, b)) := by
  refine ⟨⟨⟨?_, ?_, ha⟩, ⟨?_, ?_, hb⟩⟩, ?_, fun e => ?_⟩
  · show (0 : Int) ≤ (i : Int)
    omega
  · show (i : Int) < (m : Int)
    omega
  · show (0 : Int) ≤ (i : Int) + 1
    omega
  · show (i : Int) + 1 < (m : Int)
    omega
  · unfold wcode
    show (i : Int) * 2 + a ≤ ((i : Int) + 1) * 2 + b
    omega
  · have z : (i : Int) + 1 = (i : Int) := (Prod.mk.inj e).1
    omega
/-- as it stands between the ways: the list to draw from is whole as long as the ways to come ask for it -/
def IW (K : PySem.W.Frag) (H : Hp) (p s : Addr) (m : Nat) (pl : Addr) (pr : Row) (f : Addr) (way size : Int) (j : Int) (σ : L2.St) (H' : Hp) : Prop :=
  ∃ l, σ = [some (.ref p), some (.int (m : Int)), some (.ref l), some (.ref f), some (.int way), some (.ref pl), some (.int size), none, none, none] ∧ SR K H p s m pl pr H' l f 0 ∧ (j ≤ way → Ls H' l ((allRulesL m).map ruleD))
theorem IW.on {H : Hp} {p s : Addr} {m : Nat} {pl : Addr} {pr : Row} {f : Addr} {way size : Int} {j : Int} {l : Addr} {H' H2 : Hp} {D : Addr} {ys : List V} {es : List Rule} (x : SR K H p s m pl pr H' l f 0) (r0 : RowAt K H p s) (sm : Same H' H2) (hD : H' D = none) (hys : H2 D = some (.lst ys)) (dy : Da H2 ys (es.map ruleD)) (ne : es ≠ []) (few : es.length ≤ 400) (g : ∀ r ∈ es, RGood (m : Int) r) (hj : way < j) :
    IW K H p s m pl pr f way size j [some (.ref p), some (.int (m : Int)), some (.ref D), some (.ref f), some (.int way), some (.ref pl), some (.int size), none, none, none] H2 := by
  obtain ⟨_, hp⟩ := x.ra.lst
  obtain ⟨fs, ⟨_, hf, _⟩, _⟩ := x.fd
  refine ⟨D, rfl, (x.same sm).ev' (x.b.none (ne_of_none hp hD).symm hD) (ne_of_none hf hD).symm ⟨ys, hys, dy⟩ ne few g, fun z => ?_⟩
  omega
def spLSomeRules (K : PySem.W.Frag) : Sp := fun vs H Q _ => ∃ (p s : Addr) (m : Nat), vs = [.ref p, .int (m : Int)] ∧ RowAt K H p s ∧ 1 ≤ m ∧ m ≤ 7 ∧ ∀ H' t rs, But p H H' → RowAt K H' p s → Tp H' t (rs.map ruleD) → RsGood (m : Int) rs → Q (.ref t) H'
theorem ok_law_some_rules (T : Prog K mg) : FnOk P w K mg base CX0 3 T.dLSomeRules.f T.dLSomeRules.fd ["_law_row", "_law_many"] (spLSomeRules K) := by
  have GA : FnOk P w K mg base CX0 1 T.dLAllRules.f T.dLAllRules.fd ["_law_many"] spLAllRules := ok_law_all_rules T
  have GT : FnOk P w K mg base CX0 1 T.dLTaken.f T.dLTaken.fd ["_law_row", "_law_many"] (spTaken K) := ok_taken T
  have GP : FnOk P w K mg base CX0 2 T.dLPick.f T.dLPick.fd ["_law_row", "_law_things"] (spPick K) := ok_pick T
  have GR : FnOk P w K mg base CX0 1 T.dLRows.f T.dLRows.fd ["_law_many"] spLRows := ok_law_rows T
  have GK : FnOk P w K mg base CX0 1 T.dLKeeps.f T.dLKeeps.fd ["_law_rules", "_law_row"] spLKeeps := ok_law_keeps T
  have nd := scLSomeRules.nd
  refine T.dLSomeRules.F.ok scLSomeRules (fun vs H Q E h => ?_) (fun cdv A outer s0 H vs Q E hr h => ?_)
  · obtain ⟨_, _, _, rfl, _⟩ := h
    rfl
  · obtain ⟨p, s, m, rfl, r0, m1, m7, q⟩ := h
    have hr1 : Room 1 _ := hr.mono (by decide)
    have hr2 : Room 2 _ := hr.mono (by decide)
    refine ⟨_, pss_cons (ps_par3 (by rfl) nd (i := 2) (j := 3) (l := 4) rfl rfl rfl (by decide) (by decide) (by decide) rfl rfl rfl (pa_cons (pe_call GA hr1 (by rfl) T.dLAllRules.g T.dLAllRules.kp T.dLAllRules.b .nil pass0 (pa_cons (pv 1) pa_nil)) (pa_cons (pe_lst pa_nil) (pa_cons (pe_call GT hr1 (by rfl) T.dLTaken.g T.dLTaken.kp T.dLTaken.b .nil pass0 (pa_cons (pv 0) (pa_cons pe_int pa_nil))) pa_nil))) (by rfl))
      (pss_cons (ps_asg (pe_tup (pa_cons (pe_call GP hr2 (by rfl) T.dLPick.g T.dLPick.kp T.dLPick.b .nil pass0 (pa_cons (pv 0) (pa_cons (pe_call GR hr1 (by rfl) T.dLRows.g T.dLRows.kp T.dLRows.b .nil pass0 (pa_cons (pv 1) pa_nil)) pa_nil))) (pa_cons (pe_call GT hr1 (by rfl) T.dLTaken.g T.dLTaken.kp T.dLTaken.b .nil pass0 (pa_cons (pv 0) (pa_cons (pe_op op_add (pe_op op_mul pe_int (pv 1)) pe_int) pa_nil))) pa_nil))) (pg_tup rfl (pgs_cons (pg_name (i := 5) nd rfl (.inr rfl)) (pgs_cons (pg_name (i := 6) nd rfl (.inl rfl)) pgs_nil))))
      (pss_cons (ps_if (pt_cmpR op_eq (pv 4) pe_int (nomark _)) (pss_one (ps_setLc (i := 2) (own := [("_law_rule", 9)]) (g := gName 9) (tt := tB (tCall spLKeeps [] E0 (tCons (tLst (tCons (tVar 9) tNil)) (tCons (tVar 5) tNil)))) rfl nd rfl rfl (sw_true rfl rfl rfl (by decide +kernel)) (pi_list (pv 2)) (blkOk_by (N := nLSomeRules) (sc := defScope sLSomeRules) (by decide +kernel))
          (fun _ _ _ _ _ => pg_name (i := 9) nd rfl (Or.inl rfl)) (fun _ _ _ _ _ => pts_one (pt_val (pe_call GK hr1 (by rfl) T.dLKeeps.g T.dLKeeps.kp T.dLKeeps.b .nil pass0 (pa_cons (pe_lst (pa_cons (pv 9) pa_nil)) (pa_cons (pv 5) pa_nil))))) (fun _ _ _ _ _ => pv 9))) pss_nil)
      (pss_cons (ps_if (pt_cmpR op_eq (pv 4) pe_int (nomark _)) (pss_one (ps_set (i := 2) nd rfl (.inl rfl) (pe_op op_cat (pe_lc (own := [("_law_rule", 9)]) (g := gName 9) (tt := tAnd (tTest (tOp rNe (tRj K 0 1) (tRj K 1 1))) (tTest (tOp rNe (tRj K 0 0) (tRj K 1 0)))) rfl nd (pi_list (pv 2)) (blkOk_by (N := nLSomeRules) (sc := defScope sLSomeRules) (by decide +kernel))
          (fun _ _ _ _ _ => pg_name (i := 9) nd rfl (Or.inl rfl)) (fun _ _ _ _ _ => pts_one (PW.pt (pw_and (pt_cmpR op_ne (pe_ix ix_tup (pe_ix ix_tup (pv 9) pe_int (fun _ _ => rfl)) pe_int (fun _ _ => rfl)) (pe_ix ix_tup (pe_ix ix_tup (pv 9) pe_int (fun _ _ => rfl)) pe_int (fun _ _ => rfl)) (nomark _)) (pw_and1 (pt_cmpR op_ne (pe_ix ix_tup (pe_ix ix_tup (pv 9) pe_int (fun _ _ => rfl)) pe_int (fun _ _ => rfl)) (pe_ix ix_tup (pe_ix ix_tup (pv 9) pe_int (fun _ _ => rfl)) pe_int (fun _ _ => rfl)) (nomark _)))))) (fun _ _ _ _ _ => pv 9)) (pe_slice sl_list (pv 2) po_none (po_some pe_int))))) pss_nil)
      (pss_cons (ps_if (pt_cmpR op_eq (pv 4) pe_int (nomark _)) (pss_one (ps_set (i := 2) nd rfl (.inl rfl) (pe_op op_cat (pe_lc (own := [("_law_rule", 9)]) (g := gName 9) (tt := tAnd (tTest (tOp rEq (tRj K 0 1) (tRj K 1 1))) (tTest (tOp rNe (tRj K 0 0) (tRj K 1 0)))) rfl nd (pi_list (pv 2)) (blkOk_by (N := nLSomeRules) (sc := defScope sLSomeRules) (by decide +kernel))
          (fun _ _ _ _ _ => pg_name (i := 9) nd rfl (Or.inl rfl)) (fun _ _ _ _ _ => pts_one (PW.pt (pw_and (pt_cmpR op_eq (pe_ix ix_tup (pe_ix ix_tup (pv 9) pe_int (fun _ _ => rfl)) pe_int (fun _ _ => rfl)) (pe_ix ix_tup (pe_ix ix_tup (pv 9) pe_int (fun _ _ => rfl)) pe_int (fun _ _ => rfl)) (nomark _)) (pw_and1 (pt_cmpR op_ne (pe_ix ix_tup (pe_ix ix_tup (pv 9) pe_int (fun _ _ => rfl)) pe_int (fun _ _ => rfl)) (pe_ix ix_tup (pe_ix ix_tup (pv 9) pe_int (fun _ _ => rfl)) pe_int (fun _ _ => rfl)) (nomark _)))))) (fun _ _ _ _ _ => pv 9)) (pe_slice sl_list (pv 2) po_none (po_some pe_int))))) pss_nil)
      (pss_cons (ps_if (pt_cmpR op_eq (pv 4) pe_int (nomark _)) (pss_one (ps_setLc (i := 2) (own := [("_law_rule", 9)]) (g := gName 9) (tt := tTest (tOp rEq (tOp (rI (fun _ j => 0 < j) fun i j => .int (i % j)) (tOp (rI0 fun i j => .int (i - j)) (tRj K 0 0) (tRj K 1 0)) (tC (.int 2))) (tC (.int 0)))) rfl nd rfl rfl (sw_true rfl rfl rfl (by decide +kernel)) (pi_list (pv 2)) (blkOk_by (N := nLSomeRules) (sc := defScope sLSomeRules) (by decide +kernel))
          (fun _ _ _ _ _ => pg_name (i := 9) nd rfl (Or.inl rfl)) (fun _ _ _ _ _ => pts_one (pt_cmpR op_eq (pe_op op_mod (pe_op op_sub (pe_ix ix_tup (pe_ix ix_tup (pv 9) pe_int (fun _ _ => rfl)) pe_int (fun _ _ => rfl)) (pe_ix ix_tup (pe_ix ix_tup (pv 9) pe_int (fun _ _ => rfl)) pe_int (fun _ _ => rfl))) pe_int) pe_int (nomark _))) (fun _ _ _ _ _ => pv 9))) pss_nil)
      (pss_cons (ps_for PassesOwn.never rfl (pi_range1 rfl T.z_range (pa_cons (pe_op op_add (pv 6) (pe_op op_mul pe_int (pe_callTy call_int1 (by rfl) T.z_int (by decide +kernel) (pa_cons (pe_cmpR op_eq (pv 4) pe_int (nomark _)) pa_nil)))) pa_nil)) (pg_name (i := 7) nd rfl (.inl rfl))
        (pss_one (ps_expr (pe_bm PySem.F.plainAttrs_list PySem.F.slot_list_append PySem.F.type_list_append mt_append (pv 3) (pa_cons (pe_call GP hr2 (by rfl) T.dLPick.g T.dLPick.kp T.dLPick.b .nil pass0 (pa_cons (pv 0) (pa_cons (pv 2) pa_nil))) pa_nil)))))
      (pss_cons (ps_if (pt_cmpR op_eq (pv 4) pe_int (nomark _)) (pss_one (ps_for PassesOwn.never rfl (pi_range1 rfl T.z_range (pa_cons (pe_op op_sub (pv 1) pe_int) pa_nil)) (pg_name (i := 8) nd rfl (.inl rfl))
        (pss_cons (ps_expr (pe_bm PySem.F.plainAttrs_list PySem.F.slot_list_append PySem.F.type_list_append mt_append (pv 3) (pa_cons (pe_tup (pa_cons (pe_tup (pa_cons (pv 8) (pa_cons (pe_ix ix_tup (pv 5) (pv 8) (fun _ _ => rfl)) pa_nil))) (pa_cons (pe_tup (pa_cons (pe_op op_add (pv 8) pe_int) (pa_cons (pe_op op_sub pe_int (pe_ix ix_tup (pv 5) (pe_op op_add (pv 8) pe_int) (fun _ _ => rfl))) pa_nil))) pa_nil))) pa_nil)))
        (pss_one (ps_set (i := 3) nd rfl (.inl rfl) (pe_op op_cat (pv 3) (pe_op op_rep (pe_lst (pa_cons (pe_tup (pa_cons (pe_tup (pa_cons (pv 8) (pa_cons (pe_op op_sub pe_int (pe_ix ix_tup (pv 5) (pv 8) (fun _ _ => rfl))) pa_nil))) (pa_cons (pe_tup (pa_cons (pe_op op_add (pv 8) pe_int) (pa_cons (pe_ix ix_tup (pv 5) (pe_op op_add (pv 8) pe_int) (fun _ _ => rfl)) pa_nil))) pa_nil))) pa_nil)) (pe_callTy call_int1 (by rfl) T.z_int (by decide +kernel) (pa_cons (pe_cmpR op_gt (pe_call GT hr1 (by rfl) T.dLTaken.g T.dLTaken.kp T.dLTaken.b .nil pass0 (pa_cons (pv 0) (pa_cons pe_int pa_nil))) pe_int (nomark _)) pa_nil))))))))) pss_nil)
      (pss_one (ps_ret (pe_callTy call_tuple_of (by rfl) T.z_tuple (by decide +kernel) (pa_cons (pe_sortSet hr.units rfl (by rfl) T.z_sorted (by rfl) T.z_set (pv 3)) pa_nil))))))))))), ?_⟩
    refine ⟨_, rfl, m, rfl, by omega, fun H1 l s1 nl hl => ⟨Nat.zero_le _, fun f nf => ?_⟩⟩
    have s2 := s1.trans (same_new (o := .lst []) nf)
    have r2 := r0.same s2
    refine ⟨_, rfl, p, s, 7, rfl, r2, by decide, by decide, fun way H3 w0 w1 b3 r3 => ⟨_, _, _, rfl, ?_⟩⟩
    refine ⟨_, rfl, _, rfl, m, rfl, m1, by omega, fun H4 lr s4 nlr hlr => ?_⟩
    obtain ⟨xr, hxr, dxr⟩ := hlr
    have r4 := r3.same s4
    obtain ⟨_, hp3⟩ := r3.lst
    have nlp : lr ≠ p := (ne_of_none hp3 nlr).symm
    have xrl : xr.length = (allRows m).length := by rw [dxr.length, List.length_map]
    have xr2 : (allRows m).length ≤ 256 := allRows_small (by omega)
    have xr1 : 0 < (allRows m).length := by rw [allRows_len]; exact Nat.pos_of_ne_zero (by simp)
    refine ⟨p, s, lr, xr, rfl, r4, hxr, nlp, fun e => by rw [e] at xrl; simp at xrl; omega, by omega, fun x H5 hx b5 r5 => ?_⟩
    obtain ⟨ix, hix⟩ := List.mem_iff_getElem?.mp hx
    obtain ⟨dd, hd, hdt⟩ := dxr.got hix
    obtain ⟨pr, hpr, rfl⟩ := List.mem_map.mp (List.mem_of_getElem? hd)
    obtain ⟨pl, rfl, hpl⟩ := hdt.of_row
    obtain ⟨prl, prb⟩ := allRows_mem hpr
    refine ⟨_, rfl, _, rfl, 2, m, rfl, rfl, .inr ⟨by omega, by omega⟩, _, 3, rfl, rfl, p, s, 2 * (m : Int) + 3, rfl, r5, by omega, by omega, fun size H6 z0 z1 b6 r6 => ⟨by show 2 ≤ sizeLine; decide, fun t nt => ⟨t, _, rfl, SqT.of upd_same, rfl, _, _, rfl, _, _, rfl, rfl, ?_⟩⟩⟩
    have kb4 : But p H4 (upd H6 t (.tup [.ref pl, .int size])) := (b5.trans b6).trans (but_new nt)
    have kb : But p (upd H1 f (.lst [])) (upd H6 t (.tup [.ref pl, .int size])) := (b3.trans (But.of s4)).trans kb4
    have nlp' : l ≠ p := (ne_of_none (r0.lst.choose_spec) nl).symm
    have nf0 : H f = none := s1.free nf
    have nfp : f ≠ p := (ne_of_none (r0.lst.choose_spec) nf0).symm
    have nlf : l ≠ f := by
      obtain ⟨_, hl1, _⟩ := hl
      exact ne_of_none hl1 nf
    have hl7 := kb.ls r2.lst.choose_spec nlp' (hl.same (same_new nf))
    have hpl7 := kb4 pl _ (ne_of hpl (r4.lst.choose_spec) (by intro z; cases z)) hpl
    have good := all_good (m := m) (by omega)
    have few := all_few (m := m) (by omega)
    have ane : allRulesL m ≠ [] := List.ne_nil_of_mem (all_has (by omega) m1 (.inl rfl))
    have sr : SR K H p s m pl pr (upd H6 t (.tup [.ref pl, .int size])) l f 0 := ⟨(But.of s2).trans kb, r6.same (same_new nt), nl, nf0, nlf, ⟨_, hl7, ane, by omega, good⟩, ⟨[], ⟨[], kb f _ nfp upd_same, .nil⟩, Nat.le_refl _, fun _ h => (by cases h)⟩, hpl7⟩
    clear kb4 kb hpl7 hl hpl hdt hd hix hx dxr hxr hp3
    have sr' : l = l ∧ True ∧ (1 ≤ way → Ls (upd H6 t (.tup [.ref pl, .int size])) l ((allRulesL m).map ruleD)) := ⟨rfl, trivial, fun _ => hl7⟩
    clear hl7
    -- the first way
    dsimp only
    refine if_join (IW K H p s m pl pr f way size 2) (fun N hN => ?_) (fun σ H' hI => ?_)
    · refine ⟨_, rfl, rfl, _, rfl, ite2 (fun hk => ?_) (fun hk => ?_)⟩
      · have hw : way = 1 := V.int.inj (of_decide_eq_true hk)
        obtain ⟨xs, hxl, hxd⟩ := sr'.2.2 (by omega)
        have hlen : xs.length = (allRulesL m).length := by rw [hxd.length, List.length_map]
        refine ⟨_, rfl, l, rfl, ⟨_, SqL.of hxl⟩, fun D hD => lc_dt (walk_list (K := K) (xs := xs)) (allRulesL m) (fun r => keepAll [r] pr) ruleD hlen (small1000 (by omega)) hD (fun H' sm => SqL.of (sm _ _ hxl)) (fun i r x H2 H2' Yes No hu sm yy yes no => ?_) (fun H2 ys sm hys dy => ?_)⟩
        · obtain ⟨rfl, hi⟩ := yy
          obtain ⟨d, hd, hdt⟩ := hxd.got hi
          rw [List.getElem?_map, hu] at hd
          cases hd
          have hdt' := hdt.k (kt_same sm)
          refine ⟨rfl, _, rfl, by show 1 ≤ sizeLine; decide, fun q1 nq => ⟨_, rfl, q1, .ref pl, [r], pr, rfl, .inr ⟨_, upd_same, .cons (hdt'.k (kt_new nq)) .nil⟩, Dt.row ((same_new nq) _ _ (sm _ _ sr.hpl)), fun r' hr' => ?_, _, rfl, ite2 (fun hk => ?_) (fun hk => ?_)⟩⟩
          · rw [List.mem_singleton.mp hr', prl]
            exact (good r (List.mem_of_getElem? hu)).i
          · exact ⟨x, rfl, yes hk x _ (same_new nq) (hdt'.k (kt_new nq))⟩
          · exact no (by simpa using hk) _ (same_new nq)
        · refine hN _ _ (IW.on sr r0 sm hD hys dy ?_ (by have := List.length_filter_le (fun r => keepAll [r] pr) (allRulesL m); omega) (fun r hr => good r (List.mem_filter.mp hr).1) (by omega))
          have hv : at0 pr 0 = 0 ∨ at0 pr 0 = 1 := by
            cases pr with
            | nil => simp at prl; omega
            | cons b bs => exact prb b List.mem_cons_self
          refine List.ne_nil_of_mem (a := (((0 : Int), at0 pr 0), ((0 : Int), at0 pr 0))) (List.mem_filter.mpr ⟨all_has (by omega) m1 hv, ?_⟩)
          unfold keepAll keepR hasW
          simp
      · exact hN _ _ ⟨l, rfl, sr, fun _ => sr'.2.2 (by omega)⟩
    -- the second way
    obtain ⟨l, rfl, sr, ev⟩ := hI
    refine if_join (IW K H p s m pl pr f way size 3) (fun N hN => ?_) (fun σ H' hI => ?_)
    · refine ⟨_, rfl, rfl, _, rfl, ite2 (fun hk => ?_) (fun hk => ?_)⟩
      · have hw : way = 2 := V.int.inj (of_decide_eq_true hk)
        obtain ⟨xs, hxl, hxd⟩ := ev (by omega)
        have hlen : xs.length = (allRulesL m).length := by rw [hxd.length, List.length_map]
        refine ⟨_, rfl, l, rfl, ⟨_, SqL.of hxl⟩, fun D hD => lc_dt (walk_list (K := K) (xs := xs)) (allRulesL m) p2 ruleD hlen (small1000 (by omega)) hD (fun H' sm => SqL.of (sm _ _ hxl)) (fun i r x H2 H2' Yes No hu sm yy yes no => ?_) (fun H2 ys sm hys dy => ?_)⟩
        · obtain ⟨rfl, hi⟩ := yy
          obtain ⟨d, hd, hdt⟩ := hxd.got hi
          rw [List.getElem?_map, hu] at hd
          cases hd
          have hdt' := hdt.k (kt_same sm)
          obtain ⟨c, d1, d2, rfl, h0, h1, h2⟩ := hdt'.of_rule
          refine ⟨rfl, _, rfl, c, _, 0, _, rfl, rfl, SqT.of h0, atI_nat (j := 0) rfl, d1, _, 1, _, rfl, rfl, SqT.of h1, atI_nat (j := 1) rfl, _, rfl, c, _, 1, _, rfl, rfl, SqT.of h0, atI_nat (j := 1) rfl, d2, _, 1, _, rfl, rfl, SqT.of h2, atI_nat (j := 1) rfl, rfl, _, rfl, ite2 (fun ha => ?_) (fun ha => ?_)⟩
          · refine ⟨_, rfl, c, _, 0, _, rfl, rfl, SqT.of h0, atI_nat (j := 0) rfl, d1, _, 0, _, rfl, rfl, SqT.of h1, atI_nat (j := 0) rfl, _, rfl, c, _, 1, _, rfl, rfl, SqT.of h0, atI_nat (j := 1) rfl, d2, _, 0, _, rfl, rfl, SqT.of h2, atI_nat (j := 0) rfl, rfl, _, rfl, ite2 (fun hb => ?_) (fun hb => ?_)⟩
            · exact ⟨_, rfl, yes (by unfold p2; rw [ha, hb]; rfl) _ _ (Same.refl _) hdt'⟩
            · exact no (by unfold p2; rw [Bool.eq_false_iff.mpr hb, Bool.and_false]) _ (Same.refl _)
          · exact iteF (no (by unfold p2; rw [Bool.eq_false_iff.mpr ha, Bool.false_and]) _ (Same.refl _))
        · refine ⟨_, rfl, _, rfl, l, xs, rfl, SqL.of (sm _ _ hxl), fun c nc => ?_⟩
          have ec : cutV xs none (some 2) = xs.take 2 := cut_take' xs 2
          rw [ec]
          have t1 := same_new (o := .lst (xs.take 2)) nc
          have dtk := (hxd.k (kt_same (sm.trans t1))).take 2
          have yl : ys.length ≤ 200 := by
            rw [dy.length, List.length_map]
            have := List.length_filter_le p2 (allRulesL m)
            omega
          have xl : (xs.take 2).length ≤ 2 := by
            rw [List.length_take]
            omega
          refine ⟨D, c, ys, xs.take 2, rfl, rfl, t1 _ _ hys, upd_same, Nat.le_of_lt (small1000 (by omega)), fun D2 nD2 => ?_⟩
          have t2 := same_new (o := .lst (ys ++ xs.take 2)) nD2
          refine hN _ _ (IW.on (es := (allRulesL m).filter p2 ++ (allRulesL m).take 2) sr r0 ((sm.trans t1).trans t2) ((sm.trans t1).free nD2) upd_same ?_ (fun z => ?_) ?_ (fun r hr => ?_) (by omega))
          · rw [List.map_append, List.map_take]
            exact (dy.k (kt_same (t1.trans t2))).app (dtk.k (kt_same t2))
          · have := (List.append_eq_nil_iff.mp z).2
            cases e : allRulesL m with
            | nil => exact ane e
            | cons a b => rw [e] at this; simp at this
          · rw [List.length_append, List.length_take]
            have := List.length_filter_le p2 (allRulesL m)
            omega
          · rcases List.mem_append.mp hr with z | z
            · exact good r (List.mem_filter.mp z).1
            · exact good r (List.mem_of_mem_take z)
      · exact hN _ _ ⟨l, rfl, sr, fun _ => ev (by omega)⟩
    -- the third way
    obtain ⟨l, rfl, sr, ev⟩ := hI
    refine if_join (IW K H p s m pl pr f way size 4) (fun N hN => ?_) (fun σ H' hI => ?_)
    · refine ⟨_, rfl, rfl, _, rfl, ite2 (fun hk => ?_) (fun hk => ?_)⟩
      · have hw : way = 3 := V.int.inj (of_decide_eq_true hk)
        obtain ⟨xs, hxl, hxd⟩ := ev (by omega)
        have hlen : xs.length = (allRulesL m).length := by rw [hxd.length, List.length_map]
        refine ⟨_, rfl, l, rfl, ⟨_, SqL.of hxl⟩, fun D hD => lc_dt (walk_list (K := K) (xs := xs)) (allRulesL m) p3 ruleD hlen (small1000 (by omega)) hD (fun H' sm => SqL.of (sm _ _ hxl)) (fun i r x H2 H2' Yes No hu sm yy yes no => ?_) (fun H2 ys sm hys dy => ?_)⟩
        · obtain ⟨rfl, hi⟩ := yy
          obtain ⟨d, hd, hdt⟩ := hxd.got hi
          rw [List.getElem?_map, hu] at hd
          cases hd
          have hdt' := hdt.k (kt_same sm)
          obtain ⟨c, d1, d2, rfl, h0, h1, h2⟩ := hdt'.of_rule
          refine ⟨rfl, _, rfl, c, _, 0, _, rfl, rfl, SqT.of h0, atI_nat (j := 0) rfl, d1, _, 1, _, rfl, rfl, SqT.of h1, atI_nat (j := 1) rfl, _, rfl, c, _, 1, _, rfl, rfl, SqT.of h0, atI_nat (j := 1) rfl, d2, _, 1, _, rfl, rfl, SqT.of h2, atI_nat (j := 1) rfl, rfl, _, rfl, ite2 (fun ha => ?_) (fun ha => ?_)⟩
          · refine ⟨_, rfl, c, _, 0, _, rfl, rfl, SqT.of h0, atI_nat (j := 0) rfl, d1, _, 0, _, rfl, rfl, SqT.of h1, atI_nat (j := 0) rfl, _, rfl, c, _, 1, _, rfl, rfl, SqT.of h0, atI_nat (j := 1) rfl, d2, _, 0, _, rfl, rfl, SqT.of h2, atI_nat (j := 0) rfl, rfl, _, rfl, ite2 (fun hb => ?_) (fun hb => ?_)⟩
            · exact ⟨_, rfl, yes (by unfold p3; rw [ha, hb]; rfl) _ _ (Same.refl _) hdt'⟩
            · exact no (by unfold p3; rw [Bool.eq_false_iff.mpr hb, Bool.and_false]) _ (Same.refl _)
          · exact iteF (no (by unfold p3; rw [Bool.eq_false_iff.mpr ha, Bool.false_and]) _ (Same.refl _))
        · refine ⟨_, rfl, _, rfl, l, xs, rfl, SqL.of (sm _ _ hxl), fun c nc => ?_⟩
          have ec : cutV xs none (some 1) = xs.take 1 := cut_take' xs 1
          rw [ec]
          have t1 := same_new (o := .lst (xs.take 1)) nc
          have dtk := (hxd.k (kt_same (sm.trans t1))).take 1
          have yl : ys.length ≤ 200 := by
            rw [dy.length, List.length_map]
            have := List.length_filter_le p3 (allRulesL m)
            omega
          have xl : (xs.take 1).length ≤ 1 := by
            rw [List.length_take]
            omega
          refine ⟨D, c, ys, xs.take 1, rfl, rfl, t1 _ _ hys, upd_same, Nat.le_of_lt (small1000 (by omega)), fun D2 nD2 => ?_⟩
          have t2 := same_new (o := .lst (ys ++ xs.take 1)) nD2
          refine hN _ _ (IW.on (es := (allRulesL m).filter p3 ++ (allRulesL m).take 1) sr r0 ((sm.trans t1).trans t2) ((sm.trans t1).free nD2) upd_same ?_ (fun z => ?_) ?_ (fun r hr => ?_) (by omega))
          · rw [List.map_append, List.map_take]
            exact (dy.k (kt_same (t1.trans t2))).app (dtk.k (kt_same t2))
          · have := (List.append_eq_nil_iff.mp z).2
            cases e : allRulesL m with
            | nil => exact ane e
            | cons a b => rw [e] at this; simp at this
          · rw [List.length_append, List.length_take]
            have := List.length_filter_le p3 (allRulesL m)
            omega
          · rcases List.mem_append.mp hr with z | z
            · exact good r (List.mem_filter.mp z).1
            · exact good r (List.mem_of_mem_take z)
      · exact hN _ _ ⟨l, rfl, sr, fun _ => ev (by omega)⟩
    -- the fourth way
    obtain ⟨l, rfl, sr, ev⟩ := hI
    refine if_join (IW K H p s m pl pr f way size 5) (fun N hN => ?_) (fun σ H' hI => ?_)
    · refine ⟨_, rfl, rfl, _, rfl, ite2 (fun hk => ?_) (fun hk => ?_)⟩
      · have hw : way = 4 := V.int.inj (of_decide_eq_true hk)
        obtain ⟨xs, hxl, hxd⟩ := ev (by omega)
        have hlen : xs.length = (allRulesL m).length := by rw [hxd.length, List.length_map]
        refine ⟨_, rfl, l, rfl, ⟨_, SqL.of hxl⟩, fun D hD => lc_dt (walk_list (K := K) (xs := xs)) (allRulesL m) p4 ruleD hlen (small1000 (by omega)) hD (fun H' sm => SqL.of (sm _ _ hxl)) (fun i r x H2 H2' Yes No hu sm yy yes no => ?_) (fun H2 ys sm hys dy => ?_)⟩
        · obtain ⟨rfl, hi⟩ := yy
          obtain ⟨d, hd, hdt⟩ := hxd.got hi
          rw [List.getElem?_map, hu] at hd
          cases hd
          have hdt' := hdt.k (kt_same sm)
          obtain ⟨c, d1, d2, rfl, h0, h1, h2⟩ := hdt'.of_rule
          refine ⟨rfl, _, rfl, c, _, 0, _, rfl, rfl, SqT.of h0, atI_nat (j := 0) rfl, d1, _, 0, _, rfl, rfl, SqT.of h1, atI_nat (j := 0) rfl, _, rfl, c, _, 1, _, rfl, rfl, SqT.of h0, atI_nat (j := 1) rfl, d2, _, 0, _, rfl, rfl, SqT.of h2, atI_nat (j := 0) rfl, _, _, rfl, rfl, _, _, rfl, rfl, (by decide : (0 : Int) < 2), rfl, _, rfl, ite2 (fun ha => ?_) (fun ha => ?_)⟩
          · exact ⟨_, rfl, yes ha _ _ (Same.refl _) hdt'⟩
          · exact no (Bool.eq_false_iff.mpr ha) _ (Same.refl _)
        · refine hN _ _ (IW.on sr r0 sm hD hys dy (List.ne_nil_of_mem (List.mem_filter.mpr ⟨all_has (by omega) m1 (.inl rfl), rfl⟩)) (by have := List.length_filter_le p4 (allRulesL m); omega) (fun r hr => good r (List.mem_filter.mp hr).1) (by omega))
      · exact hN _ _ ⟨l, rfl, sr, fun _ => ev (by omega)⟩
    obtain ⟨l, rfl, sr, _⟩ := hI
    clear ev
    obtain ⟨e5, he5, b5⟩ : ∃ e : Int, e = (if decide (V.int way = V.int 5) = true then 1 else 0) ∧ 0 ≤ e ∧ e ≤ 1 := by
      refine ⟨_, rfl, ?_⟩
      split <;> decide
    refine ⟨_, rfl, _, rfl, rfl, .inr ⟨_, rfl, 2, _, rfl, rfl, .inr ?_, _, _, rfl, rfl, ?_⟩⟩
    · rw [← he5]
      omega
    rw [← he5]
    refine ⟨size + 2 * e5, rfl, by omega, by omega, for_range (lo := 0) (n := (size + 2 * e5).toNat) (fun i σ H' => ∃ v7, σ = [some (.ref p), some (.int (m : Int)), some (.ref l), some (.ref f), some (.int way), some (.ref pl), some (.int size), v7, none, none] ∧ SR K H p s m pl pr H' l f i) ⟨none, rfl, sr⟩ (fun i σ H1 hi hP => ?_) (fun σ H1 hP => ?_)⟩
    · obtain ⟨v7, rfl, sr⟩ := hP
      obtain ⟨es, ⟨xs, hxl, hxd⟩, ne, few, good⟩ := id sr.ev
      obtain ⟨fs, ⟨zs, hzl, hzd⟩, fewz, goodz⟩ := id sr.fd
      have xl : xs.length = es.length := by rw [hxd.length, List.length_map]
      refine ⟨_, rfl, .inl ⟨rfl, _, SqL.of hzl⟩, _, rfl, _, rfl, p, s, l, xs, rfl, sr.ra, hxl, sr.lp r0, ?_, by omega, fun x H2 hx b r2 => ?_⟩
      · intro z
        rw [z] at xl
        exact ne (List.length_eq_zero_iff.mp xl.symm)
      · obtain ⟨ix, hix⟩ := List.mem_iff_getElem?.mp hx
        obtain ⟨dd, hd, hdt⟩ := hxd.got hix
        obtain ⟨r, hr, rfl⟩ := List.mem_map.mp (List.mem_of_getElem? hd)
        have sr2 := sr.but r0 b r2
        obtain ⟨ws, hws, lws, sr3⟩ := sr2.app r0 (hdt.k (b.kt sr.ra.lst.choose_spec)) (good r hr)
        exact ⟨f, ws, x, rfl, rfl, hws, small1000 (by omega), _, rfl, sr3⟩
    obtain ⟨v7, rfl, sr1⟩ := hP
    have sr := sr1.le (n := 18) (by omega)
    clear sr1
    dsimp only
    refine if_join (fun σ H' => ∃ f' v7 v8, σ = [some (.ref p), some (.int (m : Int)), some (.ref l), some (.ref f'), some (.int way), some (.ref pl), some (.int size), v7, v8, none] ∧ SR K H p s m pl pr H' l f' 30) (fun N hN => ?_) (fun σ H' hI => ?_)
    · refine ⟨_, rfl, rfl, _, rfl, ite2 (fun hk => ?_) (fun hk => ?_)⟩
      · refine ⟨_, rfl, _, _, rfl, rfl, (m : Int) - 1, rfl, by omega, by omega, for_range (lo := 0) (n := ((m : Int) - 1).toNat) (fun i σ H' => ∃ f' v8, σ = [some (.ref p), some (.int (m : Int)), some (.ref l), some (.ref f'), some (.int way), some (.ref pl), some (.int size), v7, v8, none] ∧ SR K H p s m pl pr H' l f' (18 + 2 * i)) ⟨f, none, rfl, sr⟩ (fun i σ H1 hi hP => ?_) (fun σ H1 hP => ?_)⟩
        · obtain ⟨f', v8, rfl, sr⟩ := hP
          have e0 : (0 : Int) + (i : Nat) = (i : Int) := by omega
          rw [e0]
          have hi1 : i + 1 < m := by omega
          have a0 : 0 ≤ (i : Int) ∧ (i : Int) < pr.length := by rw [prl]; omega
          have a1 : 0 ≤ (i : Int) + 1 ∧ (i : Int) + 1 < pr.length := by rw [prl]; omega
          have bit : ∀ j : Int, 0 ≤ j → j < pr.length → at0 pr j = 0 ∨ at0 pr j = 1 := fun j j0 j1 => by
            obtain ⟨n, rfl⟩ : ∃ n : Nat, j = n := ⟨j.toNat, by omega⟩
            have hn : n < pr.length := by omega
            have e : at0 pr (n : Int) = pr[n] := by
              unfold at0
              rw [Int.toNat_natCast, List.getD_eq_getElem?_getD, List.getElem?_eq_getElem hn]
              rfl
            rw [e]
            exact prb _ (List.getElem_mem hn)
          have b0 := bit _ a0.1 a0.2
          have b1 := bit _ a1.1 a1.2
          obtain ⟨fs, ⟨zs, hzl, hzd⟩, fewz, goodz⟩ := id sr.fd
          have hplS := sr.hpl
          refine ⟨_, rfl, .inl ⟨rfl, _, SqL.of hzl⟩, _, rfl, _, rfl, _, rfl, pl, _, _, _, rfl, rfl, SqT.of hplS, at0_get a0.1 a0.2, by show 2 ≤ sizeLine; decide, fun a na => ?_⟩
          have t1 := same_new (o := .tup [.int (i : Int), .int (at0 pr (i : Int))]) na
          refine ⟨_, rfl, _, _, rfl, rfl, _, rfl, _, rfl, _, _, rfl, rfl, pl, _, _, _, rfl, rfl, SqT.of (t1 _ _ hplS), at0_get a1.1 a1.2, _, _, rfl, rfl, by show 2 ≤ sizeLine; decide, fun b nb => ?_⟩
          have t2 := t1.trans (same_new (o := .tup [.int ((i : Int) + 1), .int (1 - at0 pr ((i : Int) + 1))]) nb)
          refine ⟨by show 2 ≤ sizeLine; decide, fun c nc => ?_⟩
          have tc := same_new (o := .tup [.ref a, .ref b]) nc
          have t3 := t2.trans tc
          have sr3 := sr.same t3
          have d3 : Dt (upd (upd (upd H1 a (.tup [.int (i : Int), .int (at0 pr (i : Int))])) b (.tup [.int ((i : Int) + 1), .int (1 - at0 pr ((i : Int) + 1))])) c (.tup [.ref a, .ref b])) (.ref c) (ruleD (((i : Int), at0 pr (i : Int)), ((i : Int) + 1, 1 - at0 pr ((i : Int) + 1)))) :=
            .rule upd_same (tc _ _ ((same_new nb) _ _ upd_same)) (tc _ _ upd_same)
          obtain ⟨ws, hws, lws, sr4⟩ := sr3.app r0 d3 (w6_good hi1 b0 (by omega))
          refine ⟨f', ws, _, rfl, rfl, hws, small1000 (by omega), ?_⟩
          generalize upd (upd (upd (upd H1 a (.tup [.int (i : Int), .int (at0 pr (i : Int))])) b (.tup [.int ((i : Int) + 1), .int (1 - at0 pr ((i : Int) + 1))])) c (.tup [.ref a, .ref b])) f' (.lst (ws ++ [.ref c])) = H5 at sr4 ⊢
          clear hws d3 sr3 t3 tc t2 t1 nc nb na hzl hzd goodz fewz hplS
          clear a b c
          have hplS := sr4.hpl
          refine ⟨_, rfl, _, rfl, _, rfl, _, rfl, pl, _, _, _, rfl, rfl, SqT.of hplS, at0_get a0.1 a0.2, _, _, rfl, rfl, by show 2 ≤ sizeLine; decide, fun a na => ?_⟩
          have t1 := same_new (o := .tup [.int (i : Int), .int (1 - at0 pr (i : Int))]) na
          refine ⟨_, rfl, _, _, rfl, rfl, _, rfl, _, rfl, _, _, rfl, rfl, pl, _, _, _, rfl, rfl, SqT.of (t1 _ _ hplS), at0_get a1.1 a1.2, by show 2 ≤ sizeLine; decide, fun b nb => ?_⟩
          have t2 := t1.trans (same_new (o := .tup [.int ((i : Int) + 1), .int (at0 pr ((i : Int) + 1))]) nb)
          refine ⟨by show 2 ≤ sizeLine; decide, fun c nc => ?_⟩
          have tc := same_new (o := .tup [.ref a, .ref b]) nc
          have d3 : Dt (upd (upd (upd H5 a (.tup [.int (i : Int), .int (1 - at0 pr (i : Int))])) b (.tup [.int ((i : Int) + 1), .int (at0 pr ((i : Int) + 1))])) c (.tup [.ref a, .ref b])) (.ref c) (ruleD (((i : Int), 1 - at0 pr (i : Int)), ((i : Int) + 1, at0 pr ((i : Int) + 1)))) :=
            .rule upd_same (tc _ _ ((same_new nb) _ _ upd_same)) (tc _ _ upd_same)
          have t3 := t2.trans tc
          refine ⟨by show 1 ≤ sizeLine; decide, fun e ne => ?_⟩
          have te := same_new (o := .lst [.ref c]) ne
          have sr5 := sr4.same (t3.trans te)
          have d5 := d3.k (kt_same te)
          obtain ⟨_, hp5⟩ := sr5.ra.lst
          have nep : e ≠ p := fun z => by
            have u := te p
            rw [z] at ne
            have v := (sr4.same t3).ra.lst
            obtain ⟨_, v⟩ := v
            rw [ne] at v
            cases v
          refine ⟨_, rfl, p, s, 3, rfl, sr5.ra, by decide, by decide, fun x H7 x0 x1 b7 r7 => ⟨_, _, rfl, rfl, .inr ⟨_, rfl, ?_⟩⟩⟩
          have sr7 := sr5.but r0 b7 r7
          have d7 := d5.k (b7.kt hp5)
          have he7 := b7 e _ nep upd_same
          obtain ⟨kk, hkk, bk⟩ : ∃ k : Int, k = (if decide ((0 : Int) < x) = true then 1 else 0) ∧ (k = 0 ∨ k = 1) := by
            refine ⟨_, rfl, ?_⟩
            split
            · exact .inr rfl
            · exact .inl rfl
          rw [← hkk]
          obtain ⟨fs7, ⟨zs7, hz7, dz7⟩, few7, _⟩ := id sr7.fd
          have zl7 : zs7.length ≤ 500 := by rw [dz7.length, List.length_map]; omega
          refine ⟨e, kk, [.ref c], rfl, rfl, he7, by omega, by omega, ?_, fun g ng => ?_⟩
          · rcases bk with rfl | rfl
            · show 1 * 0 ≤ sizeLine
              decide
            · show 1 * 1 ≤ sizeLine
              decide
          · have tg := same_new (o := .lst (List.replicate kk.toNat [V.ref c]).flatten) ng
            have sr8 := sr7.same tg
            refine ⟨f', g, zs7, _, rfl, rfl, tg _ _ hz7, upd_same, ?_, fun h nh => ?_⟩
            · rcases bk with rfl | rfl
              · exact Nat.le_of_lt (small1000 (by show zs7.length + 0 ≤ 1000; omega))
              · exact Nat.le_of_lt (small1000 (by show zs7.length + 1 ≤ 1000; omega))
            · refine ⟨h, some (.int (i : Int)), rfl, ?_⟩
              rcases bk with rfl | rfl
              · exact (sr8.cat r0 nh (tg _ _ hz7) [] .nil (fun _ z => by cases z)).le (by show 18 + 2 * i + 1 + 0 ≤ _; omega)
              · exact (sr8.cat r0 nh (tg _ _ hz7) [_] (.cons (d7.k (kt_same tg)) .nil) (fun r z => by rw [List.mem_singleton.mp z]; exact w6_good hi1 (by omega) b1)).le (by show 18 + 2 * i + 1 + 1 ≤ _; omega)
        · obtain ⟨f', v8, rfl, sr⟩ := hP
          exact hN _ _ ⟨f', v7, v8, rfl, sr.le (by omega)⟩
      · exact hN _ _ ⟨f, v7, none, rfl, sr.le (by decide)⟩
    · obtain ⟨f', v7', v8, rfl, sr2⟩ := hI
      obtain ⟨fs, hfs, few, good⟩ := sr2.fd
      refine ⟨_, rfl, f', fs, rfl, hfs, by omega, fun r hr => (good r hr).i.ok (by omega), fun p2 xs ts np dts few2 mem asc => ⟨p2, xs, rfl, .inl ⟨SqL.of upd_same, fun t2 nt2 => ?_⟩⟩⟩
      have t1 := same_new (o := .lst xs) np
      have t3 := same_new (o := .tup xs) nt2
      exact q _ t2 ts (sr2.b.trans (But.of (t1.trans t3))) (sr2.ra.same (t1.trans t3)) ⟨xs, upd_same, dts.k (kt_same (t1.trans t3))⟩ ⟨by omega, by omega, by omega, fun r hr => good r (mem r hr), asc⟩
end
end Mr

/-! Mr.D14: _law_drawn, _law_prices, _law_cost. -/
namespace Mr
open PySem PySem.Spec PyProof.Rows L2
theorem cost_range {ps : List Int} {row : Row} (h : ps.length = row.length) : (List.range row.length).map (fun i : Nat => at0 ps (i : Int) * at0 row (i : Int)) = (ps.zip row).map fun z => z.1 * z.2 := by
  refine List.ext_getElem (by simp [h]) fun i h1 h2 => ?_
  have hi : i < row.length := by simpa using h1
  have hp : i < ps.length := by omega
  have e : ∀ (r : Row) (hr : i < r.length), at0 r (i : Int) = r[i] := fun r hr => by
    unfold at0
    rw [Int.toNat_natCast, List.getD_eq_getElem?_getD, List.getElem?_eq_getElem hr]
    rfl
  rw [List.getElem_map, List.getElem_map, List.getElem_range, List.getElem_zip, e ps hp, e row hi]
def menu : List Want := [(0, 4), (0, 2), (0, 50), (-3, 3), (-50, 50), (1, 1)]
theorem menu_ok : ∀ u ∈ menu, -50 ≤ u.1 ∧ u.1 ≤ u.2 ∧ u.2 ≤ 50 := by decide
section
variable {P : Program} {w : World} {K : PySem.W.Frag} {mg : Str → Option Value} {base : Heap}
theorem ok_law_cost (T : Prog K mg) : FnOk P w K mg base CX0 1 T.dLCost.f T.dLCost.fd ["_law_prices_here", "_law_row"] spCostOf := by
  refine T.dLCost.F.ok scLCost (fun vs H Q E h => ?_) (fun cdv A outer s H vs Q E hr h => ?_)
  · obtain ⟨_, _, _, _, rfl, _⟩ := h
    rfl
  · obtain ⟨x, y, ps, row, rfl, hx, hy, hl, h8, hb, q⟩ := h
    obtain ⟨a, rfl, ha⟩ := hx.of_row
    obtain ⟨b, rfl, hb'⟩ := hy.of_row
    refine ⟨_, pss_one (ps_ret (pe_callB (cr_sum rfl) (by rfl) T.z_sum (by decide +kernel) (pa_cons (pe_lc (own := [("_law_at", 2)]) (g := gName 2) (tt := tYes) (te := tOp (rI CMul fun i j => .int (i * j)) (tOp (rIxT K) (tVar 0) (tVar 2)) (tOp (rIxT K) (tVar 1) (tVar 2))) rfl scLCost.nd (pi_range1 (by rfl) T.z_range (pa_cons (pe_callB call_len_seq (by rfl) T.z_len PySem.boot_len (pa_cons (pv 1) pa_nil)) pa_nil)) (blkOk_by (N := nLCost) (sc := defScope sLCost) (by decide +kernel))
          (fun _ _ _ _ _ => pg_name (i := 2) scLCost.nd rfl (Or.inl rfl)) (fun _ _ _ _ _ => pts_nil) (fun _ _ _ _ _ => pe_op op_mul (pe_ix ix_tup (pv 0) (pv 2) (fun _ _ => rfl)) (pe_ix ix_tup (pv 1) (pv 2) (fun _ _ => rfl)))) pa_nil))), ?_⟩
    refine ⟨_, rfl, b, row.map V.int, rfl, .inr (SqT.of hb'), ((row.map V.int).length : Int), rfl, ?_, ?_, fun D hD => ?_⟩
    · omega
    · rw [List.length_map]
      omega
    refine lc_dt (walk_range (lo := 0) (n := (((row.map V.int).length : Nat) : Int).toNat)) (List.range row.length) (fun _ => true) (fun i : Nat => .int (at0 ps (i : Int) * at0 row (i : Int))) (by rw [List.length_range, Int.toNat_natCast, List.length_map]) (by rw [List.length_range]; exact small1000 (by omega)) hD (fun _ _ => True.intro) (fun i j v H1 H1' Yes No hu sm yy yes no => ?_) (fun H1 zs sm hzs dz => ?_)
    · obtain ⟨rfl, rfl⟩ := yy
      obtain ⟨hi, e⟩ := List.getElem?_eq_some_iff.mp hu
      rw [List.length_range] at hi
      rw [List.getElem_range] at e
      subst e
      have h0 : (0 : Int) + (i : Nat) = (i : Int) := by omega
      show gName 2 (V.int ((0 : Int) + (i : Nat))) _ _ _
      rw [h0]
      have hbit : at0 row (i : Int) = 0 ∨ at0 row (i : Int) = 1 := by
        have e : at0 row (i : Int) = row[i] := by
          unfold at0
          rw [Int.toNat_natCast, List.getD_eq_getElem?_getD, List.getElem?_eq_getElem hi]
          rfl
        rw [e]
        exact hb _ (List.getElem_mem hi)
      refine ⟨rfl, _, rfl, _, rfl, a, _, _, _, rfl, rfl, SqT.of (sm _ _ ha), at0_get (by omega) (by omega), _, rfl, _, rfl, b, _, _, _, rfl, rfl, SqT.of (sm _ _ hb'), at0_get (by omega) (by omega), _, _, rfl, rfl, .inr ⟨by omega, by omega⟩, ?_⟩
      exact yes rfl _ _ (Same.refl _) (.int _)
    · rw [List.filter_eq_self.mpr (fun _ _ => rfl)] at dz
      have e : zs = ((ps.zip row).map fun z => z.1 * z.2).map V.int := by
        rw [← cost_range hl]
        exact Da.of_ints (H := H1) (by rw [List.map_map]; exact dz)
      subst e
      exact ⟨D, _, rfl, SqL.of hzs, q _ sm⟩

def spLDrawn (K : PySem.W.Frag) : Sp := fun vs H Q _ => ∃ (p s : Addr), vs = [.ref p, .int 7] ∧ RowAt K H p s ∧ ∀ H' u t (m : Nat) rs, But p H H' → RowAt K H' p s → H' u = some (.tup [.int (m : Int), .ref t]) → m ≤ 7 → Tp H' t (rs.map ruleD) → RsGood (m : Int) rs → Q (.ref u) H'
theorem ok_law_drawn (T : Prog K mg) : FnOk P w K mg base CX0 4 T.dLDrawn.f T.dLDrawn.fd ["_law_row", "_law_most"] (spLDrawn K) := by
  have GT : FnOk P w K mg base CX0 1 T.dLTaken.f T.dLTaken.fd ["_law_row", "_law_many"] (spTaken K) := ok_taken T
  have GS : FnOk P w K mg base CX0 3 T.dLSomeRules.f T.dLSomeRules.fd ["_law_row", "_law_many"] (spLSomeRules K) := ok_law_some_rules T
  refine T.dLDrawn.F.ok scLDrawn (fun vs H Q E h => ?_) (fun cdv A outer s0 H vs Q E hr h => ?_)
  · obtain ⟨_, _, rfl, _⟩ := h
    rfl
  · obtain ⟨p, s, rfl, r0, q⟩ := h
    have hr1 : Room 1 _ := hr.mono (by decide)
    refine ⟨_, pss_cons (ps_set (i := 2) scLDrawn.nd rfl (.inl rfl) (pe_op op_add pe_int (pe_call GT hr1 (by rfl) T.dLTaken.g T.dLTaken.kp T.dLTaken.b .nil pass0 (pa_cons (pv 0) (pa_cons (pv 1) pa_nil)))))
      (pss_one (ps_ret (pe_tup (pa_cons (pv 2) (pa_cons (pe_call GS hr (by rfl) T.dLSomeRules.g T.dLSomeRules.kp T.dLSomeRules.b .nil pass0 (pa_cons (pv 0) (pa_cons (pv 2) pa_nil))) pa_nil))))), ?_⟩
    refine ⟨_, rfl, _, rfl, p, s, 7, rfl, r0, by decide, by decide, fun x H1 x0 x1 b1 r1 => ⟨1, x, rfl, rfl, ?_⟩⟩
    obtain ⟨m, hm⟩ : ∃ m : Nat, 1 + x = (m : Int) := ⟨(1 + x).toNat, by omega⟩
    show gName 2 (V.int (1 + x)) _ _ _
    rw [hm]
    refine ⟨_, rfl, _, rfl, _, rfl, p, s, m, rfl, r1, by omega, by omega, fun H2 t rs b2 r2 ht g => ⟨by show 2 ≤ sizeLine; decide, fun u nu => ?_⟩⟩
    have t1 := same_new (o := .tup [.int (m : Int), .ref t]) nu
    exact q _ u t m rs ((b1.trans b2).trans (But.of t1)) (r2.same t1) upd_same (by omega) (ht.same t1) g

def spLPrices (K : PySem.W.Frag) : Sp := fun vs H Q _ => ∃ (p s : Addr) (m : Nat), vs = [.ref p, .int (m : Int)] ∧ RowAt K H p s ∧ m ≤ 8 ∧ ∀ H' t ps, But p H H' → RowAt K H' p s → H' t = some (.tup (ps.map V.int)) → PGood m ps → Q (.ref t) H'
theorem ok_law_prices (T : Prog K mg) : FnOk P w K mg base CX0 3 T.dLPrices.f T.dLPrices.fd ["_law_row", "_law_many"] (spLPrices K) := by
  have GT : FnOk P w K mg base CX0 1 T.dLTaken.f T.dLTaken.fd ["_law_row", "_law_many"] (spTaken K) := ok_taken T
  have GP : FnOk P w K mg base CX0 2 T.dLPick.f T.dLPick.fd ["_law_row", "_law_things"] (spPick K) := ok_pick T
  have nd := scLPrices.nd
  refine T.dLPrices.F.ok scLPrices (fun vs H Q E h => ?_) (fun cdv A outer s0 H vs Q E hr h => ?_)
  · obtain ⟨_, _, _, rfl, _⟩ := h
    rfl
  · obtain ⟨p, s, m, rfl, r0, m8, q⟩ := h
    have hr1 : Room 1 _ := hr.mono (by decide)
    refine ⟨_, pss_cons (ps_asg (pe_call GP hr (by rfl) T.dLPick.g T.dLPick.kp T.dLPick.b .nil pass0 (pa_cons (pv 0) (pa_cons (pe_lst
          (pa_cons (pe_tup (pa_cons pe_int (pa_cons pe_int pa_nil))) (pa_cons (pe_tup (pa_cons pe_int (pa_cons pe_int pa_nil))) (pa_cons (pe_tup (pa_cons pe_int (pa_cons pe_int pa_nil)))
          (pa_cons (pe_tup (pa_cons (pe_un un_neg pe_int) (pa_cons pe_int pa_nil))) (pa_cons (pe_tup (pa_cons (pe_un un_neg pe_int) (pa_cons pe_int pa_nil))) (pa_cons (pe_tup (pa_cons pe_int (pa_cons pe_int pa_nil))) pa_nil))))))) pa_nil)))
          (pg_tup rfl (pgs_cons (pg_name (i := 2) nd rfl (.inr rfl)) (pgs_cons (pg_name (i := 3) nd rfl (.inr rfl)) pgs_nil))))
      (pss_one (ps_ret (pe_callTy call_tuple_of (by rfl) T.z_tuple (by decide +kernel) (pa_cons (pe_lc (own := [("_law_place", 4)]) (g := gName 4) (tt := tYes)
          (te := tOp (rI0 fun i j => .int (i + j)) (tVar 2) (tCall (spTaken K) [] E0 (tCons (tVar 0) (tCons (tOp (rI0 fun i j => .int (i + j)) (tOp (rI0 fun i j => .int (i - j)) (tVar 3) (tVar 2)) (tC (.int 1))) tNil)))) rfl nd (pi_range1 (by rfl) T.z_range (pa_cons (pv 1) pa_nil)) (blkOk_by (N := nLPrices) (sc := defScope sLPrices) (by decide +kernel))
          (fun _ _ _ _ _ => pg_name (i := 4) nd rfl (Or.inl rfl)) (fun _ _ _ _ _ => pts_nil) (fun _ _ _ _ _ => pe_op op_add (pv 2) (pe_call GT hr1 (by rfl) T.dLTaken.g T.dLTaken.kp T.dLTaken.b .nil pass0 (pa_cons (pv 0) (pa_cons (pe_op op_add (pe_op op_sub (pv 3) (pv 2)) pe_int) pa_nil))))) pa_nil)))), ?_⟩
    have two : 2 ≤ sizeLine := by decide
    refine ⟨_, rfl, two, fun a1 n1 => ⟨two, fun a2 n2 => ⟨two, fun a3 n3 => ⟨3, rfl, two, fun a4 n4 => ⟨50, rfl, two, fun a5 n5 => ⟨two, fun a6 n6 => ⟨by show 6 ≤ sizeLine; decide, fun e ne => ?_⟩⟩⟩⟩⟩⟩⟩
    have t1 := same_new (o := .tup [.int 0, .int 4]) n1
    have t2 := same_new (o := .tup [.int 0, .int 2]) n2
    have t3 := same_new (o := .tup [.int 0, .int 50]) n3
    have t4 := same_new (o := .tup [.int (-3), .int 3]) n4
    have t5 := same_new (o := .tup [.int (-50), .int 50]) n5
    have t6 := same_new (o := .tup [.int 1, .int 1]) n6
    have te := same_new (o := .lst [.ref a1, .ref a2, .ref a3, .ref a4, .ref a5, .ref a6]) ne
    have tt := (((((t1.trans t2).trans t3).trans t4).trans t5).trans t6).trans te
    have r1 := r0.same tt
    have he := (r0.same ((((((t1.trans t2).trans t3).trans t4).trans t5).trans t6))).lst
    obtain ⟨_, he⟩ := he
    have nep : e ≠ p := (ne_of_none he ne).symm
    have dm : Da _ [.ref a1, .ref a2, .ref a3, .ref a4, .ref a5, .ref a6] (menu.map wantD) :=
      .cons (Dt.want (w := (0, 4)) (te _ _ (t6 _ _ (t5 _ _ (t4 _ _ (t3 _ _ (t2 _ _ upd_same)))))))
      (.cons (Dt.want (w := (0, 2)) (te _ _ (t6 _ _ (t5 _ _ (t4 _ _ (t3 _ _ upd_same))))))
      (.cons (Dt.want (w := (0, 50)) (te _ _ (t6 _ _ (t5 _ _ (t4 _ _ upd_same)))))
      (.cons (Dt.want (w := (-3, 3)) (te _ _ (t6 _ _ (t5 _ _ upd_same))))
      (.cons (Dt.want (w := (-50, 50)) (te _ _ (t6 _ _ upd_same)))
      (.cons (Dt.want (w := (1, 1)) (te _ _ upd_same)) .nil)))))
    refine ⟨p, s, e, _, rfl, r1, upd_same, nep, List.cons_ne_nil _ _, by show 6 ≤ 1000; decide, fun x H2 hx b2 r2 => ?_⟩
    obtain ⟨ix, hix⟩ := List.mem_iff_getElem?.mp hx
    obtain ⟨dd, hd, hdt⟩ := dm.got hix
    obtain ⟨u, hu, rfl⟩ := List.mem_map.mp (List.mem_of_getElem? hd)
    obtain ⟨c, rfl, hc⟩ := (hdt.k (b2.kt r1.lst.choose_spec)).of_want
    obtain ⟨lo, mid, hi⟩ := menu_ok u hu
    refine ⟨c, _, rfl, SqT.of hc, rfl, _, _, rfl, _, _, rfl, rfl, ?_⟩
    refine ⟨_, rfl, (m : Int), rfl, by omega, by omega, fun D hD => lc_range (lo := 0) (n := (m : Int).toNat) (fun i H' => But p H2 H' ∧ RowAt K H' p s ∧ ∃ ns : List Int, H' D = some (.lst (ns.map V.int)) ∧ ns.length = i ∧ ∀ n ∈ ns, -50 ≤ n ∧ n ≤ 50) ⟨but_new hD, r2.young r2 hD, [], upd_same, rfl, fun _ z => by cases z⟩ (fun i H3 hi3 hP => ?_) (fun H3 hP => ?_)⟩
    · obtain ⟨b3, r3, ns, hns, ln, bn⟩ := hP
      refine ⟨rfl, _, rfl, _, rfl, _, rfl, _, rfl, _, _, rfl, rfl, _, _, rfl, rfl, p, s, u.2 - u.1 + 1, rfl, r3, by omega, by omega, fun y H4 y0 y1 b4 r4 => ⟨_, _, rfl, rfl, ?_⟩⟩
      have nD : D ≠ p := (ne_of_none r2.lst.choose_spec hD).symm
      refine ⟨ns.map V.int, b4 D _ nD hns, ?_, but_young (b3.trans b4) hD, r2.young r4 hD, ns ++ [u.1 + y], ?_, by rw [List.length_append, ln]; rfl, fun n hn => ?_⟩
      · rw [List.length_map, ln]
        exact small1000 (by omega)
      · rw [upd_same, List.map_append]
        rfl
      · rcases List.mem_append.mp hn with z | z
        · exact bn n z
        · rw [List.mem_singleton.mp z]
          omega
    · obtain ⟨b3, r3, ns, hns, ln, bn⟩ := hP
      refine ⟨D, _, rfl, .inl ⟨SqL.of hns, fun t nt => ?_⟩⟩
      have t1 := same_new (o := .tup (ns.map V.int)) nt
      exact q _ t ns ((((But.of tt).trans b2).trans b3).trans (But.of t1)) (r3.same t1) upd_same ⟨by rw [ln]; exact Int.toNat_natCast m, fun n hn => (bn n hn).1, fun n hn => (bn n hn).2⟩
end
end Mr

/-! Mr.D15: law. -/
namespace Mr
open PySem PySem.Spec PyProof.Rows L2
/-- an assignment whose ways meet behind it -/
theorem asg_join {te : TE} {g : TG} {t2 : TS} {D : Ends} {σ : L2.St} {H : Hp} (I : L2.St → Hp → Prop) (h1 : ∀ N : L2.St → Hp → Prop, (∀ σ H, I σ H → N σ H) → tAsg te g { D with nx := N } σ H) (h2 : ∀ σ H, I σ H → t2 D σ H) : tSeq (tAsg te g) t2 D σ H := h1 _ h2
theorem same_make {H1 H' : Hp} {x dx : Addr} {o1 o2 : HO} (hx : H1 x = none) (hd : H1 dx = none) (b : But x (upd (upd H1 dx o1) x o2) H') : Same H1 H' := fun c u e => b c u (ne_of_none e hx) (by rw [upd_ne (ne_of_none e hx), upd_ne (ne_of_none e hd)]; exact e)
theorem shaped_costs' (cs : List (Int × Row)) : PyData.canLayAll0 (cs.map costD) = true ∧ PyData.depthAll (cs.map costD) ≤ 2 := by
  induction cs with
  | nil => exact ⟨rfl, Nat.zero_le _⟩
  | cons c cs ih =>
    refine ⟨?_, ?_⟩
    · show ((PyData.canLayAll0 (c.2.map .int) && true) && PyData.canLayAll0 (cs.map costD)) = true
      rw [ih.1, (shaped_ints c.2).1]
      rfl
    · show max (max 0 (max (PyData.depthAll (c.2.map .int) + 1) 0) + 1) (PyData.depthAll (cs.map costD)) ≤ 2
      rw [(shaped_ints c.2).2]
      exact Nat.max_le.mpr ⟨by decide, ih.2⟩
theorem shaped_costs (cs : List (Int × Row)) : SeqAt.shaped (.list (cs.map costD)) = true := by
  show (PyData.canLayAll0 (cs.map costD) && decide (PyData.depthAll (cs.map costD) + 1 ≤ 64)) = true
  rw [(shaped_costs' cs).1, decide_eq_true (by have := (shaped_costs' cs).2; omega)]
  rfl
theorem depth_cost (c : Int × Row) : (costD c).depth = 2 := by
  show max 0 (max (PyData.depthAll (c.2.map .int) + 1) 0) + 1 = 2
  rw [(shaped_ints c.2).2]
  rfl
theorem depth_rows (rs : List Row) : (PyData.list (rs.map rowD)).depth ≤ 2 := by
  show PyData.depthAll (rs.map rowD) + 1 ≤ 2
  have := (shaped_rows rs).2
  omega
theorem wd_ints : ∀ ns : List Int, wdAll (ns.map .int) = 0
  | [] => rfl
  | n :: ns => by
    show max (wd (.int n)) (wdAll (ns.map .int)) = 0
    rw [wd_ints ns]
    rfl
theorem wd_row (r : Row) : wd (rowD r) = r.length := by
  show wd (.tuple (r.map .int)) = _
  rw [wd, wd_ints, List.length_map]
  omega
theorem wd_cost (c : Int × Row) (h : c.2.length ≤ 8) : wd (costD c) ≤ 1000 := by
  show wd (.tuple [.int c.1, rowD c.2]) ≤ 1000
  rw [wd, wdAll, wdAll, wdAll, wd_row]
  show max 2 (max 0 (max c.2.length 0)) ≤ 1000
  omega
theorem wd_rowsA : ∀ {rs : List Row}, (∀ r ∈ rs, r.length ≤ 8) → wdAll (rs.map rowD) ≤ 8
  | [], _ => Nat.zero_le _
  | r :: rs, h => by
    show max (wd (rowD r)) (wdAll (rs.map rowD)) ≤ 8
    rw [wd_row]
    exact Nat.max_le.mpr ⟨h r List.mem_cons_self, wd_rowsA fun q hq => h q (List.mem_cons_of_mem _ hq)⟩
theorem wd_rows {rs : List Row} (h : ∀ r ∈ rs, r.length ≤ 8) (k : rs.length ≤ 1000) : wd (.list (rs.map rowD)) ≤ 1000 := by
  rw [wd, List.length_map]
  have := wd_rowsA h
  omega
theorem exists_min : ∀ {ns : List Int}, ns ≠ [] → ∃ mn, IsMin ns mn
  | [], h => absurd rfl h
  | x :: xs, _ => by
    by_cases hx : xs = []
    · subst hx
      exact ⟨x, List.mem_cons_self, fun y hy => by rw [List.mem_singleton.mp hy]; exact Int.le_refl _⟩
    · obtain ⟨y, h1, h2⟩ := exists_min hx
      by_cases hxy : x ≤ y
      · exact ⟨x, List.mem_cons_self, fun z hz => by
          rcases List.mem_cons.mp hz with e | e
          · rw [e]; exact Int.le_refl _
          · exact Int.le_trans hxy (h2 z e)⟩
      · exact ⟨y, List.mem_cons_of_mem _ h1, fun z hz => by
          rcases List.mem_cons.mp hz with e | e
          · rw [e]; omega
          · exact h2 z e⟩
section
variable {P : Program} {w : World} {K : PySem.W.Frag} {mg : Str → Option Value} {base : Heap}
def dueOf (ps : List Int) (kr : List Row) : PyData := match costsL ps kr with
  | [] => .none
  | c :: _ => .list ((bestOf ps kr c.1).map rowD)
def spLaw (K : PySem.W.Frag) : Sp := fun vs H Q _ => ∃ (a : Addr) (ns : List Int), vs = [.ref a] ∧ SqL K H a (ns.map V.int) ∧ ns.length ≤ 63 ∧ ∀ H', Q (.bl true) H'
theorem ok_law (T : Prog K mg) : FnOk P w K mg base CX0 7 T.dLaw.f T.dLaw.fd ["_law_script"] (spLaw K) := by
  have GD : FnOk P w K mg base CX0 4 T.dLDrawn.f T.dLDrawn.fd ["_law_row", "_law_most"] (spLDrawn K) := ok_law_drawn T
  have GI : FnOk P w K mg base CX0 4 T.fI T.fdI ["self", "many", "rules"] (spInit T.C) := ok_init T
  have GKt : FnOk P w K mg base CX0 2 T.dLKept.f T.dLKept.fd ["_law_many", "_law_rules"] spLKept := ok_law_kept T
  have GP : FnOk P w K mg base CX0 3 T.dLPrices.f T.dLPrices.fd ["_law_row", "_law_many"] (spLPrices K) := ok_law_prices T
  have GC : FnOk P w K mg base CX0 1 T.dLCost.f T.dLCost.fd ["_law_prices_here", "_law_row"] spCostOf := ok_law_cost T
  have GA : FnOk P w K mg base CX0 3 T.dLAlike.f T.dLAlike.fd ["_law_found", "_law_due"] (spAlike 2) := ok_alike T 2
  have GT : FnOk P w K mg base CX0 1 T.dLTaken.f T.dLTaken.fd ["_law_row", "_law_many"] (spTaken K) := ok_taken T
  have GH : FnOk P w K mg base CX0 6 T.dCheapest.f T.dCheapest.fd ["rules", "prices"] (spCheapest T.C) := ok_cheapest T
  have GL : FnOk P w K mg base CX0 6 T.dAllCheapest.f T.dAllCheapest.fd ["rules", "prices"] (spAllCheapest T.C) := ok_all_cheapest T
  have GO : FnOk P w K mg base CX0 5 T.dDearestOne.f T.dDearestOne.fd ["rules", "prices", "place"] (spDearestOne T.C) := ok_dearest_one T
  have nd := scLaw.nd
  refine T.dLaw.F.ok scLaw (fun vs H Q E h => ?_) (fun cdv A outer s0 H vs Q E hr h => ?_)
  · obtain ⟨_, _, rfl, _⟩ := h
    rfl
  · obtain ⟨sc, ns, rfl, hS, hn, q⟩ := h
    have hr1 : Room 1 _ := hr.mono (by decide)
    have hr2 : Room 2 _ := hr.mono (by decide)
    have hr3 : Room 3 _ := hr.mono (by decide)
    have hr4 : Room 4 _ := hr.mono (by decide)
    have hr5 : Room 5 _ := hr.mono (by decide)
    refine ⟨_, pss_cons (ps_set (i := 1) nd rfl (.inl rfl) (pe_lst (pa_cons (pv 0) (pa_cons pe_int (pa_cons pe_int (pa_cons pe_int pa_nil))))))
      (pss_cons (ps_asg (pe_call GD hr4 (by rfl) T.dLDrawn.g T.dLDrawn.kp T.dLDrawn.b .nil pass0 (pa_cons (pv 1) (pa_cons pe_int pa_nil))) (pg_tup rfl (pgs_cons (pg_name (i := 2) nd rfl (.inl rfl)) (pgs_cons (pg_name (i := 3) nd rfl (.inl rfl)) pgs_nil))))
      (pss_cons (ps_par (i := 4) (j := 5) (by rfl) nd rfl rfl (by decide) rfl rfl (pa_cons (pe_make T.M GI hr5 (by rfl) T.gC T.bI .nil pass0 (pa_cons (pv 2) (pa_cons (pv 3) pa_nil))) (pa_cons (pe_call GKt hr2 (by rfl) T.dLKept.g T.dLKept.kp T.dLKept.b .nil pass0 (pa_cons (pv 2) (pa_cons (pv 3) pa_nil))) pa_nil)) (by rfl))
      (pss_cons (ps_set (i := 6) nd rfl (.inr rfl) (pe_call GP hr3 (by rfl) T.dLPrices.g T.dLPrices.kp T.dLPrices.b .nil pass0 (pa_cons (pv 1) (pa_cons (pv 2) pa_nil))))
      (pss_cons (ps_set (i := 7) nd rfl (.inr rfl) (pe_callB (cr_sortDt (enc := costD) hr.units) (by rfl) T.z_sorted (by decide +kernel) (pa_cons (pe_lc (own := [("_law_one", 14)]) (g := gName 14) (tt := tYes) (te := tTup (tCons (tCall spCostOf [] E0 (tCons (tVar 6) (tCons (tVar 14) tNil))) (tCons (tVar 14) tNil))) rfl nd (pi_list (pv 5)) (blkOk_by (N := nLaw) (sc := defScope sLaw) (by decide +kernel))
          (fun _ _ _ _ _ => pg_name (i := 14) nd rfl (Or.inl rfl)) (fun _ _ _ _ _ => pts_nil) (fun _ _ _ _ _ => pe_tup (pa_cons (pe_call GC hr1 (by rfl) T.dLCost.g T.dLCost.kp T.dLCost.b .nil pass0 (pa_cons (pv 6) (pa_cons (pv 14) pa_nil))) (pa_cons (pv 14) pa_nil)))) pa_nil)))
      (pss_cons (ps_if (pt_not (pt_val (pe_call GA hr3 (by rfl) T.dLAlike.g T.dLAlike.kp T.dLAlike.b .nil pass0 (pa_cons (pe_call GH hr (by rfl) T.dCheapest.g T.dCheapest.kp T.dCheapest.b .nil pass0 (pa_cons (pv 4) (pa_cons (pv 6) pa_nil)))
          (pa_cons (pe_ifExp (pt_cmpR (op_neD hr.units) (pv 7) (pe_lst pa_nil) (nomark _)) (pe_ix ix_list (pv 7) pe_int (fun _ _ => rfl)) pe_non) pa_nil))))) pss_never pss_nil)
      (pss_cons (ps_set (i := 8) nd rfl (.inl rfl) (pe_ifExp (pt_cmpR (op_neD hr.units) (pv 7) (pe_lst pa_nil) (nomark _)) (pe_lc (own := [("_law_cost_here", 15), ("_law_one", 14)]) (g := gTup K 2 (gCons (gName 15) (gCons (gName 14) gNil))) (tt := tTest (tOp rEq (tVar 15) (tOp (rIxT K) (tOp (rIxL K) (tVar 7) (tC (.int 0))) (tC (.int 0))))) rfl nd (pi_list (pv 7)) (blkOk_by (N := nLaw) (sc := defScope sLaw) (by decide +kernel))
          (fun _ _ _ _ _ => pg_tup rfl (pgs_cons (pg_name (i := 15) nd rfl (Or.inl rfl)) (pgs_cons (pg_name (i := 14) nd rfl (Or.inl rfl)) pgs_nil))) (fun _ _ _ _ _ => pts_one (pt_cmpR op_eq (pv 15) (pe_ix ix_tup (pe_ix ix_list (pv 7) pe_int (fun _ _ => rfl)) pe_int (fun _ _ => rfl)) (nomark _))) (fun _ _ _ _ _ => pv 14)) pe_non))
      (pss_cons (ps_if (pt_not (pt_val (pe_call GA hr3 (by rfl) T.dLAlike.g T.dLAlike.kp T.dLAlike.b .nil pass0 (pa_cons (pe_call GL hr (by rfl) T.dAllCheapest.g T.dAllCheapest.kp T.dAllCheapest.b .nil pass0 (pa_cons (pv 4) (pa_cons (pv 6) pa_nil))) (pa_cons (pv 8) pa_nil))))) pss_never pss_nil)
      (pss_cons (ps_for PassesOwn.never rfl (pi_list (pe_lst (pa_cons (pe_call GT hr1 (by rfl) T.dLTaken.g T.dLTaken.kp T.dLTaken.b .nil pass0 (pa_cons (pv 1) (pa_cons (pv 2) pa_nil))) (pa_cons (pe_call GT hr1 (by rfl) T.dLTaken.g T.dLTaken.kp T.dLTaken.b .nil pass0 (pa_cons (pv 1) (pa_cons (pv 2) pa_nil))) pa_nil)))) (pg_name (i := 9) nd rfl (.inr rfl))
        (pss_cons (ps_set (i := 10) nd rfl (.inr rfl) (pe_op op_catC (pe_op op_catC (pe_slice sl_tupC (pv 6) po_none (po_some (pv 9))) (pe_tup (pa_cons pe_int pa_nil))) (pe_slice sl_tupC (pv 6) (po_some (pe_op op_add (pv 9) pe_int)) po_none)))
        (pss_cons (ps_set (i := 11) nd rfl (.inr rfl) (pe_lc (own := [("_law_one", 14)]) (g := gName 14) (tt := tTest (tOp rEq (tOp (rIxT K) (tVar 14) (tVar 9)) (tC (.int 1)))) rfl nd (pi_list (pv 5)) (blkOk_by (N := nLaw) (sc := defScope sLaw) (by decide +kernel))
          (fun _ _ _ _ _ => pg_name (i := 14) nd rfl (Or.inl rfl)) (fun _ _ _ _ _ => pts_one (pt_cmpR op_eq (pe_ix ix_tup (pv 14) (pv 9) (fun _ _ => rfl)) pe_int (nomark _))) (fun _ _ _ _ _ => pe_call GC hr1 (by rfl) T.dLCost.g T.dLCost.kp T.dLCost.b .nil pass0 (pa_cons (pv 10) (pa_cons (pv 14) pa_nil)))))
        (pss_cons (ps_set (i := 12) nd rfl (.inr rfl) (pe_lc (own := [("_law_one", 14)]) (g := gName 14) (tt := tTest (tOp rEq (tOp (rIxT K) (tVar 14) (tVar 9)) (tC (.int 0)))) rfl nd (pi_list (pv 5)) (blkOk_by (N := nLaw) (sc := defScope sLaw) (by decide +kernel))
          (fun _ _ _ _ _ => pg_name (i := 14) nd rfl (Or.inl rfl)) (fun _ _ _ _ _ => pts_one (pt_cmpR op_eq (pe_ix ix_tup (pv 14) (pv 9) (fun _ _ => rfl)) pe_int (nomark _))) (fun _ _ _ _ _ => pe_call GC hr1 (by rfl) T.dLCost.g T.dLCost.kp T.dLCost.b .nil pass0 (pa_cons (pv 10) (pa_cons (pv 14) pa_nil)))))
        (pss_cons (ps_setLc (i := 13) (own := [("_law_price", 16)]) (g := gName 16) (tt := tAnd (tTest (tOp (rNeD K) (tVar 11) (tLst tNil))) (tTest (tOp (rI0 fun i j => .bl (decide (i ≤ j))) (tOp (rI0 fun i j => .int (i + j)) (tCB (rMin K) (tCons (tVar 11) tNil)) (tVar 16)) (tCB (rMin K) (tCons (tOp rCat (tVar 12) (tLst (tCons (tOp (rI CPow fun i j => .int (i ^ j.toNat)) (tC (.int 10)) (tC (.int 6))) tNil))) tNil)))))
          rfl nd rfl rfl (sw_true rfl rfl rfl (by decide +kernel)) (pi_range2 (by rfl) T.z_range (pa_cons (pe_un un_neg pe_int) (pa_cons pe_int pa_nil))) (blkOk_by (N := nLaw) (sc := defScope sLaw) (by decide +kernel))
          (fun _ _ _ _ _ => pg_name (i := 16) nd rfl (Or.inl rfl))
          (fun _ _ _ _ _ => pts_one (PW.pt (pw_and (pt_cmpR (op_neD hr.units) (pv 11) (pe_lst pa_nil) (nomark _)) (pw_and1 (pt_cmpR op_le (pe_op op_add (pe_callB (cr_min rfl) (by rfl) T.z_min (by decide +kernel) (pa_cons (pv 11) pa_nil)) (pv 16)) (pe_callB (cr_min rfl) (by rfl) T.z_min (by decide +kernel) (pa_cons (pe_op op_cat (pv 12) (pe_lst (pa_cons (pe_op op_pow pe_int pe_int) pa_nil))) pa_nil)) (nomark _))))))
          (fun _ _ _ _ _ => pv 16))
        (pss_one (ps_if (pt_not (pt_val (pe_call GA hr3 (by rfl) T.dLAlike.g T.dLAlike.kp T.dLAlike.b .nil pass0 (pa_cons (pe_call GO hr5 (by rfl) T.dDearestOne.g T.dDearestOne.kp T.dDearestOne.b .nil pass0 (pa_cons (pv 4) (pa_cons (pv 6) (pa_cons (pv 9) pa_nil))))
          (pa_cons (pe_ifExp (pt_cmpR (op_neD hr.units) (pv 13) (pe_lst pa_nil) (nomark _)) (pe_ix ix_list (pv 13) (pe_un un_neg pe_int) (fun _ _ => rfl)) pe_non) pa_nil))))) pss_never pss_nil)))))))
      (pss_one (ps_ret pe_bl)))))))))), ?_⟩
    refine ⟨_, rfl, by show 4 ≤ sizeLine; decide, fun p np => ?_⟩
    have s1 := same_new (o := .lst [.ref sc, .int 0, .int 2769, .int 0]) np
    have r1 : RowAt K (upd H p (.lst [.ref sc, .int 0, .int 2769, .int 0])) p sc := by
      refine ⟨ns, 0, 2769, 0, upd_same, s1.seq hS, ?_, Int.le_refl _⟩
      rcases hS with (h | ⟨_, h⟩) | h
      · exact .inl (ne_of_none h np)
      · exact .inl (ne_of_none h np)
      · exact .inr fun _ => .inr h
    refine ⟨_, rfl, p, sc, rfl, r1, fun H2 u t m rs b2 r2 hu m7 ht g => ?_⟩
    refine ⟨u, _, rfl, SqT.of hu, rfl, _, _, rfl, _, _, rfl, rfl, ?_⟩
    have m1 : 1 ≤ m := by have := g.lo; omega
    refine ⟨_, rfl, _, rfl, fun a dx na nd' nex => ?_⟩
    have s23 : Same H2 (upd (upd H2 dx (.own a)) a (.ins T.C dx [])) := fun b o e => by
      rw [upd_ne (ne_of_none e na), upd_ne (ne_of_none e nd')]
      exact e
    refine ⟨a, dx, t, (m : Int), rs, rfl, upd_same, ht.same s23, g, fun H3 b3 ra3 => ⟨rfl, ?_⟩⟩
    have s3 : Same H2 H3 := same_make na nd' b3
    refine ⟨_, rfl, _, rfl, t, m, rs, rfl, m1, by omega, ht.same s3, fun r hr => (g.good r hr).i, fun H4 lr s4 nlr hlr => ⟨_, _, rfl, ?_⟩⟩
    have r4 := r2.same (s3.trans s4)
    obtain ⟨_, hp4⟩ := id r4.lst
    have nlp : lr ≠ p := (ne_of_none (r2.same s3).lst.choose_spec nlr).symm
    refine ⟨_, rfl, _, rfl, p, sc, m, rfl, r4, by omega, fun H5 tp ps b5 r5 htp pg => ?_⟩
    have pa5 : PArgs T.C H5 a tp m rs ps := ⟨(ra3.same s4).but b5 hp4, g, htp, pg⟩
    have hlr5 := b5.ls hp4 nlp hlr
    have krow : ∀ r ∈ keptRows m rs, ps.length = r.length ∧ r.length ≤ 8 ∧ Bits r := fun r hr => by
      have z := kept_mem hr
      exact ⟨by rw [pg.len, z.1], by rw [z.1]; omega, z.2⟩
    have kfew := kept_small (m := m) (rs := rs) (by omega)
    have kasc : (keptRows m rs).Pairwise (· < ·) := (allRows_asc m).filter _
    clear r4 hp4 hlr nlr s4 ra3 b3 s3 s23 na nd' nex hu ht b2 r2 r1 s1 hS hn b5 htp
    obtain ⟨xs, hxl, hxd⟩ := id hlr5
    have hlen : xs.length = (keptRows m rs).length := by rw [hxd.length, List.length_map]
    refine ⟨_, rfl, lr, rfl, ⟨_, SqL.of hxl⟩, fun D hD => lc_dt (walk_list (K := K) (xs := xs)) (keptRows m rs) (fun _ => true) (fun r => costD (cost ps r, r)) hlen (small1000 (by omega)) hD (fun H' sm => SqL.of (sm _ _ hxl)) (fun i r x H6 H6' Yes No hu sm yy yes no => ?_) (fun H6 ys s6 hys dy => ?_)⟩
    · obtain ⟨rfl, hi⟩ := yy
      obtain ⟨d, hd, hdt⟩ := hxd.got hi
      rw [List.getElem?_map, hu] at hd
      cases hd
      have hdt' := hdt.k (kt_same sm)
      have hm := krow r (List.mem_of_getElem? hu)
      refine ⟨rfl, _, rfl, _, rfl, _, x, ps, r, rfl, Dt.row (sm _ _ pa5.ht), hdt', hm.1, hm.2.1, hm.2.2, fun H7 s7 => ⟨_, rfl, by show 2 ≤ sizeLine; decide, fun u nu => ?_⟩⟩
      exact yes rfl _ _ (s7.trans (same_new nu)) (.pair upd_same (.int _) (hdt'.k (kt_same (s7.trans (same_new nu)))))
    rw [List.filter_eq_self.mpr (fun _ _ => rfl)] at dy
    refine ⟨D, (keptRows m rs).map fun r => (cost ps r, r), rfl, ⟨ys, hys, by rw [List.map_map]; exact dy⟩, .of cost_alike, .inl fun d hd => ?_, fun b _ => ?_, fun cs lc hcs nlc => ?_⟩
    · obtain ⟨c, _, rfl⟩ := List.mem_map.mp hd
      exact ⟨_, _, rfl⟩
    · rw [depth_cost]
      decide
    have s67 := s6.trans (same_new (o := .lst cs) nlc)
    have hc : Ls (upd H6 lc (.lst cs)) lc ((costsL ps (keptRows m rs)).map costD) := ⟨cs, upd_same, hcs.k (kt_new nlc)⟩
    have pa := pa5.same s67
    have hlrB := hlr5.same s67
    have rB := r5.same s67
    have nlcp : lc ≠ p := (ne_of_none (r5.same s6).lst.choose_spec nlc).symm
    have σe : ∃ v8, v8 = (none : Option V) := ⟨none, rfl⟩
    generalize upd H6 lc (.lst cs) = HB at hc pa hlrB rB ⊢
    clear s67 hcs nlc dy hys s6 hD hlen hxd hxl hlr5 r5 pa5 xs ys D H6
    dsimp only
    refine if_join (fun σ H' => σ = [some (.ref sc), some (.ref p), some (.int (m : Int)), some (.ref t), some (.ref a), some (.ref lr), some (.ref tp), some (.ref lc), none, none, none, none, none, none, none, none, none] ∧ Same HB H') (fun N hN => ?_) (fun σ H' hI => ?_)
    · refine ⟨_, rfl, _, rfl, a, tp, m, rs, ps, rfl, pa, fun hk H8 s8 => ?_, fun H8 u8 least r0 rest s8 hmin er hu8 => ?_⟩
      · have hcl : costsL ps (keptRows m rs) = [] := costsL_nil.mpr hk
        refine ⟨_, rfl, Nat.zero_le _, fun e ne => ?_⟩
        have s9 := same_new (o := .lst []) ne
        refine ⟨.list ((costsL ps (keptRows m rs)).map costD), .list [], (hc.same (s8.trans s9)).dp, .lst (SqL.of upd_same) .nil, shaped_costs _, rfl, false, by rw [eqv_nil, hcl]; rfl, iteF ?_⟩
        exact ⟨_, _, .none, rfl, .non, .non, by decide, by decide, fun H10 s10 => ⟨true, rfl, iteF (hN _ _ ⟨rfl, (s8.trans s9).trans s10⟩)⟩⟩
      · obtain ⟨r0', rest', tl, ecl, er'⟩ := costsL_first kasc hmin
        rw [er] at er'
        injection er' with er1 er2
        subst er1 er2
        refine ⟨_, rfl, Nat.zero_le _, fun e ne => ?_⟩
        have s9 := same_new (o := .lst []) ne
        have hc9 := hc.same (s8.trans s9)
        refine ⟨.list ((costsL ps (keptRows m rs)).map costD), .list [], hc9.dp, .lst (SqL.of upd_same) .nil, shaped_costs _, rfl, true, by rw [eqv_nil, ecl]; rfl, iteT ?_⟩
        obtain ⟨zs, hzl, hzd⟩ := id hc9
        rw [ecl] at hzd
        have hr0 : r0 ∈ keptRows m rs := by
          have z : r0 ∈ bestOf ps (keptRows m rs) least := by rw [er]; exact List.mem_cons_self
          exact (List.mem_filter.mp z).1
        obtain ⟨z0, hz0, dz0⟩ := hzd.get (i := 0) (d := costD (least, r0)) rfl
        refine ⟨_, rfl, lc, zs, 0, z0, rfl, rfl, SqL.of hzl, atI_nat (j := 0) hz0, _, _, costD (least, r0), rfl, hu8.dv.same s9, dz0.dv, Nat.le_of_eq (depth_cost _), wd_cost _ (krow r0 hr0).2.1, fun H10 s10 => ⟨true, rfl, iteF (hN _ _ ⟨rfl, (s8.trans s9).trans s10⟩)⟩⟩
    -- what is due
    obtain ⟨rfl, sB⟩ := hI
    replace hc := hc.same sB
    replace pa := pa.same sB
    replace hlrB := hlrB.same sB
    replace rB := rB.same sB
    clear sB
    generalize H' = HB at hc pa hlrB rB ⊢
    have asc' := kasc
    refine asg_join (fun σ H' => ∃ v8, σ = [some (.ref sc), some (.ref p), some (.int (m : Int)), some (.ref t), some (.ref a), some (.ref lr), some (.ref tp), some (.ref lc), some v8, none, none, none, none, none, none, none, none] ∧ Same HB H' ∧ Dv H' v8 (dueOf ps (keptRows m rs))) (fun N hN => ?_) (fun σ H' hI => ?_)
    · refine ⟨_, rfl, Nat.zero_le _, fun e ne => ?_⟩
      have s9 := same_new (o := .lst []) ne
      have hc9 := hc.same s9
      refine ⟨.list ((costsL ps (keptRows m rs)).map costD), .list [], hc9.dp, .lst (SqL.of upd_same) .nil, shaped_costs _, rfl, ?_⟩
      cases ecl : costsL ps (keptRows m rs) with
      | nil =>
        refine ⟨false, by rw [eqv_nil]; rfl, iteF (hN _ _ ⟨.non, rfl, s9, ?_⟩)⟩
        unfold dueOf
        rw [ecl]
        exact .non
      | cons c0 tl =>
        refine ⟨true, by rw [eqv_nil]; rfl, iteT ?_⟩
        obtain ⟨zs, hzl, hzd⟩ := id hc9
        have zlen : zs.length = (costsL ps (keptRows m rs)).length := by rw [hzd.length, List.length_map]
        have clen : (costsL ps (keptRows m rs)).length ≤ 256 := by
          rw [(costsL_perm _ _).length_eq, List.length_map]
          exact kfew
        obtain ⟨z0, hz0, dz0⟩ := hzd.get (i := 0) (d := costD c0) (by rw [ecl]; rfl)
        refine ⟨_, rfl, lc, rfl, ⟨_, SqL.of hzl⟩, fun D hD => lc_dt (walk_list (K := K) (xs := zs)) (costsL ps (keptRows m rs)) (fun c => decide (c.1 = c0.1)) (fun c => rowD c.2) zlen (small1000 (by omega)) hD (fun H' sm => SqL.of (sm _ _ hzl)) (fun i c x H6 H6' Yes No hu sm yy yes no => ?_) (fun H6 ys s6 hys dy => ?_)⟩
        · obtain ⟨rfl, hi⟩ := yy
          obtain ⟨d, hd, hdt⟩ := hzd.got hi
          rw [List.getElem?_map, hu] at hd
          cases hd
          obtain ⟨b, x1, x2, rfl, hb, d1, d2⟩ := Dt.of_pair (hdt.k (kt_same sm))
          obtain ⟨b0, y1, y2, rfl, hb0, e1, e2⟩ := Dt.of_pair (dz0.k (kt_same sm))
          obtain rfl := d1.of_int
          obtain rfl := e1.of_int
          refine ⟨b, [.int c.1, x2], rfl, SqT.of hb, rfl, _, _, rfl, _, _, rfl, rfl, rfl, _, rfl, _, rfl, lc, zs, 0, _, rfl, rfl, SqL.of (sm _ _ hzl), atI_nat (j := 0) hz0, b0, _, 0, _, rfl, rfl, SqT.of hb0, atI_nat (j := 0) rfl, rfl, _, rfl, ite2 (fun hk => ?_) (fun hk => ?_)⟩
          · exact ⟨_, rfl, yes (decide_eq_true (V.int.inj (of_decide_eq_true hk))) _ _ (Same.refl _) d2⟩
          · exact no (decide_eq_false fun e => hk (decide_eq_true (by rw [e]))) _ (Same.refl _)
        · refine hN _ _ ⟨.ref D, rfl, s9.trans s6, ?_⟩
          rw [costsL_best kasc, List.map_map] at dy
          unfold dueOf
          rw [ecl]
          exact .lst hys dy
    obtain ⟨v8, rfl, sB, hdue⟩ := hI
    replace hc := hc.same sB
    replace pa := pa.same sB
    replace hlrB := hlrB.same sB
    replace rB := rB.same sB
    clear sB hc asc'
    refine if_join (fun σ H2 => σ = [some (.ref sc), some (.ref p), some (.int (m : Int)), some (.ref t), some (.ref a), some (.ref lr), some (.ref tp), some (.ref lc), some v8, none, none, none, none, none, none, none, none] ∧ Same H' H2) (fun N hN => ?_) (fun σ H2 hI => ?_)
    · refine ⟨_, rfl, _, rfl, a, tp, m, rs, ps, rfl, pa, fun hk H8 s8 => ?_, fun H8 l8 least s8 hmin hl8 => ?_⟩
      · have hd : dueOf ps (keptRows m rs) = .none := by
          unfold dueOf
          rw [costsL_nil.mpr hk]
        rw [hd] at hdue
        exact ⟨_, rfl, _, _, .none, rfl, .non, hdue.same s8, by decide, by decide, fun H10 s10 => ⟨true, rfl, iteF (hN _ _ ⟨rfl, s8.trans s10⟩)⟩⟩
      · obtain ⟨r0, rest, tl, ecl, er⟩ := costsL_first kasc hmin
        have hd : dueOf ps (keptRows m rs) = .list ((bestOf ps (keptRows m rs) least).map rowD) := by
          unfold dueOf
          rw [ecl]
        rw [hd] at hdue
        refine ⟨_, rfl, _, _, .list ((bestOf ps (keptRows m rs) least).map rowD), rfl, hl8.dv, hdue.same s8, depth_rows _, wd_rows (fun r hr => (krow r (List.mem_filter.mp hr).1).2.1) ?_, fun H10 s10 => ⟨true, rfl, iteF (hN _ _ ⟨rfl, s8.trans s10⟩)⟩⟩
        exact Nat.le_trans (List.length_filter_le _ _) (by omega)
    obtain ⟨rfl, sB⟩ := hI
    replace pa := pa.same sB
    replace hlrB := hlrB.same sB
    replace rB := rB.same sB
    clear hdue sB
    -- the places
    refine ⟨_, rfl, _, rfl, p, sc, (m : Int), rfl, rB, by omega, by omega, fun x1 H3 x10 x11 b3 r3 => ⟨_, rfl, _, rfl, p, sc, (m : Int), rfl, r3, by omega, by omega, fun x2 H4 x20 x21 b4 r4 => ⟨by show 2 ≤ sizeLine; decide, fun e ne => ?_⟩⟩⟩
    have te := same_new (o := .lst [.int x1, .int x2]) ne
    obtain ⟨_, hp2⟩ := id rB.lst
    have b24 := (b3.trans b4).trans (But.of te)
    have pa4 : PArgs T.C (upd H4 e (.lst [.int x1, .int x2])) a tp m rs ps := ⟨pa.ra.but b24 hp2, pa.g, b24 tp _ (ne_of pa.ht hp2 (by intro z; cases z)) pa.ht, pa.pg⟩
    have hlr4 := b24.ls hp2 nlp hlrB
    refine ⟨e, rfl, ⟨_, SqL.of upd_same⟩, ?_⟩
    have he : (upd H4 e (.lst [.int x1, .int x2])) e = some (.lst [.int x1, .int x2]) := upd_same
    generalize upd H4 e (.lst [.int x1, .int x2]) = HL at pa4 hlr4 he ⊢
    clear b24 te ne r4 b4 r3 b3 rB hlrB pa
    refine for_it (walk_list (K := K) (xs := [.int x1, .int x2])) (fun i σ H' => ∃ v9 v10 v11 v12 v13, σ = [some (.ref sc), some (.ref p), some (.int (m : Int)), some (.ref t), some (.ref a), some (.ref lr), some (.ref tp), some (.ref lc), some v8, v9, v10, v11, v12, v13, none, none, none] ∧ Same HL H') ⟨none, none, none, none, none, rfl, Same.refl _⟩ (fun i σ H' _ ⟨_, _, _, _, _, _, z⟩ => SqL.of (z _ _ he)) (fun i x σ H' H1' hi hP yy => ?_) (fun σ H' hP => ?_)
    · obtain ⟨v9, v10, v11, v12, v13, rfl, sm⟩ := hP
      obtain ⟨rfl, hx⟩ := yy
      obtain ⟨pl, rfl, hpl⟩ : ∃ pl : Nat, x = .int (pl : Int) ∧ pl < m := by
        match i, hx with
        | 0, e =>
          cases e
          exact ⟨x1.toNat, by rw [Int.toNat_of_nonneg x10], by omega⟩
        | 1, e =>
          cases e
          exact ⟨x2.toNat, by rw [Int.toNat_of_nonneg x20], by omega⟩
        | i + 2, e => simp at e
      have pa := pa4.same sm
      have hlr := hlr4.same sm
      have plen : pl < ps.length := by rw [pg.len]; exact hpl
      have vlen : pl < (ps.map V.int).length := by rw [List.length_map]; exact plen
      have pm8 : ps.length ≤ 8 := by rw [pg.len]; omega
      have et : cutV (ps.map V.int) none (some (pl : Int)) = (ps.map V.int).take pl := cut_take _ pl (by omega)
      have ed : cutV (ps.map V.int) (some ((pl : Int) + 1)) none = (ps.map V.int).drop (pl + 1) := by
        rw [show (pl : Int) + 1 = ((pl + 1 : Nat) : Int) by omega, cut_drop _ (pl + 1) (by omega)]
      have lt8 : (cutV (ps.map V.int) none (some (pl : Int))).length ≤ 8 := by rw [et, List.length_take, List.length_map]; omega
      have ld8 : (cutV (ps.map V.int) (some ((pl : Int) + 1)) none).length ≤ 8 := by rw [ed, List.length_drop, List.length_map]; omega
      refine ⟨_, rfl, _, rfl, _, rfl, tp, _, rfl, pa.ht, fun u1 H2 s2 hu1 => ⟨by show 1 ≤ sizeLine; decide, fun v nv => ?_⟩⟩
      have s3 := same_new (o := .tup [.int 0]) nv
      refine ⟨u1, v, _, _, rfl, rfl, s3 _ _ hu1, upd_same, Nat.le_of_lt (small1000 (by show _ + 1 ≤ 1000; omega)), fun w4 H4 s4 hw4 => ?_⟩
      have s24 := (s2.trans s3).trans s4
      refine ⟨_, rfl, _, rfl, _, _, rfl, rfl, _, rfl, tp, _, rfl, s24 _ _ pa.ht, fun u2 H5 s5 hu2 => ⟨w4, u2, _, _, rfl, rfl, s5 _ _ hw4, hu2, ?_, fun f H6 s6 hf => ?_⟩⟩
      · rw [List.length_append]
        exact Nat.le_of_lt (small1000 (by show _ + 1 + _ ≤ 1000; omega))
      have ez : cutV (ps.map V.int) none (some (pl : Int)) ++ [V.int 0] ++ cutV (ps.map V.int) (some ((pl : Int) + 1)) none = (setZ ps pl).map V.int := by
        rw [et, ed]
        unfold setZ
        rw [List.map_append, List.map_cons, List.map_take, List.map_drop, List.append_assoc]
        rfl
      rw [ez] at hf
      have sF := (s24.trans s5).trans s6
      replace pa := pa.same sF
      replace hlr := hlr.same sF
      have smF := sm.trans sF
      clear sF hu2 s6 s5 s24 hw4 s4 s3 nv hu1 s2 sm ez et ed
      obtain ⟨xs, hxl, hxd⟩ := id hlr
      have hlen : xs.length = (keptRows m rs).length := by rw [hxd.length, List.length_map]
      have hrow : ∀ r ∈ keptRows m rs, (setZ ps pl).length = r.length ∧ r.length ≤ 8 ∧ Bits r ∧ pl < r.length := fun r hr => by
        have z := kept_mem hr
        exact ⟨by rw [setZ_len plen, pg.len, z.1], by rw [z.1]; omega, z.2, by rw [z.1]; exact hpl⟩
      refine ⟨_, rfl, lr, rfl, ⟨_, SqL.of hxl⟩, fun D hD => lc_dt (walk_list (K := K) (xs := xs)) (keptRows m rs) (fun r => decide (at0 r (pl : Int) = 1)) (fun r => .int (cost (setZ ps pl) r)) hlen (small1000 (by omega)) hD (fun H' sm => SqL.of (sm _ _ hxl)) (fun i r x H7 H7' Yes No hu sm yy yes no => ?_) (fun H7 ys s7 hys dy => ?_)⟩
      · obtain ⟨rfl, hi⟩ := yy
        obtain ⟨d, hd, hdt⟩ := hxd.got hi
        rw [List.getElem?_map, hu] at hd
        cases hd
        have hm := hrow r (List.mem_of_getElem? hu)
        have hdt' := hdt.k (kt_same sm)
        obtain ⟨b, rfl, hb⟩ := hdt'.of_row
        refine ⟨rfl, _, rfl, _, rfl, b, _, _, _, rfl, rfl, SqT.of hb, at0_get (by omega) (by omega), rfl, _, rfl, ite2 (fun hk => ?_) (fun hk => ?_)⟩
        · have hk2 : at0 r (pl : Int) = 1 := V.int.inj (of_decide_eq_true hk)
          exact ⟨_, rfl, _, rfl, _, _, setZ ps pl, r, rfl, Dt.row (sm _ _ hf), hdt', hm.1, hm.2.1, hm.2.2.1, fun H8 s8 => yes (decide_eq_true hk2) _ H8 s8 (.int _)⟩
        · exact no (decide_eq_false fun e => hk (decide_eq_true (by rw [e]))) _ (Same.refl _)
      have e1 : ys = (withV ps (keptRows m rs) pl 1).map V.int := Da.of_ints (H := H7) (by unfold withV; rw [List.map_map]; exact dy)
      subst e1
      refine ⟨_, rfl, lr, rfl, ⟨_, SqL.of (s7 _ _ hxl)⟩, fun D2 hD2 => lc_dt (walk_list (K := K) (xs := xs)) (keptRows m rs) (fun r => decide (at0 r (pl : Int) = 0)) (fun r => .int (cost (setZ ps pl) r)) hlen (small1000 (by omega)) hD2 (fun H' sm => SqL.of (sm _ _ (s7 _ _ hxl))) (fun i r x H8 H8' Yes No hu sm yy yes no => ?_) (fun H8 ys s8 hys2 dy2 => ?_)⟩
      · obtain ⟨rfl, hi⟩ := yy
        obtain ⟨d, hd, hdt⟩ := hxd.got hi
        rw [List.getElem?_map, hu] at hd
        cases hd
        have hm := hrow r (List.mem_of_getElem? hu)
        have s78 := s7.trans sm
        have hdt' := hdt.k (kt_same s78)
        obtain ⟨b, rfl, hb⟩ := hdt'.of_row
        refine ⟨rfl, _, rfl, _, rfl, b, _, _, _, rfl, rfl, SqT.of hb, at0_get (by omega) (by omega), rfl, _, rfl, ite2 (fun hk => ?_) (fun hk => ?_)⟩
        · have hk2 : at0 r (pl : Int) = 0 := V.int.inj (of_decide_eq_true hk)
          exact ⟨_, rfl, _, rfl, _, _, setZ ps pl, r, rfl, Dt.row (s78 _ _ hf), hdt', hm.1, hm.2.1, hm.2.2.1, fun H9 s9 => yes (decide_eq_true hk2) _ H9 s9 (.int _)⟩
        · exact no (decide_eq_false fun e => hk (decide_eq_true (by rw [e]))) _ (Same.refl _)
      have e2 : ys = (withV ps (keptRows m rs) pl 0).map V.int := Da.of_ints (H := H8) (by unfold withV; rw [List.map_map]; exact dy2)
      subst e2
      replace hys := s8 _ _ hys
      replace pa := (pa.same s7).same s8
      have smB := (smF.trans s7).trans s8
      have bd1 := withV_bd (rs := rs) (p := pl) (v := 1) pg (by omega)
      have bd0 := withV_bd (rs := rs) (p := pl) (v := 0) pg (by omega)
      have few0 : (withV ps (keptRows m rs) pl 0).length ≤ 256 := by
        unfold withV
        rw [List.length_map]
        exact Nat.le_trans (List.length_filter_le _ _) kfew
      clear smF s8 s7 hlr hD hD2 dy dy2 hf hxl hxd hlen
      -- the prices that the place may have
      obtain ⟨mo, hmo⟩ : ∃ mo, IsMin (withV ps (keptRows m rs) pl 0 ++ [1000000]) mo := exists_min (by simp)
      obtain ⟨mn, hmn⟩ : ∃ mn, withV ps (keptRows m rs) pl 1 ≠ [] → IsMin (withV ps (keptRows m rs) pl 1) mn := by
        by_cases z : withV ps (keptRows m rs) pl 1 = []
        · exact ⟨0, fun y => absurd z y⟩
        · obtain ⟨mn, h⟩ := exists_min z
          exact ⟨mn, fun _ => h⟩
      generalize eones : withV ps (keptRows m rs) pl 1 = ones at hys hmn bd1 ⊢
      generalize eoth : withV ps (keptRows m rs) pl 0 = others at hys2 hmo bd0 few0 ⊢
      refine ⟨50, rfl, _, _, rfl, ⟨by decide, by decide, by decide, by decide⟩, fun D3 hD3 => lc_dt (walk_range (lo := -50) (n := 101)) (List.range 101) (fun i : Nat => decide (ones ≠ []) && decide (mn + (-50 + (i : Int)) ≤ mo)) (fun i : Nat => .int (-50 + (i : Int))) (by rw [List.length_range]) (by rw [List.length_range]; exact small1000 (by decide)) hD3 (fun _ _ => True.intro) (fun i j x H9 H9' Yes No hu sm yy yes no => ?_) (fun H9 zs s9 hzs dz => ?_)⟩
      · obtain ⟨rfl, rfl⟩ := yy
        obtain ⟨hi, ej⟩ := List.getElem?_eq_some_iff.mp hu
        rw [List.getElem_range] at ej
        subst ej
        refine ⟨rfl, _, rfl, Nat.zero_le _, fun e1 ne1 => ?_⟩
        have t1 := same_new (o := .lst []) ne1
        refine ⟨.list (ones.map .int), .list [], .lst (SqL.of (t1 _ _ (sm _ _ hys))) (Da.ints _).dp, .lst (SqL.of upd_same) .nil, shaped_lints _, rfl, _, rfl, ?_⟩
        rw [eqv_nil]
        refine ite2 (fun hj => ?_) (fun hj => ?_)
        · have hne : ones ≠ [] := by simpa using hj
          refine ⟨_, rfl, D, ones, rfl, SqL.of (t1 _ _ (sm _ _ hys)), List.length_pos_iff.mpr hne, fun mn' h1 h2 => ⟨_, rfl, _, _, rfl, rfl, _, rfl, 10, 6, rfl, rfl, ⟨by decide, by decide, by decide⟩, by show 1 ≤ sizeLine; decide, fun e2 ne2 => ?_⟩⟩
          have t2 := same_new (o := .lst [.int ((10 : Int) ^ (6 : Int).toNat)]) ne2
          have t12 := t1.trans t2
          refine ⟨D2, e2, _, _, rfl, rfl, t12 _ _ (sm _ _ hys2), upd_same, Nat.le_of_lt (small1000 (by rw [List.length_map]; show _ + 1 ≤ 1000; omega)), fun e3 ne3 => ?_⟩
          have t3 := t12.trans (same_new (o := .lst (others.map V.int ++ [.int ((10 : Int) ^ (6 : Int).toNat)])) ne3)
          refine ⟨e3, others ++ [1000000], rfl, SqL.of (by rw [upd_same, List.map_append]; rfl), by simp, fun mo' k1 k2 => ⟨_, _, rfl, rfl, _, rfl, ?_⟩⟩
          have em : mn' = mn := isMin_one ⟨h1, h2⟩ (hmn hne)
          have eo : mo' = mo := isMin_one ⟨k1, k2⟩ hmo
          subst em eo
          refine ite2 (fun hk => ?_) (fun hk => ?_)
          · refine ⟨_, rfl, yes ?_ _ _ t3 (.int _)⟩
            rw [decide_eq_true hne, Bool.true_and]
            exact hk
          · refine no ?_ _ t3
            rw [decide_eq_true hne, Bool.true_and]
            exact Bool.eq_false_iff.mpr hk
        · have hne : ones = [] := by simpa using hj
          refine iteF (no ?_ _ t1)
          rw [decide_eq_false (fun z => z hne), Bool.false_and]
      have e3 : zs = (someL ones others mn mo).map V.int := by
        refine Da.of_ints (H := H9) ?_
        unfold someL
        rw [pricesL_eq, List.filter_map, List.map_map]
        exact dz
      subst e3
      refine ⟨_, rfl, _, rfl, _, rfl, a, tp, m, pl, rs, ps, rfl, pa.same s9, hpl, fun H10 v s10 dv => ?_⟩
      rw [eones, eoth] at dv
      have L : lastP (someL ones others mn mo) v := some_dear bd1 bd0 dv hmn (fun _ => hmo)
      refine ⟨_, rfl, Nat.zero_le _, fun e1 ne1 => ?_⟩
      have t1 := same_new (o := .lst []) ne1
      have h13 := t1 _ _ (s10 _ _ hzs)
      have tt := ((smB.trans s9).trans s10).trans t1
      refine ⟨.list ((someL ones others mn mo).map .int), .list [], .lst (SqL.of h13) (Da.ints _).dp, .lst (SqL.of upd_same) .nil, shaped_lints _, rfl, ?_⟩
      rcases L with ⟨e, rfl⟩ | ⟨ys', z, e, rfl⟩
      · exact ⟨false, by rw [eqv_nil, e]; rfl, iteF ⟨_, _, .none, rfl, .non, .non, by decide, by decide, fun H11 s11 => ⟨true, rfl, iteF ⟨_, _, _, _, _, rfl, tt.trans s11⟩⟩⟩⟩
      · refine ⟨true, by rw [eqv_nil, e]; simp, iteT ⟨_, rfl, 1, rfl, D3, _, _, .int z, rfl, rfl, SqL.of h13, ?_, _, _, .int z, rfl, .int z, .int z, (by show 0 ≤ 2; decide), (by show 0 ≤ 1000; decide), fun H11 s11 => ⟨true, rfl, iteF ⟨_, _, _, _, _, rfl, tt.trans s11⟩⟩⟩⟩
        rw [e, List.map_append]
        exact atI_last _ _
    · exact q _
end
end Mr

/-! Mr.Z: what the top has written, put together. Printed by gen_z.py. -/
namespace Mr
open PySem PySem.Spec PyProof.Rows L2
/-- a def of the top as the written heap has it -/
def DfP (K : PySem.W.Frag) (x : Str) (st : Stmt) : Prop := ∃ (f : Addr) (od an : Option Addr) (sl : Array (Option Value)) (oc kV dc pm cd ct : Value), PySem.W.nsIn K mainGlobals x = some (some (.ref f)) ∧
  K.lookup f = some ⟨oc, od, .func (PySem.W.fnOf x x (defArgs st) (defBody st) (defScope st) .none kV dc pm an cd ct), sl⟩ ∧ PySem.W.codeIn K cd x = true ∧ PySem.W.keepIn K (.ref f) = true
theorem dfp {K : PySem.W.Frag} {x : Str} {st : Stmt} {f : Addr} {od an : Option Addr} {sl : Array (Option Value)} {oc kV dc pm cd ct : Value} (a : PySem.W.nsIn K mainGlobals x = some (some (.ref f)))
    (l : K.lookup f = some ⟨oc, od, .func (PySem.W.fnOf x x (defArgs st) (defBody st) (defScope st) .none kV dc pm an cd ct), sl⟩) (c : PySem.W.codeIn K cd x = true) (k : PySem.W.keepIn K (.ref f) = true) : DfP K x st :=
  ⟨f, od, an, sl, oc, kV, dc, pm, cd, ct, a, l, c, k⟩
theorem DfP.df {K : PySem.W.Frag} {h : Heap} {mg : Str → Option Value} {x : Str} {st : Stmt} {ps : List Str} (d : DfP K x st) (X : K.In h) (G : h.Ns mainGlobals mg)
    (hb : ∀ (kV doc pm : Value) (an : Option Addr) (cdv ct : Value) (us : List Value), us.length = ps.length → bindArgs (PySem.W.fnOf x x (defArgs st) (defBody st) (defScope st) .none kV doc pm an cdv ct) ⟨us, []⟩ = pure (ps.zip us)) : Nonempty (Df K mg x ps st) := by
  obtain ⟨f, od, an, sl, oc, kV, dc, pm, cd, ct, a, l, c, k⟩ := d
  have F := fun_mk l c k
  exact ⟨⟨f, _, F, F.binds (ps := ps) hb, PySem.W.mg_of X G a⟩⟩
/-- the class as the written heap has it -/
structure ClP (K : PySem.W.Frag) : Prop where
  ex : ∃ (C f : Addr) (od an : Option Addr) (sl : Array (Option Value)) (oc kV dc pm cd ct : Value), PySem.W.nsIn K mainGlobals "Rules" = some (some (.ref C)) ∧ PySem.W.findIn K (.ref C) "__init__" = some (some (.ref f)) ∧ PySem.W.isFn K (.ref f) = true ∧
    K.lookup f = some ⟨oc, od, .func (PySem.W.fnOf "__init__" "Rules.__init__" (defArgs sInit) (defBody sInit) (defScope sInit) .none kV dc pm an cd ct), sl⟩ ∧ PySem.W.codeIn K cd "Rules.__init__" = true ∧ PySem.W.keepIn K (.ref f) = true ∧
    PySem.W.makesIn K C = true ∧ PySem.W.keepIn K (.ref C) = true ∧ C8.InsC K C ∧ NoAttr K C "wide" ∧ NoAttr K C "told"
theorem kit_self {K : PySem.W.Frag} (C : Addr) : PySem.W.kitOne K (.ref C) (.ref C) = some true := by
  unfold PySem.W.kitOne
  rw [if_pos (beq_self_eq_true _)]
theorem clp {K : PySem.W.Frag} {C f : Addr} {od an : Option Addr} {sl : Array (Option Value)} {oc kV dc pm cd ct : Value} (aC : PySem.W.nsIn K mainGlobals "Rules" = some (some (.ref C))) (a1 : PySem.W.findIn K (.ref C) "__init__" = some (some (.ref f))) (i1 : PySem.W.isFn K (.ref f) = true)
    (l1 : K.lookup f = some ⟨oc, od, .func (PySem.W.fnOf "__init__" "Rules.__init__" (defArgs sInit) (defBody sInit) (defScope sInit) .none kV dc pm an cd ct), sl⟩) (c1 : PySem.W.codeIn K cd "Rules.__init__" = true) (k1 : PySem.W.keepIn K (.ref f) = true)
    (mk : PySem.W.makesIn K C = true) (kc : PySem.W.keepIn K (.ref C) = true) (pg : PySem.W.plainGet K C Str.empty = true) (hd : PySem.W.hasDictIn K C = true) (po : PySem.W.plainOver K C = true) (sa : PySem.W.findIn K (.ref C) "__setattr__" = some (some (.builtin "object.__setattr__")))
    (ha : PySem.W.findIn K (.ref C) "__class__" = some (some (.builtin "object.__class__"))) (hn : PySem.W.specialIn K (.builtin "object.__class__") "__get__" = some (some (.builtin "getset_descriptor.__get__"))) (htk : PySem.W.takesIn K (.builtin "object.__class__") = some true)
    (hm : PySem.W.mroIn K C (.type "object") = some true) (nW : PySem.W.findIn K (.ref C) "wide" = some none) (nT : PySem.W.findIn K (.ref C) "told" = some none) : ClP K :=
  ⟨⟨C, f, od, an, sl, oc, kV, dc, pm, cd, ct, aC, a1, i1, l1, c1, k1, mk, kc, ⟨⟨pg, hd, po, sa⟩, ha, hn, htk, hm, kit_self C⟩, nW, nT⟩⟩

theorem all_mk {l : PySem.W.OpenLaw} {w : World} {K : PySem.W.Frag} {h : Heap} {mg : Str → Option Value} {fa f4 : Addr} {tMOSTPLACES tMOSTPRICE : Tok} (X : K.In h) (G : h.Ns mainGlobals mg) (hfa : mg "law" = some (.ref fa))
    {od4 an4 : Option Addr} {sl4 : Array (Option Value)} {oc4 kV4 dc4 pm4 cd4 ct4 : Value}
    (a4 : PySem.W.nsIn K mainGlobals "law" = some (some (.ref f4))) (l4 : K.lookup f4 = some ⟨oc4, od4, .func (PySem.W.fnOf "law" "law" (defArgs sLaw) (defBody sLaw) (defScope sLaw) .none kV4 dc4 pm4 an4 cd4 ct4), sl4⟩) (c4 : PySem.W.codeIn K cd4 "law" = true) (k4 : PySem.W.keepIn K (.ref f4) = true)
    (pC : ClP K)
    (pIsFrom : DfP K "is_from" sIsFrom)
    (pIsWantOf : DfP K "is_want_of" sIsWantOf)
    (pOff : DfP K "off" sOff)
    (pIsRuleOf : DfP K "is_rule_of" sIsRuleOf)
    (pNeedRules : DfP K "need_rules" sNeedRules)
    (pHas : DfP K "has" sHas)
    (pIsKept : DfP K "is_kept" sIsKept)
    (pAreKept : DfP K "are_kept" sAreKept)
    (pAllRows : DfP K "all_rows" sAllRows)
    (pKeptRows : DfP K "kept_rows" sKeptRows)
    (pNeedPrices : DfP K "need_prices" sNeedPrices)
    (pCostOf : DfP K "cost_of" sCostOf)
    (pBestRows : DfP K "best_rows" sBestRows)
    (pCheapest : DfP K "cheapest" sCheapest)
    (pAllCheapest : DfP K "all_cheapest" sAllCheapest)
    (pDearestOne : DfP K "dearest_one" sDearestOne)
    (pLTaken : DfP K "_law_taken" sLTaken)
    (pLPick : DfP K "_law_pick" sLPick)
    (pLAlike : DfP K "_law_alike" sLAlike)
    (pLAllRules : DfP K "_law_all_rules" sLAllRules)
    (pLRows : DfP K "_law_rows" sLRows)
    (pLKeeps : DfP K "_law_keeps" sLKeeps)
    (pLKept : DfP K "_law_kept" sLKept)
    (pLSomeRules : DfP K "_law_some_rules" sLSomeRules)
    (pLDrawn : DfP K "_law_drawn" sLDrawn)
    (pLPrices : DfP K "_law_prices" sLPrices)
    (pLCost : DfP K "_law_cost" sLCost)
    (gMOSTPLACES : PySem.W.nsIn K mainGlobals "MOST_PLACES" = some (some (.int 8 tMOSTPLACES)))
    (gMOSTPRICE : PySem.W.nsIn K mainGlobals "MOST_PRICE" = some (some (.int 50 tMOSTPRICE)))
    (z_isinstance : PySem.W.nsIn K mainGlobals "isinstance" = some none)
    (z_int : PySem.W.nsIn K mainGlobals "int" = some none)
    (z_bool : PySem.W.nsIn K mainGlobals "bool" = some none)
    (z_tuple : PySem.W.nsIn K mainGlobals "tuple" = some none)
    (z_len : PySem.W.nsIn K mainGlobals "len" = some none)
    (z_all : PySem.W.nsIn K mainGlobals "all" = some none)
    (z_enumerate : PySem.W.nsIn K mainGlobals "enumerate" = some none)
    (z_range : PySem.W.nsIn K mainGlobals "range" = some none)
    (z_zip : PySem.W.nsIn K mainGlobals "zip" = some none)
    (z_sum : PySem.W.nsIn K mainGlobals "sum" = some none)
    (z_min : PySem.W.nsIn K mainGlobals "min" = some none)
    (z_list : PySem.W.nsIn K mainGlobals "list" = some none)
    (z_str : PySem.W.nsIn K mainGlobals "str" = some none)
    (z_sorted : PySem.W.nsIn K mainGlobals "sorted" = some none)
    (z_set : PySem.W.nsIn K mainGlobals "set" = some none) :
    ∃ fd : FuncData, (∀ (s : Shared) (v : Value), BindsTo s fd ⟨[v], []⟩ [("_law_script", v)]) ∧ ∀ base : Heap, K.In base → base.Ns mainGlobals mg → FnOk l.prog w K mg base CX0 7 fa fd ["_law_script"] (spLaw K) := by
  have e := hfa.symm.trans (PySem.W.mg_of X G a4)
  cases e
  obtain ⟨DIsFrom⟩ := pIsFrom.df X G (ps := ["value", "low", "high"]) fun _ _ _ _ _ _ us hl => match us, hl with | [_, _, _], _ => rfl
  obtain ⟨DIsWantOf⟩ := pIsWantOf.df X G (ps := ["many", "value"]) fun _ _ _ _ _ _ us hl => match us, hl with | [_, _], _ => rfl
  obtain ⟨DOff⟩ := pOff.df X G (ps := ["want"]) fun _ _ _ _ _ _ us hl => match us, hl with | [_], _ => rfl
  obtain ⟨DIsRuleOf⟩ := pIsRuleOf.df X G (ps := ["many", "value"]) fun _ _ _ _ _ _ us hl => match us, hl with | [_, _], _ => rfl
  obtain ⟨DNeedRules⟩ := pNeedRules.df X G (ps := ["rules"]) fun _ _ _ _ _ _ us hl => match us, hl with | [_], _ => rfl
  obtain ⟨DHas⟩ := pHas.df X G (ps := ["row", "want"]) fun _ _ _ _ _ _ us hl => match us, hl with | [_, _], _ => rfl
  obtain ⟨DIsKept⟩ := pIsKept.df X G (ps := ["rule", "row"]) fun _ _ _ _ _ _ us hl => match us, hl with | [_, _], _ => rfl
  obtain ⟨DAreKept⟩ := pAreKept.df X G (ps := ["told", "row"]) fun _ _ _ _ _ _ us hl => match us, hl with | [_, _], _ => rfl
  obtain ⟨DAllRows⟩ := pAllRows.df X G (ps := ["many"]) fun _ _ _ _ _ _ us hl => match us, hl with | [_], _ => rfl
  obtain ⟨DKeptRows⟩ := pKeptRows.df X G (ps := ["rules"]) fun _ _ _ _ _ _ us hl => match us, hl with | [_], _ => rfl
  obtain ⟨DNeedPrices⟩ := pNeedPrices.df X G (ps := ["rules", "prices"]) fun _ _ _ _ _ _ us hl => match us, hl with | [_, _], _ => rfl
  obtain ⟨DCostOf⟩ := pCostOf.df X G (ps := ["prices", "row"]) fun _ _ _ _ _ _ us hl => match us, hl with | [_, _], _ => rfl
  obtain ⟨DBestRows⟩ := pBestRows.df X G (ps := ["rules", "prices"]) fun _ _ _ _ _ _ us hl => match us, hl with | [_, _], _ => rfl
  obtain ⟨DCheapest⟩ := pCheapest.df X G (ps := ["rules", "prices"]) fun _ _ _ _ _ _ us hl => match us, hl with | [_, _], _ => rfl
  obtain ⟨DAllCheapest⟩ := pAllCheapest.df X G (ps := ["rules", "prices"]) fun _ _ _ _ _ _ us hl => match us, hl with | [_, _], _ => rfl
  obtain ⟨DDearestOne⟩ := pDearestOne.df X G (ps := ["rules", "prices", "place"]) fun _ _ _ _ _ _ us hl => match us, hl with | [_, _, _], _ => rfl
  obtain ⟨DLTaken⟩ := pLTaken.df X G (ps := ["_law_row", "_law_many"]) fun _ _ _ _ _ _ us hl => match us, hl with | [_, _], _ => rfl
  obtain ⟨DLPick⟩ := pLPick.df X G (ps := ["_law_row", "_law_things"]) fun _ _ _ _ _ _ us hl => match us, hl with | [_, _], _ => rfl
  obtain ⟨DLAlike⟩ := pLAlike.df X G (ps := ["_law_found", "_law_due"]) fun _ _ _ _ _ _ us hl => match us, hl with | [_, _], _ => rfl
  obtain ⟨DLAllRules⟩ := pLAllRules.df X G (ps := ["_law_many"]) fun _ _ _ _ _ _ us hl => match us, hl with | [_], _ => rfl
  obtain ⟨DLRows⟩ := pLRows.df X G (ps := ["_law_many"]) fun _ _ _ _ _ _ us hl => match us, hl with | [_], _ => rfl
  obtain ⟨DLKeeps⟩ := pLKeeps.df X G (ps := ["_law_rules", "_law_row"]) fun _ _ _ _ _ _ us hl => match us, hl with | [_, _], _ => rfl
  obtain ⟨DLKept⟩ := pLKept.df X G (ps := ["_law_many", "_law_rules"]) fun _ _ _ _ _ _ us hl => match us, hl with | [_, _], _ => rfl
  obtain ⟨DLSomeRules⟩ := pLSomeRules.df X G (ps := ["_law_row", "_law_many"]) fun _ _ _ _ _ _ us hl => match us, hl with | [_, _], _ => rfl
  obtain ⟨DLDrawn⟩ := pLDrawn.df X G (ps := ["_law_row", "_law_most"]) fun _ _ _ _ _ _ us hl => match us, hl with | [_, _], _ => rfl
  obtain ⟨DLPrices⟩ := pLPrices.df X G (ps := ["_law_row", "_law_many"]) fun _ _ _ _ _ _ us hl => match us, hl with | [_, _], _ => rfl
  obtain ⟨DLCost⟩ := pLCost.df X G (ps := ["_law_prices_here", "_law_row"]) fun _ _ _ _ _ _ us hl => match us, hl with | [_, _], _ => rfl
  obtain ⟨C, fI, od, an, sl, oc, kV, dc, pm, cd, ct, aC, a1, i1, l1, c1, k1, mk, kc, ic, nW, nT⟩ := pC.ex
  have FI := fun_mk l1 c1 k1
  have F4 := fun_mk l4 c4 k4
  exact ⟨PySem.W.fnOf "law" "law" (defArgs sLaw) (defBody sLaw) (defScope sLaw) .none kV4 dc4 pm4 an4 cd4 ct4, fun s v => .of_eq rfl, fun base _ _ => ok_law (P := l.prog) (w := w) (base := base) ({
    dIsFrom := DIsFrom
    dIsWantOf := DIsWantOf
    dOff := DOff
    dIsRuleOf := DIsRuleOf
    dNeedRules := DNeedRules
    dHas := DHas
    dIsKept := DIsKept
    dAreKept := DAreKept
    dAllRows := DAllRows
    dKeptRows := DKeptRows
    dNeedPrices := DNeedPrices
    dCostOf := DCostOf
    dBestRows := DBestRows
    dCheapest := DCheapest
    dAllCheapest := DAllCheapest
    dDearestOne := DDearestOne
    dLTaken := DLTaken
    dLPick := DLPick
    dLAlike := DLAlike
    dLAllRules := DLAllRules
    dLRows := DLRows
    dLKeeps := DLKeeps
    dLKept := DLKept
    dLSomeRules := DLSomeRules
    dLDrawn := DLDrawn
    dLPrices := DLPrices
    dLCost := DLCost
    dLaw := ⟨fa, _, F4, F4.binds (ps := ["_law_script"]) fun _ _ _ _ _ _ us hl => match us, hl with | [_], _ => rfl, PySem.W.mg_of X G a4⟩
    C := C
    fI := fI
    fdI := _
    FI := FI
    bI := FI.binds (ps := ["self", "many", "rules"]) fun _ _ _ _ _ _ us hl => match us, hl with | [_, _, _], _ => rfl
    M := ⟨mk, a1, i1, kc⟩
    ic := ic
    nW := nW
    nT := nT
    gC := PySem.W.mg_of X G aC
    gMOSTPLACES := ⟨_, PySem.W.mg_of X G gMOSTPLACES⟩
    gMOSTPRICE := ⟨_, PySem.W.mg_of X G gMOSTPRICE⟩
    z_isinstance := PySem.W.mg_none_of X G z_isinstance
    z_int := PySem.W.mg_none_of X G z_int
    z_bool := PySem.W.mg_none_of X G z_bool
    z_tuple := PySem.W.mg_none_of X G z_tuple
    z_len := PySem.W.mg_none_of X G z_len
    z_all := PySem.W.mg_none_of X G z_all
    z_enumerate := PySem.W.mg_none_of X G z_enumerate
    z_range := PySem.W.mg_none_of X G z_range
    z_zip := PySem.W.mg_none_of X G z_zip
    z_sum := PySem.W.mg_none_of X G z_sum
    z_min := PySem.W.mg_none_of X G z_min
    z_list := PySem.W.mg_none_of X G z_list
    z_str := PySem.W.mg_none_of X G z_str
    z_sorted := PySem.W.mg_none_of X G z_sorted
    z_set := PySem.W.mg_none_of X G z_set
  } : Prog K mg)⟩
end Mr

open PySem PySem.W PyProof.Rows in
set_option maxRecDepth 100000 in
set_option maxHeartbeats 0 in
theorem PySem.Challenge.cw_middlerows_k69_whole_cheapest_rows_holds : PySem.Challenge.rw_middlerows_k69_whole_cheapest_rows.Holds := by
  w_on; o_law; k_head; (case hw => w_witness2)
  k_fill
  refine L2.walk_of (l := PySem.Challenge.rw_middlerows_k69_whole_cheapest_rows) (n := 63) (k := 7) (x := "_law_script") (CX := fun _ => L2.CX0) (sp := fun w => Mr.spLaw _) rfl (by decide) rfl ⟨rfl, by decide, by decide⟩ (fun w h Y => PySem.W.kIn_of Y) ?F (fun _ _ a ns hl _ hS => ⟨a, ns, rfl, hS, hl, fun _ => rfl⟩) (fun _ _ _ _ _ z => z)
  case F =>
    intro w mg fa h KX G hmg
    refine' Mr.all_mk KX G hmg ?a4 ?l4 ?c4 ?k4 ?pC ?pIsFrom ?pIsWantOf ?pOff ?pIsRuleOf ?pNeedRules ?pHas ?pIsKept ?pAreKept ?pAllRows ?pKeptRows ?pNeedPrices ?pCostOf ?pBestRows ?pCheapest ?pAllCheapest ?pDearestOne ?pLTaken ?pLPick ?pLAlike ?pLAllRules ?pLRows ?pLKeeps ?pLKept ?pLSomeRules ?pLDrawn ?pLPrices ?pLCost ?gMOSTPLACES ?gMOSTPRICE ?z_isinstance ?z_int ?z_bool ?z_tuple ?z_len ?z_all ?z_enumerate ?z_range ?z_zip ?z_sum ?z_min ?z_list ?z_str ?z_sorted ?z_set
    (case a4 => k_is)
    (case l4 => k_is)
    (case c4 => k_is)
    (case k4 => k_is)
    case pC =>
      refine' Mr.clp ?aC ?a1 ?i1 ?l1 ?c1 ?k1 ?mk ?kc ?pg ?hd ?po ?sa ?ha ?hn ?htk ?hm ?nW ?nT
      (case aC => k_is)
      (case a1 => k_is)
      (case i1 => k_is)
      (case l1 => k_is)
      (case c1 => k_is)
      (case k1 => k_is)
      (case mk => k_is)
      (case kc => k_is)
      (case pg => k_is)
      (case hd => k_is)
      (case po => k_is)
      (case sa => k_is)
      (case ha => k_is)
      (case hn => k_is)
      (case htk => k_is)
      (case hm => k_is)
      (case nW => k_is)
      (case nT => k_is)
    case pIsFrom =>
      refine' Mr.dfp ?a ?l ?c ?k
      (case a => k_is)
      (case l => k_is)
      (case c => k_is)
      (case k => k_is)
    case pIsWantOf =>
      refine' Mr.dfp ?a ?l ?c ?k
      (case a => k_is)
      (case l => k_is)
      (case c => k_is)
      (case k => k_is)
    case pOff =>
      refine' Mr.dfp ?a ?l ?c ?k
      (case a => k_is)
      (case l => k_is)
      (case c => k_is)
      (case k => k_is)
    case pIsRuleOf =>
      refine' Mr.dfp ?a ?l ?c ?k
      (case a => k_is)
      (case l => k_is)
      (case c => k_is)
      (case k => k_is)
    case pNeedRules =>
      refine' Mr.dfp ?a ?l ?c ?k
      (case a => k_is)
      (case l => k_is)
      (case c => k_is)
      (case k => k_is)
    case pHas =>
      refine' Mr.dfp ?a ?l ?c ?k
      (case a => k_is)
      (case l => k_is)
      (case c => k_is)
      (case k => k_is)
    case pIsKept =>
      refine' Mr.dfp ?a ?l ?c ?k
      (case a => k_is)
      (case l => k_is)
      (case c => k_is)
      (case k => k_is)
    case pAreKept =>
      refine' Mr.dfp ?a ?l ?c ?k
      (case a => k_is)
      (case l => k_is)
      (case c => k_is)
      (case k => k_is)
    case pAllRows =>
      refine' Mr.dfp ?a ?l ?c ?k
      (case a => k_is)
      (case l => k_is)
      (case c => k_is)
      (case k => k_is)
    case pKeptRows =>
      refine' Mr.dfp ?a ?l ?c ?k
      (case a => k_is)
      (case l => k_is)
      (case c => k_is)
      (case k => k_is)
    case pNeedPrices =>
      refine' Mr.dfp ?a ?l ?c ?k
      (case a => k_is)
      (case l => k_is)
      (case c => k_is)
      (case k => k_is)
    case pCostOf =>
      refine' Mr.dfp ?a ?l ?c ?k
      (case a => k_is)
      (case l => k_is)
      (case c => k_is)
      (case k => k_is)
    case pBestRows =>
      refine' Mr.dfp ?a ?l ?c ?k
      (case a => k_is)
      (case l => k_is)
      (case c => k_is)
      (case k => k_is)
    case pCheapest =>
      refine' Mr.dfp ?a ?l ?c ?k
      (case a => k_is)
      (case l => k_is)
      (case c => k_is)
      (case k => k_is)
    case pAllCheapest =>
      refine' Mr.dfp ?a ?l ?c ?k
      (case a => k_is)
      (case l => k_is)
      (case c => k_is)
      (case k => k_is)
    case pDearestOne =>
      refine' Mr.dfp ?a ?l ?c ?k
      (case a => k_is)
      (case l => k_is)
      (case c => k_is)
      (case k => k_is)
    case pLTaken =>
      refine' Mr.dfp ?a ?l ?c ?k
      (case a => k_is)
      (case l => k_is)
      (case c => k_is)
      (case k => k_is)
    case pLPick =>
      refine' Mr.dfp ?a ?l ?c ?k
      (case a => k_is)
      (case l => k_is)
      (case c => k_is)
      (case k => k_is)
    case pLAlike =>
      refine' Mr.dfp ?a ?l ?c ?k
      (case a => k_is)
      (case l => k_is)
      (case c => k_is)
      (case k => k_is)
    case pLAllRules =>
      refine' Mr.dfp ?a ?l ?c ?k
      (case a => k_is)
      (case l => k_is)
      (case c => k_is)
      (case k => k_is)
    case pLRows =>
      refine' Mr.dfp ?a ?l ?c ?k
      (case a => k_is)
      (case l => k_is)
      (case c => k_is)
      (case k => k_is)
    case pLKeeps =>
      refine' Mr.dfp ?a ?l ?c ?k
      (case a => k_is)
      (case l => k_is)
      (case c => k_is)
      (case k => k_is)
    case pLKept =>
      refine' Mr.dfp ?a ?l ?c ?k
      (case a => k_is)
      (case l => k_is)
      (case c => k_is)
      (case k => k_is)
    case pLSomeRules =>
      refine' Mr.dfp ?a ?l ?c ?k
      (case a => k_is)
      (case l => k_is)
      (case c => k_is)
      (case k => k_is)
    case pLDrawn =>
      refine' Mr.dfp ?a ?l ?c ?k
      (case a => k_is)
      (case l => k_is)
      (case c => k_is)
      (case k => k_is)
    case pLPrices =>
      refine' Mr.dfp ?a ?l ?c ?k
      (case a => k_is)
      (case l => k_is)
      (case c => k_is)
      (case k => k_is)
    case pLCost =>
      refine' Mr.dfp ?a ?l ?c ?k
      (case a => k_is)
      (case l => k_is)
      (case c => k_is)
      (case k => k_is)
    (case gMOSTPLACES => k_is)
    (case gMOSTPRICE => k_is)
    (case z_isinstance => k_is)
    (case z_int => k_is)
    (case z_bool => k_is)
    (case z_tuple => k_is)
    (case z_len => k_is)
    (case z_all => k_is)
    (case z_enumerate => k_is)
    (case z_range => k_is)
    (case z_zip => k_is)
    (case z_sum => k_is)
    (case z_min => k_is)
    (case z_list => k_is)
    (case z_str => k_is)
    (case z_sorted => k_is)
    (case z_set => k_is)
